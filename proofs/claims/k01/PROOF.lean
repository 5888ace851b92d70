import PyProof.Rows.All
import Wide.All
import OpenK.AllK
import Wide.FinOn
import HandS.Base
import HandS.Call
import HandS.List
import HandS.Comp
import HandS.Exc
import HandS.TryOnly
import HandS.TryMany
import HandS.ExcOwn
import HandS.Words
import HandS.WordsExc
import HandS.Iter
import HandS.Wide
import HandS.WideBits
import HandS.Text
import HandS.IsInst
import HandS.Conv
import HandS.Style
import KE.GoesEnum
import KE.GoesMore
import PyProof.Draws
import PyProof.EnumMake
import HandS.TupMul
import HandS.Set
import HandS.SetFor
import HandS.SetKeys
import HandS.Strs
import HandS.TupSets
import PySem.Challenge.RW_callgames_k01_programs_judged
set_option Elab.async false
set_option linter.all false
set_option maxRecDepth 100000
set_option maxHeartbeats 1000000
/-! the D layer: values as pure data, lists by address, over the hand layer -/
namespace D2
open PySem PySem.Spec L2

/-! ### data -/
inductive D where
  | non | bl (b : Bool) | int (i : Int) | str (x : Str) | tup (xs : List D) | lro (xs : List D) | ref (a : Addr)
deriving Inhabited

/-- a list that is never written -/
def FzL (K : PySem.W.Frag) (H : Hp) (a : Addr) (xs : List V) : Prop :=
  (∃ o, H a = some (.frz o (.lst xs))) ∨
    ∃ (o : Obj) (its : Array Value) (n : Nat), K.lookup a = some o ∧ o.cls = .type "list" ∧ o.dict = none ∧ o.data = .seq its n ∧ its.size ≤ sizeLine ∧ Vals xs its.toList
theorem FzL.sq {K : PySem.W.Frag} {H : Hp} {a : Addr} {xs : List V} (h : FzL K H a xs) : SqL K H a xs := by
  rcases h with ⟨o, h⟩ | h
  · exact .inl (.inr ⟨o, h⟩)
  · exact .inr h
mutual
/-- v stands for d -/
def Rep (K : PySem.W.Frag) (H : Hp) : D → V → Prop
  | .non, v => v = .non
  | .bl b, v => v = .bl b
  | .int i, v => v = .int i
  | .str x, v => v = .str x ∧ PyData.strOk x = true
  | .tup ds, v => ∃ a vs, v = .ref a ∧ SqT K H a vs ∧ RepL K H ds vs
  | .lro ds, v => ∃ a vs, v = .ref a ∧ FzL K H a vs ∧ RepL K H ds vs
  | .ref a, v => v = .ref a
def RepL (K : PySem.W.Frag) (H : Hp) : List D → List V → Prop
  | [], vs => vs = []
  | d :: ds, vs => ∃ v r, vs = v :: r ∧ Rep K H d v ∧ RepL K H ds r
end
/-- an object that is never written -/
def Im : HO → Prop
  | .tup _ => True
  | .frz _ (.tup _) => True
  | .frz _ (.lst _) => True
  | _ => False
def TK (H H' : Hp) : Prop := ∀ a o, H a = some o → Im o → H' a = some o
theorem TK.refl (H : Hp) : TK H H := fun _ _ h _ => h
theorem TK.trans {H H1 H2 : Hp} (a : TK H H1) (b : TK H1 H2) : TK H H2 := fun c o h i => b c o (a c o h i) i
theorem TK.sqT {K : PySem.W.Frag} {H H' : Hp} (k : TK H H') {a : Addr} {xs : List V} (h : SqT K H a xs) : SqT K H' a xs := by
  rcases h with (h | ⟨o, h⟩) | h
  · exact .inl (.inl (k _ _ h trivial))
  · exact .inl (.inr ⟨o, k _ _ h trivial⟩)
  · exact .inr h
theorem TK.fzL {K : PySem.W.Frag} {H H' : Hp} (k : TK H H') {a : Addr} {xs : List V} (h : FzL K H a xs) : FzL K H' a xs := by
  rcases h with ⟨o, h⟩ | h
  · exact .inl ⟨o, k _ _ h trivial⟩
  · exact .inr h
mutual
theorem Rep.tk {K : PySem.W.Frag} {H H' : Hp} (k : TK H H') : ∀ (d : D) (v : V), Rep K H d v → Rep K H' d v
  | .non, _, h => h
  | .bl _, _, h => h
  | .int _, _, h => h
  | .str _, _, h => h
  | .ref _, _, h => h
  | .tup ds, _, ⟨a, vs, e, h, r⟩ => ⟨a, vs, e, k.sqT h, RepL.tk k ds vs r⟩
  | .lro ds, _, ⟨a, vs, e, h, r⟩ => ⟨a, vs, e, k.fzL h, RepL.tk k ds vs r⟩
theorem RepL.tk {K : PySem.W.Frag} {H H' : Hp} (k : TK H H') : ∀ (ds : List D) (vs : List V), RepL K H ds vs → RepL K H' ds vs
  | [], _, h => h
  | d :: ds, _, ⟨v, r, e, h, q⟩ => ⟨v, r, e, Rep.tk k d v h, RepL.tk k ds r q⟩
end
section
variable {K : PySem.W.Frag} {H : Hp}
theorem RepL.length : ∀ {ds : List D} {vs : List V}, RepL K H ds vs → ds.length = vs.length
  | [], _, h => by cases (show _ = [] from h); rfl
  | d :: ds, _, ⟨v, r, e, _, q⟩ => by subst e; simp [RepL.length q]
theorem RepL.get : ∀ {ds : List D} {vs : List V} {i : Nat} {d : D}, RepL K H ds vs → ds[i]? = some d → ∃ v, vs[i]? = some v ∧ Rep K H d v
  | [], _, _, _, _, e => by simp at e
  | d :: ds, _, 0, x, ⟨v, r, e, h, q⟩, e2 => by subst e; simp at e2; subst e2; exact ⟨v, rfl, h⟩
  | d :: ds, _, i + 1, x, ⟨v, r, e, h, q⟩, e2 => by
    subst e
    obtain ⟨u, h1, h2⟩ := RepL.get (i := i) (d := x) q (by simpa using e2)
    exact ⟨u, by simpa using h1, h2⟩
theorem RepL.append : ∀ {ds es : List D} {vs us : List V}, RepL K H ds vs → RepL K H es us → RepL K H (ds ++ es) (vs ++ us)
  | [], _, _, _, h, q => by cases (show _ = [] from h); exact q
  | d :: ds, _, _, _, ⟨v, r, e, h, q⟩, q2 => by subst e; exact ⟨v, r ++ _, rfl, h, RepL.append q q2⟩
theorem RepL.take : ∀ (n : Nat) {ds : List D} {vs : List V}, RepL K H ds vs → RepL K H (ds.take n) (vs.take n)
  | 0, _, _, _ => by simp [RepL]
  | n + 1, [], _, h => by cases (show _ = [] from h); simp [RepL]
  | n + 1, d :: ds, _, ⟨v, r, e, h, q⟩ => by subst e; exact ⟨v, r.take n, rfl, h, RepL.take n q⟩
theorem RepL.drop : ∀ (n : Nat) {ds : List D} {vs : List V}, RepL K H ds vs → RepL K H (ds.drop n) (vs.drop n)
  | 0, _, _, h => by simpa using h
  | n + 1, [], _, h => by cases (show _ = [] from h); simp [RepL]
  | n + 1, d :: ds, _, ⟨v, r, e, h, q⟩ => by subst e; simpa using RepL.drop n q
theorem RepL.set : ∀ (i : Nat) {ds : List D} {vs : List V} {d : D} {v : V}, Rep K H d v → RepL K H ds vs → RepL K H (ds.set i d) (vs.set i v)
  | _, [], _, _, _, _, h => by cases (show _ = [] from h); simp [RepL]
  | 0, d :: ds, _, _, _, r0, ⟨v, r, e, h, q⟩ => by subst e; exact ⟨_, r, rfl, r0, q⟩
  | i + 1, d :: ds, _, _, _, r0, ⟨v, r, e, h, q⟩ => by subst e; exact ⟨v, _, rfl, h, RepL.set i r0 q⟩
theorem RepL.eraseIdx : ∀ (i : Nat) {ds : List D} {vs : List V}, RepL K H ds vs → RepL K H (ds.eraseIdx i) (vs.eraseIdx i)
  | _, [], _, h => by cases (show _ = [] from h); simp [RepL]
  | 0, d :: ds, _, ⟨v, r, e, h, q⟩ => by subst e; exact q
  | i + 1, d :: ds, _, ⟨v, r, e, h, q⟩ => by subst e; exact ⟨v, _, rfl, h, RepL.eraseIdx i q⟩
theorem RepL.reverse {ds : List D} {vs : List V} (h : RepL K H ds vs) : RepL K H ds.reverse vs.reverse := by
  induction ds generalizing vs with
  | nil => cases (show _ = [] from h); simp [RepL]
  | cons d ds ih =>
    obtain ⟨v, r, e, h, q⟩ := h
    subst e
    rw [List.reverse_cons, List.reverse_cons]
    exact RepL.append (ih q) ⟨v, [], rfl, h, rfl⟩
theorem RepL.one {d : D} {v : V} (h : Rep K H d v) : RepL K H [d] [v] := ⟨v, [], rfl, h, rfl⟩
theorem RepL.dropLast {ds : List D} {vs : List V} (h : RepL K H ds vs) : RepL K H ds.dropLast vs.dropLast := by
  rw [List.dropLast_eq_take, List.dropLast_eq_take, h.length]; exact RepL.take _ h
theorem RepL.rep {ds : List D} {vs : List V} (h : RepL K H ds vs) : ∀ k : Nat, RepL K H (List.replicate k ds).flatten (List.replicate k vs).flatten
  | 0 => by simp [RepL]
  | k + 1 => by simp only [List.replicate_succ, List.flatten_cons]; exact RepL.append h (RepL.rep h k)
theorem RepL.none_of {ds : List D} {vs : List V} {i : Nat} (h : RepL K H ds vs) (e : ds[i]? = none) : vs[i]? = none := by
  have := h.length
  rw [List.getElem?_eq_none_iff] at e ⊢
  omega
theorem repL_ints : ∀ {ns : List Int} {vs : List V}, RepL K H (ns.map D.int) vs → vs = ns.map V.int
  | [], _, h => h
  | n :: ns, _, ⟨v, r, e, h, q⟩ => by subst e; cases (show v = _ from h); rw [repL_ints q]; rfl
theorem repL_of_ints : ∀ (ns : List Int), RepL K H (ns.map D.int) (ns.map V.int)
  | [] => rfl
  | n :: ns => ⟨_, _, rfl, rfl, repL_of_ints ns⟩
theorem repL_strs : ∀ {ns : List Str} {vs : List V}, RepL K H (ns.map D.str) vs → vs = ns.map V.str
  | [], _, h => h
  | n :: ns, _, ⟨v, r, e, h, q⟩ => by subst e; cases (show v = _ from h.1); rw [repL_strs q]; rfl
theorem repL_bls : ∀ {ns : List Bool} {vs : List V}, RepL K H (ns.map D.bl) vs → vs = ns.map V.bl
  | [], _, h => h
  | n :: ns, _, ⟨v, r, e, h, q⟩ => by subst e; cases (show v = _ from h); rw [repL_bls q]; rfl
end

/-! ### lists by address -/
inductive DO where
  | lst (ds : List D)
abbrev DH := Addr → Option DO
def upd (L : DH) (a : Addr) (o : DO) : DH := fun b => if b = a then some o else L b
theorem updD_same {L : DH} {a : Addr} {o : DO} : upd L a o a = some o := by unfold upd; rw [if_pos rfl]
theorem updD_ne {L : DH} {a b : Addr} {o : DO} (h : b ≠ a) : upd L a o b = L b := by unfold upd; rw [if_neg h]
theorem updD_upd {L : DH} {a : Addr} {o u : DO} : upd (upd L a o) a u = upd L a u := by
  funext b; unfold upd; split <;> rfl
def OkO (K : PySem.W.Frag) (H : Hp) (a : Addr) : DO → Prop
  | .lst ds => ∃ vs, H a = some (.lst vs) ∧ RepL K H ds vs
def HR (K : PySem.W.Frag) (H : Hp) (L : DH) : Prop := ∀ a o, L a = some o → OkO K H a o
/-- what is not in L stays -/
def Kp (H : Hp) (L : DH) (H' : Hp) (L' : DH) : Prop := ∀ a o, H a = some o → L a = none → H' a = some o ∧ L' a = none
section
variable {K : PySem.W.Frag} {H H' H1 H2 : Hp} {L L' L1 LB : DH}
theorem Kp.refl : Kp H L H L := fun _ _ h n => ⟨h, n⟩
theorem Kp.trans (a : Kp H L H1 L1) (b : Kp H1 L1 H2 LB) : Kp H L H2 LB := fun c o h n => b c o (a c o h n).1 (a c o h n).2
theorem OkO.lst_of {a : Addr} {o : DO} (h : OkO K H a o) : ∃ vs, H a = some (.lst vs) := by
  cases o with | lst ds => obtain ⟨vs, h, _⟩ := h; exact ⟨vs, h⟩
theorem HR.free (r : HR K H L) {a : Addr} (h : H a = none) : L a = none := by
  cases e : L a with
  | none => rfl
  | some o =>
    obtain ⟨vs, q⟩ := (r a o e).lst_of
    rw [h] at q; cases q
theorem Kp.tk (k : Kp H L H' L') (r : HR K H L) : TK H H' := fun a o h i => by
  refine (k a o h ?_).1
  cases e : L a with
  | none => rfl
  | some u =>
    obtain ⟨vs, q⟩ := (r a u e).lst_of
    rw [h] at q; cases q; exact i.elim
theorem OkO.tk (k : TK H H') {a : Addr} {o : DO} (h : OkO K H a o) (e : ∀ u, H a = some u → H' a = some u) : OkO K H' a o := by
  cases o with | lst ds => obtain ⟨vs, h, r⟩ := h; exact ⟨vs, e _ h, RepL.tk k ds vs r⟩
/-- a smaller L -/
def Le (L' L : DH) : Prop := ∀ a o, L' a = some o → L a = some o
theorem Le.refl : Le L L := fun _ _ h => h
theorem Le.trans (a : Le L L1) (b : Le L1 L2) : Le L L2 := fun c o h => b c o (a c o h)
theorem Le.none (l : Le L' L) {a : Addr} (h : L a = none) : L' a = none := by
  cases e : L' a with
  | none => rfl
  | some o => rw [l a o e] at h; cases h
theorem HR.le (r : HR K H L) (l : Le L' L) : HR K H L' := fun a o h => r a o (l a o h)
theorem Kp.le (k : Kp H L H' L1) (l : Le L' L1) : Kp H L H' L' := fun a o h n => ⟨(k a o h n).1, l.none (k a o h n).2⟩
theorem Le.upd {a : Addr} {o : DO} (h : L a = Option.none) : Le L (upd L a o) := fun b u e => by
  rw [updD_ne (by rintro rfl; rw [h] at e; cases e)]; exact e
/-- a new list -/
theorem HR.new (r : HR K H L) {p : Addr} {ds : List D} {vs : List V} (hp : H p = none) (q : RepL K H ds vs) :
    HR K (L2.upd H p (.lst vs)) (upd L p (.lst ds)) ∧ Kp H L (L2.upd H p (.lst vs)) (upd L p (.lst ds)) := by
  have tk : TK H (L2.upd H p (.lst vs)) := fun a o h _ => by rw [upd_ne (ne_of_none h hp)]; exact h
  refine ⟨fun a o h => ?_, fun a o h n => ⟨by rw [upd_ne (ne_of_none h hp)]; exact h, by rw [updD_ne (ne_of_none h hp)]; exact n⟩⟩
  by_cases e : a = p
  · subst e
    rw [updD_same] at h; cases h
    exact ⟨vs, upd_same, RepL.tk tk ds vs q⟩
  · rw [updD_ne e] at h
    exact (r a o h).tk tk fun u hu => by rw [upd_ne e]; exact hu
/-- a list written -/
theorem HR.set (r : HR K H L) {p : Addr} {es ds : List D} {vs : List V} (hp : L p = some (.lst es)) (q : RepL K H ds vs) :
    HR K (L2.upd H p (.lst vs)) (upd L p (.lst ds)) ∧ Kp H L (L2.upd H p (.lst vs)) (upd L p (.lst ds)) := by
  obtain ⟨us, hu, _⟩ := r p _ hp
  have ne : ∀ a, L a = none → a ≠ p := fun a n e => by subst e; rw [n] at hp; cases hp
  have tk : TK H (L2.upd H p (.lst vs)) := fun a o h i => by
    rw [upd_ne]; exact h
    rintro rfl
    rw [hu] at h; cases h; exact i.elim
  refine ⟨fun a o h => ?_, fun a o h n => ⟨by rw [upd_ne (ne a n)]; exact h, by rw [updD_ne (ne a n)]; exact n⟩⟩
  by_cases e : a = p
  · subst e
    rw [updD_same] at h; cases h
    exact ⟨vs, upd_same, RepL.tk tk ds vs q⟩
  · rw [updD_ne e] at h
    exact (r a o h).tk tk fun u hu => by rw [upd_ne e]; exact hu
/-- another new object (a tuple) -/
theorem HR.laid (r : HR K H L) {p : Addr} {o : HO} (hp : H p = none) : HR K (L2.upd H p o) L ∧ Kp H L (L2.upd H p o) L := by
  have tk : TK H (L2.upd H p o) := fun a o h _ => by rw [upd_ne (ne_of_none h hp)]; exact h
  refine ⟨fun a o h => ?_, fun a o h n => ⟨by rw [upd_ne (ne_of_none h hp)]; exact h, n⟩⟩
  have ne : a ≠ p := by rintro rfl; rw [r.free hp] at h; cases h
  exact (r a o h).tk tk fun u hu => by rw [upd_ne ne]; exact hu
theorem HR.tk_new {p : Addr} {o : HO} (hp : H p = none) : TK H (L2.upd H p o) := fun a o h _ => by rw [upd_ne (ne_of_none h hp)]; exact h
end

/-! ### slots -/
abbrev DSt := List (Option D)
def SR (K : PySem.W.Frag) (H : Hp) (s : DSt) (σ : St) : Prop := s.length = σ.length ∧ ∀ (i : Nat) (d : D), s[i]? = some (some d) → ∃ v, σ[i]? = some (some v) ∧ Rep K H d v
section
variable {K : PySem.W.Frag} {H H' : Hp} {s : DSt} {σ : St}
theorem SR.tk (k : TK H H') (h : SR K H s σ) : SR K H' s σ := ⟨h.1, fun i d e => let ⟨v, e2, r⟩ := h.2 i d e; ⟨v, e2, Rep.tk k d v r⟩⟩
theorem SR.set (h : SR K H s σ) {d : D} {v : V} (r : Rep K H d v) (i : Nat) : SR K H (s.set i (some d)) (σ.set i (some v)) := by
  refine ⟨by simp [h.1], fun j e q => ?_⟩
  by_cases hj : i = j
  · subst hj
    rw [List.getElem?_set] at q
    simp at q
    obtain ⟨hl, e'⟩ := q
    rw [← e']
    refine ⟨v, ?_, r⟩
    rw [List.getElem?_set]
    simp [h.1 ▸ hl]
  · rw [List.getElem?_set_ne hj] at q
    obtain ⟨u, e2, r2⟩ := h.2 j e q
    exact ⟨u, by rw [List.getElem?_set_ne hj]; exact e2, r2⟩
theorem SR.none (h : SR K H s σ) (i : Nat) (o : Option V) : SR K H (s.set i none) (σ.set i o) := by
  refine ⟨by simp [h.1], fun j e q => ?_⟩
  by_cases hj : i = j
  · subst hj
    rw [List.getElem?_set] at q
    simp at q
  · rw [List.getElem?_set_ne hj] at q
    obtain ⟨u, e2, r2⟩ := h.2 j e q
    exact ⟨u, by rw [List.getElem?_set_ne hj]; exact e2, r2⟩
end
def dstart (n : Nat) (ds : List D) : DSt := ds.map some ++ List.replicate (n - ds.length) none
theorem RepL.slots {K : PySem.W.Frag} {H : Hp} {ds : List D} {vs : List V} (h : RepL K H ds vs) (N : List Str) : SR K H (dstart N.length ds) (L2.start N vs) := by
  refine ⟨by simp [dstart, L2.start, h.length], fun i d e => ?_⟩
  unfold dstart at e
  unfold L2.start
  by_cases hi : i < ds.length
  · rw [List.getElem?_append_left (by simpa using hi)] at e
    rw [List.getElem?_append_left (by simpa [← h.length] using hi)]
    rw [List.getElem?_map] at e ⊢
    cases q : ds[i]? with
    | none => rw [q] at e; cases e
    | some d' =>
      rw [q] at e
      have e' : d' = d := by simpa using e
      subst e'
      obtain ⟨v, h1, h2⟩ := h.get q
      exact ⟨v, by rw [h1]; rfl, h2⟩
  · rw [List.getElem?_append_right (by simpa using Nat.le_of_not_lt hi)] at e
    rw [List.getElem?_replicate] at e
    split at e <;> cases e

/-! ### expressions -/
/-- the written part, the module's names -/
structure KM where
  K : PySem.W.Frag
  mg : Str → Option Value
abbrev XD := Str → List (Str × D) → DH → Prop
abbrev DK := D → DH → Prop
abbrev DE := DSt → DH → DK → XD → Prop
abbrev DT := DSt → DH → (Bool → DH → Prop) → XD → Prop
abbrev DA := DSt → DH → (List D → DH → Prop) → XD → Prop
/-- an exception with its fields -/
def FRep (K : PySem.W.Frag) (H : Hp) : List (Str × D) → List (Str × V) → Prop
  | [], vs => vs = []
  | (f, d) :: fs, vs => ∃ v r, vs = (f, v) :: r ∧ Rep K H d v ∧ FRep K H fs r
def XRep (M : KM) (H : Hp) (C : Str) (fs : List (Str × D)) (cls : Value) (dx : Option Addr) : Prop :=
  M.mg C = some cls ∧ (fs = [] ∨ ∃ d vs, dx = some d ∧ H d = some (.xd vs) ∧ FRep M.K H fs vs)
/-- what stands behind an expression -/
structure LP (M : KM) (W : WX) (σ : St) (H : Hp) (L : DH) (E : XD) : Prop where
  ex : ∀ C fs L' cls dx H', E C fs L' → XRep M H' C fs cls dx → HR M.K H' L' → Kp H L H' L' → W cls dx σ H'
def liftE (M : KM) (W : WX) (de : DE) : TE := fun σ H Q => ∃ s L Qd Ed, SR M.K H s σ ∧ HR M.K H L ∧ de s L Qd Ed ∧
  (∀ d L' v H', Qd d L' → Rep M.K H' d v → HR M.K H' L' → Kp H L H' L' → Q v H') ∧ LP M W σ H L Ed
def liftT (M : KM) (W : WX) (de : DT) : TT := fun σ H Q => ∃ s L Qd Ed, SR M.K H s σ ∧ HR M.K H L ∧ de s L Qd Ed ∧
  (∀ b L' H', Qd b L' → HR M.K H' L' → Kp H L H' L' → Q b H') ∧ LP M W σ H L Ed
def liftA (M : KM) (W : WX) (de : DA) : TA := fun σ H Q => ∃ s L Qd Ed, SR M.K H s σ ∧ HR M.K H L ∧ de s L Qd Ed ∧
  (∀ ds L' vs H', Qd ds L' → RepL M.K H' ds vs → HR M.K H' L' → Kp H L H' L' → Q vs H') ∧ LP M W σ H L Ed
section
variable {M : KM} {W : WX} {σ : St} {H H1 : Hp} {L L1 : DH} {Ed : XD}
theorem LP.after (h : LP M W σ H L Ed) (k : Kp H L H1 L1) : LP M W σ H1 L1 Ed := ⟨fun C fs L' cls dx H' e x r k' => h.ex C fs L' cls dx H' e x r (k.trans k')⟩
end
theorem PE_mono {X : Cx} {e : Expr} {t t' : TE} (h : PE X e t) (i : ∀ σ H Q, t' σ H Q → t σ H Q) : PE X e t' := ⟨fun pins s σ H Q I q => h.run pins s σ H Q I (i σ H Q q)⟩
theorem PT_mono {X : Cx} {e : Expr} {t t' : TT} (h : PT X e t) (i : ∀ σ H Q, t' σ H Q → t σ H Q) : PT X e t' := ⟨fun pins s σ H Q I q => h.run pins s σ H Q I (i σ H Q q)⟩
theorem PW_mono {X : Cx} {e : Expr} {t t' : TT} (h : PW X e t) (i : ∀ σ H Q, t' σ H Q → t σ H Q) : PW X e t' := ⟨fun wh pins s σ H Q I q => h.run wh pins s σ H Q I (i σ H Q q)⟩
theorem PA_mono {X : Cx} {e : List Expr} {t t' : TA} (h : PA X e t) (i : ∀ σ H Q, t' σ H Q → t σ H Q) : PA X e t' := ⟨fun pos pins s σ H Q I q => h.run pos pins s σ H Q I (i σ H Q q)⟩
theorem PS_mono {X : Cx} {e : Stmt} {t t' : TS} (h : PS X e t) (i : ∀ D σ H, t' D σ H → t D σ H) : PS X e t' := ⟨fun pins s σ H D I q => h.run pins s σ H D I (i D σ H q)⟩
theorem PSs_mono {X : Cx} {e : List Stmt} {t t' : TS} (h : PSs X e t) (i : ∀ D σ H, t' D σ H → t D σ H) : PSs X e t' := ⟨fun pins s σ H D I q => h.run pins s σ H D I (i D σ H q)⟩
abbrev _root_.L2.Cx.km (X : Cx) : KM := ⟨X.K, X.mg⟩
/-- the judgements -/
structure QE (X : Cx) (W : WX) (e : Expr) (de : DE) : Prop where
  pe : PE X e (liftE X.km W de)
structure QT (X : Cx) (W : WX) (e : Expr) (de : DT) : Prop where
  pt : PT X e (liftT X.km W de)
structure QW (X : Cx) (W : WX) (e : Expr) (de : DT) : Prop where
  pw : PW X e (liftT X.km W de)
structure QA (X : Cx) (W : WX) (es : List Expr) (de : DA) : Prop where
  pa : PA X es (liftA X.km W de)

section
variable {M : KM} {W : WX} {σ : St} {H : Hp}
/-- one expression, then the rest -/
theorem liftE_bind {da : DE} {s : DSt} {L : DH} {Qd : DK} {Ed : XD} {R : VK} (hs : SR M.K H s σ) (hr : HR M.K H L) (lp : LP M W σ H L Ed) (h : da s L Qd Ed)
    (hk : ∀ d L1 x H1, Qd d L1 → Rep M.K H1 d x → HR M.K H1 L1 → Kp H L H1 L1 → SR M.K H1 s σ → TK H H1 → LP M W σ H1 L1 Ed → R x H1) : liftE M W da σ H R :=
  ⟨s, L, Qd, Ed, hs, hr, h, fun d L1 x H1 q r r1 k => hk d L1 x H1 q r r1 k (hs.tk (k.tk hr)) (k.tk hr) (lp.after k), lp⟩
theorem liftT_bind {da : DT} {s : DSt} {L : DH} {Qd : Bool → DH → Prop} {Ed : XD} {R : Bool → Hp → Prop} (hs : SR M.K H s σ) (hr : HR M.K H L) (lp : LP M W σ H L Ed) (h : da s L Qd Ed)
    (hk : ∀ d L1 H1, Qd d L1 → HR M.K H1 L1 → Kp H L H1 L1 → SR M.K H1 s σ → TK H H1 → LP M W σ H1 L1 Ed → R d H1) : liftT M W da σ H R :=
  ⟨s, L, Qd, Ed, hs, hr, h, fun d L1 H1 q r1 k => hk d L1 H1 q r1 k (hs.tk (k.tk hr)) (k.tk hr) (lp.after k), lp⟩
theorem liftA_bind {da : DA} {s : DSt} {L : DH} {Qd : List D → DH → Prop} {Ed : XD} {R : List V → Hp → Prop} (hs : SR M.K H s σ) (hr : HR M.K H L) (lp : LP M W σ H L Ed) (h : da s L Qd Ed)
    (hk : ∀ d L1 x H1, Qd d L1 → RepL M.K H1 d x → HR M.K H1 L1 → Kp H L H1 L1 → SR M.K H1 s σ → TK H H1 → LP M W σ H1 L1 Ed → R x H1) : liftA M W da σ H R :=
  ⟨s, L, Qd, Ed, hs, hr, h, fun d L1 x H1 q r r1 k => hk d L1 x H1 q r r1 k (hs.tk (k.tk hr)) (k.tk hr) (lp.after k), lp⟩
end
/-! names, constants -/
def dVar (i : Nat) : DE := fun s L Q _ => ∃ d, s[i]? = some (some d) ∧ Q d L
def dC (d : D) : DE := fun _ L Q _ => Q d L
section
variable {X : Cx} {W : WX} {pos : Pos} {a b c : Expr} {da db dc : DE}
theorem qv (i : Nat) {x : Str} (hN : X.N[i]? = some x := by rfl) (hv : Vis X.env.scope x := by first | exact Or.inl rfl | exact Or.inr (Or.inl rfl) | exact Or.inr (Or.inr rfl)) (hd : (x == ("__debug__" : Str)) = false := by decide)
    (hcd : (x == ("__classdict__" : Str)) = false := by decide) : QE X W (.Name x pos) (dVar i) :=
  ⟨PE_mono (pe_var hN hv hd hcd) fun σ H Q ⟨s, L, Qd, Ed, hs, hr, ⟨d, e, q⟩, hq, lp⟩ =>
    let ⟨v, e2, r⟩ := hs.2 i d e
    ⟨v, e2, hq d L v H q r hr .refl⟩⟩
theorem q_const {e : Expr} {v : V} {d : D} (h : PE X e (tC v)) (r : ∀ H, Rep X.K H d v) : QE X W e (dC d) :=
  ⟨PE_mono h fun σ H Q ⟨s, L, Qd, Ed, hs, hr, h, hq, lp⟩ => hq d L v H h (r H) hr .refl⟩
theorem q_int {i : Int} {j : Nat} : QE X W (.Constant (.int i) j pos) (dC (.int i)) := q_const pe_int fun _ => rfl
theorem q_bl {i : Bool} {j : Nat} : QE X W (.Constant (.bool i) j pos) (dC (.bl i)) := q_const pe_bl fun _ => rfl
theorem q_non {j : Nat} : QE X W (.Constant .none j pos) (dC .non) := q_const pe_non fun _ => rfl
theorem q_str {i : Str} {j : Nat} (h : PyData.strOk i = true := by decide +kernel) : QE X W (.Constant (.str i) j pos) (dC (.str i)) := q_const pe_str fun _ => ⟨rfl, h⟩
theorem q_glob {x : Str} {v : V} {d : D} {u : Value} (hg : Gl X x) (hm : X.mg x = some u) (rl : RelV v u) (r : ∀ H, Rep X.K H d v) (hd : (x == ("__debug__" : Str)) = false := by decide) : QE X W (.Name x pos) (dC d) := q_const (pe_glob hg hm rl hd) r
/-! operators by values -/
abbrev RD2 := D → D → DH → DK → Prop
def OpD (K : PySem.W.Frag) (r : R2) (rD : RD2) : Prop := ∀ (H : Hp) (L : DH) (d e : D) (x y : V) (Qd : DK) (Q : VK), Rep K H d x → Rep K H e y → HR K H L → rD d e L Qd →
  (∀ d' L' v H', Qd d' L' → Rep K H' d' v → HR K H' L' → Kp H L H' L' → Q v H') → r x y H Q
def dOp (rD : RD2) (da db : DE) : DE := fun s L Q E => da s L (fun x L1 => db s L1 (fun y L2 => rD x y L2 Q) E) E
theorem lift_op {r : R2} {rD : RD2} {M : KM} (h : OpD M.K r rD) {σ : St} {H : Hp} {Q : VK} (q : liftE M W (dOp rD da db) σ H Q) : tOp r (liftE M W da) (liftE M W db) σ H Q := by
  obtain ⟨s, L, Qd, Ed, hs, hr, q, hq, lp⟩ := q
  refine liftE_bind hs hr lp q fun d L1 x H1 q1 r1 hr1 k1 hs1 t1 lp1 => ?_
  refine liftE_bind hs1 hr1 lp1 q1 fun e L2 y H2 q2 r2 hr2 k2 hs2 t2 lp2 => ?_
  exact h H2 L2 d e x y Qd Q (Rep.tk t2 _ _ r1) r2 hr2 q2 fun d' L' v H' a b c k => hq d' L' v H' a b c ((k1.trans k2).trans k)
theorem q_op {op : Operator} {r : R2} {rD : RD2} (ho : OpR X (binaryOp op) r) (h : OpD X.K r rD) (ha : QE X W a da) (hb : QE X W b db) : QE X W (.BinOp a op b pos) (dOp rD da db) :=
  ⟨PE_mono (pe_op ho ha.pe hb.pe) fun _ _ _ q => lift_op h q⟩
theorem q_cmp {op : CmpOp} {r : R2} {rD : RD2} (ho : OpR X (compareOp op) r) (h : OpD X.K r rD) (ha : QE X W a da) (hb : QE X W b db) (hm : behindInMarks op b = false) : QE X W (.Compare a [op] [b] pos) (dOp rD da db) :=
  ⟨PE_mono (pe_cmpR ho ha.pe hb.pe hm) fun _ _ _ q => lift_op h q⟩
theorem q_ix {r : R2} {rD : RD2} (hi : IxR X r) (h : OpD X.K r rD) (ha : QE X W a da) (hb : QE X W b db) (hs : PlainIx b) : QE X W (.Subscript a b pos) (dOp rD da db) :=
  ⟨PE_mono (pe_ix hi ha.pe hb.pe hs) fun _ _ _ q => lift_op h q⟩
theorem OpD.or {K : PySem.W.Frag} {r r' : R2} {rD rD' : RD2} (h : OpD K r rD) (h' : OpD K r' rD') : OpD K (fun x y H Q => r x y H Q ∨ r' x y H Q) (fun x y L Q => rD x y L Q ∨ rD' x y L Q) :=
  fun H L d e x y Qd Q a b c q k => q.elim (fun z => .inl (h H L d e x y Qd Q a b c z k)) fun z => .inr (h' H L d e x y Qd Q a b c z k)
def UnD (K : PySem.W.Frag) (r : V → Hp → VK → Prop) (rD : D → DH → DK → Prop) : Prop := ∀ (H : Hp) (L : DH) (d : D) (x : V) (Qd : DK) (Q : VK), Rep K H d x → HR K H L → rD d L Qd →
  (∀ d' L' v H', Qd d' L' → Rep K H' d' v → HR K H' L' → Kp H L H' L' → Q v H') → r x H Q
def dUn (rD : D → DH → DK → Prop) (da : DE) : DE := fun s L Q E => da s L (fun x L1 => rD x L1 Q) E
theorem q_un {op : UnaryOp} {r : V → Hp → VK → Prop} {rD : D → DH → DK → Prop} (ho : UnR X (unaryOp op) r) (h : UnD X.K r rD) (ha : QE X W a da) : QE X W (.UnaryOp op a pos) (dUn rD da) :=
  ⟨PE_mono (pe_un ho ha.pe) fun σ H Q ⟨s, L, Qd, Ed, hs, hr, q, hq, lp⟩ => liftE_bind hs hr lp q fun d L1 x H1 q1 r1 hr1 k1 _ _ _ =>
    h H1 L1 d x Qd Q r1 hr1 q1 fun d' L' v H' a b c k => hq d' L' v H' a b c (k1.trans k)⟩
/-! arguments, displays, calls by values -/
def dNil : DA := fun _ L Q _ => Q [] L
def dCons (da : DE) (dr : DA) : DA := fun s L Q E => da s L (fun x L1 => dr s L1 (fun xs L2 => Q (x :: xs) L2) E) E
theorem qa_nil : QA X W [] dNil := ⟨PA_mono pa_nil fun σ H Q ⟨s, L, Qd, Ed, hs, hr, q, hq, lp⟩ => hq [] L [] H q rfl hr .refl⟩
theorem qa_cons {es : List Expr} {dr : DA} (ha : QE X W a da) (hb : QA X W es dr) (hs : starEach (a :: es) X.env = (false, eval a X.env) :: starEach es X.env := by rfl) : QA X W (a :: es) (dCons da dr) :=
  ⟨PA_mono (pa_cons ha.pe hb.pa hs) fun σ H Q ⟨s, L, Qd, Ed, hs, hr, q, hq, lp⟩ => liftE_bind hs hr lp q fun d L1 x H1 q1 r1 hr1 k1 hs1 t1 lp1 =>
    liftA_bind hs1 hr1 lp1 q1 fun ds L2 xs H2 q2 r2 hr2 k2 hs2 t2 lp2 => hq _ L2 _ H2 q2 ⟨x, xs, rfl, Rep.tk t2 _ _ r1, r2⟩ hr2 (k1.trans k2)⟩
def dTup (t : DA) : DE := fun s L Q E => t s L (fun ds L1 => ds.length ≤ 16777216 ∧ Q (.tup ds) L1) E
def dLst (t : DA) : DE := fun s L Q E => t s L (fun ds L1 => ds.length ≤ 16777216 ∧ ∀ p, L1 p = none → Q (.ref p) (upd L1 p (.lst ds))) E
theorem line_of {n : Nat} (h : n ≤ 16777216) : n ≤ sizeLine := by rw [sizeLine_eq]; exact h
theorem line_lt {n : Nat} (h : n < 16777216) : n < sizeLine := by rw [sizeLine_eq]; exact h
theorem q_tup {es : List Expr} {t : DA} {k : Nat} (h : QA X W es t) : QE X W (.Tuple es k pos) (dTup t) :=
  ⟨PE_mono (pe_tup h.pa) fun σ H Q ⟨s, L, Qd, Ed, hs, hr, q, hq, lp⟩ => liftA_bind hs hr lp q fun ds L1 vs H1 ⟨ql, q1⟩ r1 hr1 k1 hs1 t1 lp1 =>
    ⟨by rw [← r1.length]; exact line_of ql, fun p hp => hq _ L1 _ _ q1 ⟨p, vs, rfl, .inl (.inl upd_same), RepL.tk (HR.tk_new hp) _ _ r1⟩ (hr1.laid hp).1 (k1.trans (hr1.laid hp).2)⟩⟩
theorem q_lst {es : List Expr} {t : DA} (h : QA X W es t) : QE X W (.List es pos) (dLst t) :=
  ⟨PE_mono (pe_lst h.pa) fun σ H Q ⟨s, L, Qd, Ed, hs, hr, q, hq, lp⟩ => liftA_bind hs hr lp q fun ds L1 vs H1 ⟨ql, q1⟩ r1 hr1 k1 hs1 t1 lp1 =>
    ⟨by rw [← r1.length]; exact line_of ql, fun p hp => hq _ _ _ _ (q1 p (hr1.free hp)) rfl (hr1.new hp r1).1 (k1.trans (hr1.new hp r1).2)⟩⟩
abbrev RDA := List D → DH → DK → Prop
def CallD (K : PySem.W.Frag) (r : List V → Hp → VK → Prop) (rD : RDA) : Prop := ∀ (H : Hp) (L : DH) (ds : List D) (xs : List V) (Qd : DK) (Q : VK), RepL K H ds xs → HR K H L → rD ds L Qd →
  (∀ d' L' v H', Qd d' L' → Rep K H' d' v → HR K H' L' → Kp H L H' L' → Q v H') → r xs H Q
def dCB (rD : RDA) (t : DA) : DE := fun s L Q E => t s L (fun ds L1 => rD ds L1 Q) E
theorem lift_cb {M : KM} {r : List V → Hp → VK → Prop} {rD : RDA} {t : DA} (h : CallD M.K r rD) {σ : St} {H : Hp} {Q : VK} (q : liftE M W (dCB rD t) σ H Q) : tCB r (liftA M W t) σ H Q := by
  obtain ⟨s, L, Qd, Ed, hs, hr, q, hq, lp⟩ := q
  exact liftA_bind hs hr lp q fun ds L1 vs H1 q1 r1 hr1 k1 hs1 t1 lp1 => h H1 L1 ds vs Qd Q r1 hr1 q1 fun d' L' v H' a b c k => hq d' L' v H' a b c (k1.trans k)
theorem CallD.or {K : PySem.W.Frag} {r r' : List V → Hp → VK → Prop} {rD rD' : RDA} (h : CallD K r rD) (h' : CallD K r' rD') : CallD K (fun x H Q => r x H Q ∨ r' x H Q) (fun x L Q => rD x L Q ∨ rD' x L Q) :=
  fun H L d x Qd Q a c q k => q.elim (fun z => .inl (h H L d x Qd Q a c z k)) fun z => .inr (h' H L d x Qd Q a c z k)
theorem q_callB {x : Str} {id : String} {r : List V → Hp → VK → Prop} {rD : RDA} {e : Expr} {es : List Expr} {p : Pos} {t : DA} (hc : CallR X (.builtin id) r) (h : CallD X.K r rD) (hg : Gl X x) (hm : X.mg x = none) (hv : bootBuiltins x = some (.builtin id)) (ha : QA X W (e :: es) t)
    (hn : x ≠ "__name__" := by decide) (hdb : (x == ("__debug__" : Str)) = false := by decide) (he : starEach (e :: es) X.env = (false, eval e X.env) :: starEach es X.env := by rfl) (hpl : (backTo pos (starEach es X.env)).any (·.1) = false := by rfl) : QE X W (.Call (.Name x p) (e :: es) [] pos) (dCB rD t) :=
  ⟨PE_mono (pe_callB hc hg hm hv ha.pa hn hdb he hpl) fun _ _ _ q => lift_cb h q⟩
theorem q_callTy {x : Str} {T : String} {r : List V → Hp → VK → Prop} {rD : RDA} {e : Expr} {es : List Expr} {p : Pos} {t : DA} (hc : CallR X (.type T) r) (h : CallD X.K r rD) (hg : Gl X x) (hm : X.mg x = none) (hv : bootBuiltins x = some (.type T)) (ha : QA X W (e :: es) t)
    (hn : x ≠ "__name__" := by decide) (hdb : (x == ("__debug__" : Str)) = false := by decide) (he : starEach (e :: es) X.env = (false, eval e X.env) :: starEach es X.env := by rfl) (hpl : (backTo pos (starEach es X.env)).any (·.1) = false := by rfl) : QE X W (.Call (.Name x p) (e :: es) [] pos) (dCB rD t) :=
  ⟨PE_mono (pe_callTy hc hg hm hv ha.pa hn hdb he hpl) fun _ _ _ q => lift_cb h q⟩
end
end D2

set_option Elab.async false
set_option linter.all false
set_option maxRecDepth 100000
set_option maxHeartbeats 1000000
namespace D2
open PySem PySem.Spec L2
/-! ### tests -/
section
variable {X : Cx} {W : WX} {pos : Pos} {a b c : Expr} {da db dc : DE} {ta tb : DT} {rest : List Expr}
def dTest (de : DE) : DT := fun s L Q E => de s L (fun d L1 => ∃ k, d = .bl k ∧ Q k L1) E
theorem liftE_to_tB {M : KM} {σ : St} {H : Hp} {Q : Bool → Hp → Prop} (q : liftT M W (dTest da) σ H Q) : tB (liftE M W da) σ H Q := by
  obtain ⟨s, L, Qd, Ed, hs, hr, q, hq, lp⟩ := q
  refine liftE_bind hs hr lp q fun d L1 x H1 ⟨k, e, q1⟩ r1 hr1 k1 hs1 t1 lp1 => ?_
  subst e
  cases (show x = _ from r1)
  exact ⟨k, rfl, hq k L1 H1 q1 hr1 k1⟩
theorem qt_val {e : Expr} {de : DE} (h : QE X W e de) (he : ∀ whole, isTrue e X.env whole = (do let v ← whole; standAt e.pos; holding [v] (truthy v)) := by intro _; rfl) : QT X W e (dTest de) :=
  ⟨PT_mono (pt_val h.pe he) fun _ _ _ q => liftE_to_tB q⟩
/-- a comparison as a test -/
theorem qt_cmp {op : CmpOp} {r : R2} {rD : RD2} (ho : OpR X (compareOp op) r) (h : OpD X.K r rD) (ha : QE X W a da) (hb : QE X W b db) (hm : behindInMarks op b = false) : QT X W (.Compare a [op] [b] pos) (dTest (dOp rD da db)) :=
  ⟨PT_mono (pt_cmpR ho ha.pe hb.pe hm) fun σ H Q q => by
    obtain ⟨s, L, Qd, Ed, hs, hr, q, hq, lp⟩ := q
    refine lift_op h (Q := fun x H' => ∃ k, x = .bl k ∧ Q k H') ⟨s, L, _, Ed, hs, hr, q, fun d L1 x H1 ⟨k, e, q1⟩ r1 hr1 k1 => ?_, lp⟩
    subst e
    cases (show x = _ from r1)
    exact ⟨k, rfl, hq k L1 H1 q1 hr1 k1⟩⟩
def dAnd (ta tb : DT) : DT := fun s L Q E => ta s L (fun k L1 => if k = true then tb s L1 Q E else Q false L1) E
def dOr (ta tb : DT) : DT := fun s L Q E => ta s L (fun k L1 => if k = true then Q true L1 else tb s L1 Q E) E
def dNot (ta : DT) : DT := fun s L Q E => ta s L (fun k L1 => Q (!k) L1) E
theorem qw_and1 (ha : QT X W a ta) : QW X W (.BoolOp .And [a] pos) ta := ⟨pw_and1 ha.pt⟩
theorem qw_or1 (ha : QT X W a ta) : QW X W (.BoolOp .Or [a] pos) ta := ⟨pw_or1 ha.pt⟩
theorem qw_and (ha : QT X W a ta) (hb : QW X W (.BoolOp .And (b :: rest) pos) tb) : QW X W (.BoolOp .And (a :: b :: rest) pos) (dAnd ta tb) :=
  ⟨PW_mono (pw_and ha.pt hb.pw) fun σ H Q ⟨s, L, Qd, Ed, hs, hr, q, hq, lp⟩ => liftT_bind hs hr lp q fun k L1 H1 q1 hr1 k1 hs1 t1 lp1 => by
    cases k with
    | true => exact (if_pos rfl).mpr ⟨s, L1, Qd, Ed, hs1, hr1, (if_pos rfl).mp q1, fun b L2 H2 q2 r2 k2 => hq b L2 H2 q2 r2 (k1.trans k2), lp1⟩
    | false => exact (if_neg Bool.false_ne_true).mpr (hq false L1 H1 ((if_neg Bool.false_ne_true).mp q1) hr1 k1)⟩
theorem qw_or (ha : QT X W a ta) (hb : QW X W (.BoolOp .Or (b :: rest) pos) tb) : QW X W (.BoolOp .Or (a :: b :: rest) pos) (dOr ta tb) :=
  ⟨PW_mono (pw_or ha.pt hb.pw) fun σ H Q ⟨s, L, Qd, Ed, hs, hr, q, hq, lp⟩ => liftT_bind hs hr lp q fun k L1 H1 q1 hr1 k1 hs1 t1 lp1 => by
    cases k with
    | false => exact (if_neg Bool.false_ne_true).mpr ⟨s, L1, Qd, Ed, hs1, hr1, (if_neg Bool.false_ne_true).mp q1, fun b L2 H2 q2 r2 k2 => hq b L2 H2 q2 r2 (k1.trans k2), lp1⟩
    | true => exact (if_pos rfl).mpr (hq true L1 H1 ((if_pos rfl).mp q1) hr1 k1)⟩
theorem QW.qt {e : Expr} (h : QW X W e ta) : QT X W e ta := ⟨PW.pt h.pw⟩
theorem qt_not (ha : QT X W a ta) : QT X W (.UnaryOp .Not a pos) (dNot ta) :=
  ⟨PT_mono (pt_not ha.pt) fun σ H Q ⟨s, L, Qd, Ed, hs, hr, q, hq, lp⟩ => liftT_bind hs hr lp q fun k L1 H1 q1 hr1 k1 hs1 t1 lp1 => hq _ L1 H1 q1 hr1 k1⟩
/-! values of and, or, not over bools -/
def dAndV (da db : DE) : DE := fun s L Q E => da s L (fun d L1 => ∃ k, d = .bl k ∧ if k = true then db s L1 Q E else Q (.bl false) L1) E
def dOrV (da db : DE) : DE := fun s L Q E => da s L (fun d L1 => ∃ k, d = .bl k ∧ if k = true then Q (.bl true) L1 else db s L1 Q E) E
def dNotV (da : DE) : DE := fun s L Q E => da s L (fun d L1 => ∃ k, d = .bl k ∧ Q (.bl (!k)) L1) E
theorem qe_one {op : BoolOp} (h : QE X W a da) : QE X W (.BoolOp op [a] pos) da := ⟨pe_one h.pe⟩
theorem qe_and (ha : QE X W a da) (hb : QE X W (.BoolOp .And (b :: rest) pos) db) : QE X W (.BoolOp .And (a :: b :: rest) pos) (dAndV da db) :=
  ⟨PE_mono (pe_and ha.pe hb.pe) fun σ H Q ⟨s, L, Qd, Ed, hs, hr, q, hq, lp⟩ => liftE_bind hs hr lp q fun d L1 x H1 ⟨k, e, q1⟩ r1 hr1 k1 hs1 t1 lp1 => by
    subst e
    cases (show x = _ from r1)
    refine ⟨k, rfl, ?_⟩
    cases k with
    | true => exact (if_pos rfl).mpr ⟨s, L1, Qd, Ed, hs1, hr1, (if_pos rfl).mp q1, fun b L2 v H2 q2 r r2 k2 => hq b L2 v H2 q2 r r2 (k1.trans k2), lp1⟩
    | false => exact (if_neg Bool.false_ne_true).mpr (hq _ L1 _ H1 ((if_neg Bool.false_ne_true).mp q1) rfl hr1 k1)⟩
theorem qe_or (ha : QE X W a da) (hb : QE X W (.BoolOp .Or (b :: rest) pos) db) : QE X W (.BoolOp .Or (a :: b :: rest) pos) (dOrV da db) :=
  ⟨PE_mono (pe_or ha.pe hb.pe) fun σ H Q ⟨s, L, Qd, Ed, hs, hr, q, hq, lp⟩ => liftE_bind hs hr lp q fun d L1 x H1 ⟨k, e, q1⟩ r1 hr1 k1 hs1 t1 lp1 => by
    subst e
    cases (show x = _ from r1)
    refine ⟨k, rfl, ?_⟩
    cases k with
    | false => exact (if_neg Bool.false_ne_true).mpr ⟨s, L1, Qd, Ed, hs1, hr1, (if_neg Bool.false_ne_true).mp q1, fun b L2 v H2 q2 r r2 k2 => hq b L2 v H2 q2 r r2 (k1.trans k2), lp1⟩
    | true => exact (if_pos rfl).mpr (hq _ L1 _ H1 ((if_pos rfl).mp q1) rfl hr1 k1)⟩
theorem qe_not (ha : QE X W a da) : QE X W (.UnaryOp .Not a pos) (dNotV da) :=
  ⟨PE_mono (pe_not ha.pe) fun σ H Q ⟨s, L, Qd, Ed, hs, hr, q, hq, lp⟩ => liftE_bind hs hr lp q fun d L1 x H1 ⟨k, e, q1⟩ r1 hr1 k1 hs1 t1 lp1 => by
    subst e
    cases (show x = _ from r1)
    exact ⟨k, rfl, hq _ L1 _ H1 q1 rfl hr1 k1⟩⟩
def dIfE (t : DT) (da db : DE) : DE := fun s L Q E => t s L (fun k L1 => if k = true then da s L1 Q E else db s L1 Q E) E
theorem qe_if (ht : QT X W c ta) (ha : QE X W a da) (hb : QE X W b db) : QE X W (.IfExp c a b pos) (dIfE ta da db) :=
  ⟨PE_mono (pe_ifExp ht.pt ha.pe hb.pe) fun σ H Q ⟨s, L, Qd, Ed, hs, hr, q, hq, lp⟩ => liftT_bind hs hr lp q fun k L1 H1 q1 hr1 k1 hs1 t1 lp1 => by
    cases k with
    | true => exact (if_pos rfl).mpr ⟨s, L1, Qd, Ed, hs1, hr1, (if_pos rfl).mp q1, fun b L2 v H2 q2 r r2 k2 => hq b L2 v H2 q2 r r2 (k1.trans k2), lp1⟩
    | false => exact (if_neg Bool.false_ne_true).mpr ⟨s, L1, Qd, Ed, hs1, hr1, (if_neg Bool.false_ne_true).mp q1, fun b L2 v H2 q2 r r2 k2 => hq b L2 v H2 q2 r r2 (k1.trans k2), lp1⟩⟩
/-- a chain of two comparisons -/
def dChain (r r' : RD2) (da db dc : DE) : DE := fun s L Q E => da s L (fun x L1 => db s L1 (fun y L2 => r x y L2 fun z L3 => ∃ k, z = .bl k ∧ if k = true then dc s L3 (fun u L4 => r' y u L4 Q) E else Q (.bl false) L3) E) E
theorem lift_chain {r r' : R2} {rD rD' : RD2} {M : KM} (h : OpD M.K r rD) (h' : OpD M.K r' rD') {σ : St} {H : Hp} {Q : VK} (q : liftE M W (dChain rD rD' da db dc) σ H Q) : tChain r r' (liftE M W da) (liftE M W db) (liftE M W dc) σ H Q := by
  obtain ⟨s, L, Qd, Ed, hs, hr, q, hq, lp⟩ := q
  refine liftE_bind hs hr lp q fun d L1 x H1 q1 r1 hr1 k1 hs1 t1 lp1 => ?_
  refine liftE_bind hs1 hr1 lp1 q1 fun e L2 y H2 q2 r2 hr2 k2 hs2 t2 lp2 => ?_
  refine h H2 L2 d e x y _ _ (Rep.tk t2 _ _ r1) r2 hr2 q2 fun d' L3 z H3 ⟨k, ek, q3⟩ r3 hr3 k3 => ?_
  subst ek
  cases (show z = _ from r3)
  refine ⟨k, rfl, ?_⟩
  have t3 := k3.tk hr2
  cases k with
  | false => exact (if_neg Bool.false_ne_true).mpr (hq _ L3 _ H3 ((if_neg Bool.false_ne_true).mp q3) rfl hr3 ((k1.trans k2).trans k3))
  | true =>
    refine (if_pos rfl).mpr ?_
    refine liftE_bind (hs2.tk t3) hr3 (lp2.after k3) ((if_pos rfl).mp q3) fun u L4 v H4 q4 r4 hr4 k4 hs4 t4 lp4 => ?_
    exact h' H4 L4 e u y v Qd Q (Rep.tk t4 _ _ (Rep.tk t3 _ _ r2)) r4 hr4 q4 fun d' L' v H' a b c k => hq d' L' v H' a b c (((k1.trans k2).trans (k3.trans k4)).trans k)
theorem q_chain {op op' : CmpOp} {r r' : R2} {rD rD' : RD2} (ho : OpR X (compareOp op) r) (ho' : OpR X (compareOp op') r') (h : OpD X.K r rD) (h' : OpD X.K r' rD') (ha : QE X W a da) (hb : QE X W b db) (hc : QE X W c dc)
    (hm : lastMarks [op, op'] [b, c] = false := by with_unfolding_all rfl) : QE X W (.Compare a [op, op'] [b, c] pos) (dChain rD rD' da db dc) :=
  ⟨PE_mono (pe_chain ho ho' ha.pe hb.pe hc.pe hm) fun _ _ _ q => lift_chain h h' q⟩
theorem qt_chain {op op' : CmpOp} {r r' : R2} {rD rD' : RD2} (ho : OpR X (compareOp op) r) (ho' : OpR X (compareOp op') r') (h : OpD X.K r rD) (h' : OpD X.K r' rD') (ha : QE X W a da) (hb : QE X W b db) (hc : QE X W c dc)
    (hm : lastMarks [op, op'] [b, c] = false := by with_unfolding_all rfl) : QT X W (.Compare a [op, op'] [b, c] pos) (dTest (dChain rD rD' da db dc)) :=
  ⟨PT_mono (pt_chain ho ho' ha.pe hb.pe hc.pe hm) fun σ H Q q => by
    obtain ⟨s, L, Qd, Ed, hs, hr, q, hq, lp⟩ := q
    refine lift_chain h h' (Q := fun x H' => ∃ k, x = .bl k ∧ Q k H') ⟨s, L, _, Ed, hs, hr, q, fun d L1 x H1 ⟨k, e, q1⟩ r1 hr1 k1 => ?_, lp⟩
    subst e
    cases (show x = _ from r1)
    exact ⟨k, rfl, hq k L1 H1 q1 hr1 k1⟩⟩
end

/-! ### statements -/
structure DEnds where
  nx : DSt → DH → Prop
  rt : DK
  bk : DSt → DH → Prop
  ct : DSt → DH → Prop
  ex : Str → List (Str × D) → DSt → DH → Prop
abbrev DS := DEnds → DSt → DH → Prop
def PostS (K : PySem.W.Frag) (H : Hp) (L : DH) (P : DSt → DH → Prop) (Q : St → Hp → Prop) : Prop := ∀ s' L' σ' H', P s' L' → SR K H' s' σ' → HR K H' L' → Kp H L H' L' → Q σ' H'
theorem PostS.after {K : PySem.W.Frag} {H H1 : Hp} {L L1 : DH} {P : DSt → DH → Prop} {Q : St → Hp → Prop} (h : PostS K H L P Q) (k : Kp H L H1 L1) : PostS K H1 L1 P Q := fun s' L' σ' H' a b c d => h s' L' σ' H' a b c (k.trans d)
structure Post (M : KM) (W : WX) (H : Hp) (L : DH) (dn : DEnds) (Dn : Ends) : Prop where
  nx : PostS M.K H L dn.nx Dn.nx
  rt : ∀ d L' v H', dn.rt d L' → Rep M.K H' d v → HR M.K H' L' → Kp H L H' L' → Dn.rt v H'
  bk : PostS M.K H L dn.bk Dn.bk
  ct : PostS M.K H L dn.ct Dn.ct
  ex : ∀ C fs cls dx s' L' σ' H', dn.ex C fs s' L' → XRep M H' C fs cls dx → SR M.K H' s' σ' → HR M.K H' L' → Kp H L H' L' → W cls dx σ' H'
def liftS (M : KM) (W : WX) (ds : DS) : TS := fun Dn σ H => ∃ s L dn, SR M.K H s σ ∧ HR M.K H L ∧ ds dn s L ∧ Post M W H L dn Dn
structure QS (X : Cx) (W : WX) (st : Stmt) (ds : DS) : Prop where
  ps : PS X st (liftS X.km W ds)
structure QSs (X : Cx) (W : WX) (st : List Stmt) (ds : DS) : Prop where
  ps : PSs X st (liftS X.km W ds)
section
variable {M : KM} {W : WX} {H H1 : Hp} {L L1 : DH} {dn : DEnds} {Dn : Ends} {s : DSt} {σ : St}
theorem Post.after (h : Post M W H L dn Dn) (k : Kp H L H1 L1) : Post M W H1 L1 dn Dn :=
  ⟨h.nx.after k, fun d L' v H' a b c e => h.rt d L' v H' a b c (k.trans e), h.bk.after k, h.ct.after k, fun C fs cls dx s' L' σ' H' a b c d e => h.ex C fs cls dx s' L' σ' H' a b c d (k.trans e)⟩
theorem Post.lp (h : Post M W H L dn Dn) (hs : SR M.K H s σ) (hr : HR M.K H L) : LP M W σ H L (fun C fs L' => dn.ex C fs s L') :=
  ⟨fun C fs L' cls dx H' e x r k => h.ex C fs cls dx s L' σ H' e x (hs.tk (k.tk hr)) r k⟩
end
def sNext : DS := fun dn s L => dn.nx s L
def sSeq (a b : DS) : DS := fun dn s L => a { dn with nx := b dn } s L
def sBreak : DS := fun dn s L => dn.bk s L
def sCont : DS := fun dn s L => dn.ct s L
def xOf (dn : DEnds) (s : DSt) : XD := fun C fs L => dn.ex C fs s L
def sDrop (de : DE) : DS := fun dn s L => de s L (fun _ L1 => dn.nx s L1) (xOf dn s)
def sRet (de : DE) : DS := fun dn s L => de s L dn.rt (xOf dn s)
def sRetN : DS := fun dn _ L => dn.rt .non L
def sIf (t : DT) (a b : DS) : DS := fun dn s L => t s L (fun k L1 => if k = true then a dn s L1 else b dn s L1) (xOf dn s)
def sNever : DS := fun _ _ _ => False
section
variable {X : Cx} {W : WX} {pos : Pos} {st : Stmt} {rest : List Stmt} {da db : DS} {de : DE} {dt : DT} {e c : Expr} {la lb : List Stmt}
theorem qss_nil : QSs X W [] sNext := ⟨PSs_mono pss_nil fun Dn σ H ⟨s, L, dn, hs, hr, h, p⟩ => p.nx s L σ H h hs hr .refl⟩
theorem qss_one (h : QS X W st da) : QSs X W [st] da := ⟨pss_one h.ps⟩
theorem lift_seq {M : KM} {Dn : Ends} {σ : St} {H : Hp} (q : liftS M W (sSeq da db) Dn σ H) : tSeq (liftS M W da) (liftS M W db) Dn σ H := by
  obtain ⟨s, L, dn, hs, hr, h, p⟩ := q
  exact ⟨s, L, _, hs, hr, h, ⟨fun s' L' σ' H' a b c d => ⟨s', L', dn, b, c, a, p.after d⟩, p.rt, p.bk, p.ct, p.ex⟩⟩
theorem qss_cons (h1 : QS X W st da) (h2 : QSs X W rest db) : QSs X W (st :: rest) (sSeq da db) := ⟨PSs_mono (pss_cons h1.ps h2.ps) fun _ _ _ q => lift_seq q⟩
theorem qs_pass : QS X W (.Pass pos) sNext := ⟨PS_mono ps_pass fun Dn σ H ⟨s, L, dn, hs, hr, h, p⟩ => p.nx s L σ H h hs hr .refl⟩
theorem qs_break : QS X W (.Break pos) sBreak := ⟨PS_mono ps_break fun Dn σ H ⟨s, L, dn, hs, hr, h, p⟩ => p.bk s L σ H h hs hr .refl⟩
theorem qs_continue : QS X W (.Continue pos) sCont := ⟨PS_mono ps_continue fun Dn σ H ⟨s, L, dn, hs, hr, h, p⟩ => p.ct s L σ H h hs hr .refl⟩
theorem qs_expr (he : QE X W e de) (hs : swapsWith e none pos.line X.env = pure false := by rfl) : QS X W (.Expr e pos) (sDrop de) :=
  ⟨PS_mono (ps_expr he.pe hs) fun Dn σ H ⟨s, L, dn, hs, hr, h, p⟩ => liftE_bind hs hr (p.lp hs hr) h fun d L1 x H1 q1 r1 hr1 k1 hs1 t1 lp1 => p.nx s L1 σ H1 q1 hs1 hr1 k1⟩
theorem qs_ret (he : QE X W e de) : QS X W (.Return (some e) pos) (sRet de) :=
  ⟨PS_mono (ps_ret he.pe) fun Dn σ H ⟨s, L, dn, hs, hr, h, p⟩ => liftE_bind hs hr (p.lp hs hr) h fun d L1 x H1 q1 r1 hr1 k1 hs1 t1 lp1 => p.rt d L1 x H1 q1 r1 hr1 k1⟩
theorem qs_retN : QS X W (.Return none pos) sRetN :=
  ⟨PS_mono ps_retN fun Dn σ H ⟨s, L, dn, hs, hr, h, p⟩ => p.rt .non L .non H h rfl hr .refl⟩
theorem qs_if (hc : QT X W c dt) (ha : QSs X W la da) (hb : QSs X W lb db) : QS X W (.If c la lb pos) (sIf dt da db) :=
  ⟨PS_mono (ps_if hc.pt ha.ps hb.ps) fun Dn σ H ⟨s, L, dn, hs, hr, h, p⟩ => liftT_bind hs hr (p.lp hs hr) h fun k L1 H1 q1 hr1 k1 hs1 t1 lp1 => by
    cases k with
    | true => exact (if_pos rfl).mpr ⟨s, L1, dn, hs1, hr1, (if_pos rfl).mp q1, p.after k1⟩
    | false => exact (if_neg Bool.false_ne_true).mpr ⟨s, L1, dn, hs1, hr1, (if_neg Bool.false_ne_true).mp q1, p.after k1⟩⟩
theorem qs_never : QS X W st sNever := ⟨PS_mono ps_never fun Dn σ H ⟨s, L, dn, hs, hr, h, p⟩ => h⟩
theorem qss_never : QSs X W la sNever := ⟨PSs_mono pss_never fun Dn σ H ⟨s, L, dn, hs, hr, h, p⟩ => h⟩
end
/-! targets -/
abbrev DG := D → DSt → DH → (DSt → DH → Prop) → XD → Prop
def liftG (K : PySem.W.Frag) (g : DG) (G : TG) : Prop := ∀ (d : D) (v : V) (s : DSt) (σ : St) (H : Hp) (L : DH) (P : DSt → DH → Prop) (Q : St → Hp → Prop), Rep K H d v → SR K H s σ → HR K H L → g d s L P (fun _ _ _ => False) →
  PostS K H L P Q → G v σ H Q
structure QG (X : Cx) (t : Expr) (g : DG) : Prop where
  pg : ∃ G, PG X t G ∧ liftG X.K g G
def liftGs (K : PySem.W.Frag) (g : List D → DSt → DH → (DSt → DH → Prop) → Prop) (G : TGs) : Prop := ∀ (ds : List D) (vs : List V) (s : DSt) (σ : St) (H : Hp) (L : DH) (P : DSt → DH → Prop) (Q : St → Hp → Prop), RepL K H ds vs → SR K H s σ → HR K H L → g ds s L P →
  PostS K H L P Q → G vs σ H Q
structure QGs (X : Cx) (t : List Expr) (g : List D → DSt → DH → (DSt → DH → Prop) → Prop) : Prop where
  pg : ∃ G, PGs X t G ∧ liftGs X.K g G
def gdName (i : Nat) : DG := fun d s L P _ => P (s.set i (some d)) L
def gdNil : List D → DSt → DH → (DSt → DH → Prop) → Prop := fun ds s L P => ds = [] ∧ P s L
def gdCons (g : DG) (r : List D → DSt → DH → (DSt → DH → Prop) → Prop) : List D → DSt → DH → (DSt → DH → Prop) → Prop := fun ds s L P => match ds with
  | [] => False
  | d :: ds => g d s L (fun s1 L1 => r ds s1 L1 P) (fun _ _ _ => False)
def gdTup (n : Nat) (g : List D → DSt → DH → (DSt → DH → Prop) → Prop) : DG := fun d s L P _ => match d with
  | .tup ds => ds.length = n ∧ g ds s L P
  | _ => False
abbrev SetD := D → D → D → DH → (DH → Prop) → Prop
def SetOk (K : PySem.W.Frag) (t : TSet) (td : SetD) : Prop := ∀ (o i d : D) (vo vi v : V) (H : Hp) (L : DH) (P : DH → Prop) (Q : Hp → Prop), Rep K H o vo → Rep K H i vi → Rep K H d v → HR K H L → td o i d L P →
  (∀ L' H', P L' → HR K H' L' → Kp H L H' L' → Q H') → t vo vi v H Q
def gdSub (do_ di : DE) (td : SetD) : DG := fun d s L P _ => do_ s L (fun o L1 => di s L1 (fun i L2 => td o i d L2 fun L3 => P s L3) (fun _ _ _ => False)) (fun _ _ _ => False)
section
variable {X : Cx} {pos : Pos}
theorem qg_name (i : Nat) {x : Str} (hN : X.N.Nodup) (hi : X.N[i]? = some x := by rfl) (hx : Loc X.env.scope x := by first | exact Or.inl rfl | exact Or.inr rfl) (hf : X.fn x = true ∨ X.env.scope.names.lookup x = some .local := by first | exact .inl rfl | exact .inr rfl) : QG X (.Name x pos) (gdName i) :=
  ⟨_, pg_name hN hi hx hf, fun d v s σ H L P Q r hs hr h p => p _ L _ H h (hs.set r i) hr .refl⟩
theorem qgs_nil : QGs X [] gdNil := ⟨_, pgs_nil, fun ds vs s σ H L P Q r hs hr h p => by
  obtain ⟨rfl, h⟩ := h
  exact ⟨r, p s L σ H h hs hr .refl⟩⟩
theorem qgs_cons {e : Expr} {es : List Expr} {g : DG} {r : List D → DSt → DH → (DSt → DH → Prop) → Prop} (h1 : QG X e g) (h2 : QGs X es r) (hs : (assignEach (e :: es) X.env).map (·.2) = assign e X.env :: (assignEach es X.env).map (·.2) := by rfl) : QGs X (e :: es) (gdCons g r) := by
  obtain ⟨G, hG, lG⟩ := h1.pg
  obtain ⟨G2, hG2, lG2⟩ := h2.pg
  refine ⟨_, pgs_cons hG hG2 hs, fun ds vs s σ H L P Q r hs hr h p => ?_⟩
  cases ds with
  | nil => exact h.elim
  | cons d ds =>
    obtain ⟨v, vr, e, rv, rr⟩ := r
    refine ⟨v, vr, e, lG d v s σ H L _ _ rv hs hr h fun s1 L1 σ1 H1 q hs1 hr1 k1 => ?_⟩
    exact lG2 ds vr s1 σ1 H1 L1 P Q (RepL.tk (k1.tk hr) _ _ rr) hs1 hr1 q (p.after k1)
theorem qg_tup {es : List Expr} {k n : Nat} {g : List D → DSt → DH → (DSt → DH → Prop) → Prop} (hc : X.calm = true) (h : QGs X es g) (hn : (assignEach es X.env).length = n := by rfl) (hst : (assignEach es X.env).findIdx? (·.1) = none := by rfl) : QG X (.Tuple es k pos) (gdTup n g) := by
  obtain ⟨G, hG, lG⟩ := h.pg
  refine ⟨_, pg_tup hc hG hn hst, fun d v s σ H L P Q r hs hr h p => ?_⟩
  cases d with
  | tup ds =>
    obtain ⟨a, vs, e, sq, rl⟩ := r
    exact ⟨a, vs, e, sq, by rw [← rl.length]; exact h.1, lG ds vs s σ H L P Q rl hs hr h.2 p⟩
  | _ => exact h.elim
theorem qg_sub {o i : Expr} {do_ di : DE} {t : TSet} {td : SetD} (ho : QE X (fun _ _ _ _ => False) o do_) (hi : QE X (fun _ _ _ _ => False) i di) (hs : PSet X t) (hd : SetOk X.K t td)
    (ha : ∀ v, assign (.Subscript o i pos) X.env v = (do
      let ov ← holding [v] (eval o X.env)
      let iv ← holding [v, ov] (eval i X.env)
      standAt pos
      holding [v, ov, iv] (setItem ov iv v)
      release [v, ov, iv] []) := by intro _; rfl) : QG X (.Subscript o i pos) (gdSub do_ di td) := by
  have noP : ∀ {M : KM} {σ : St} {H : Hp} {L : DH}, LP M (fun _ _ _ _ => False) σ H L (fun _ _ _ => False) := ⟨fun _ _ _ _ _ _ h => h.elim⟩
  refine ⟨_, pg_sub ho.pe hi.pe hs ha, fun d v s σ H L P Q r hS hr h p => ?_⟩
  refine liftE_bind hS hr noP h fun o' L1 x H1 q1 r1 hr1 k1 hs1 t1 lp1 => ?_
  refine liftE_bind hs1 hr1 noP q1 fun i' L2 y H2 q2 r2 hr2 k2 hs2 t2 lp2 => ?_
  exact hd o' i' d x y v H2 L2 _ _ (Rep.tk t2 _ _ r1) r2 (Rep.tk t2 _ _ (Rep.tk t1 _ _ r)) hr2 q2 fun L3 H3 q3 hr3 k3 => p s L3 σ H3 q3 (hs2.tk (k3.tk hr2)) hr3 ((k1.trans k2).trans k3)
end
def sAsg (de : DE) (g : DG) : DS := fun dn s L => de s L (fun d L1 => g d s L1 dn.nx (fun _ _ _ => False)) (xOf dn s)
section
variable {X : Cx} {W : WX} {pos : Pos}
theorem qs_asg {tg e : Expr} {de : DE} {g : DG} (he : QE X W e de) (hg : QG X tg g) (hs : swapsWithSole [tg] e pos.line X.env = pure false := by rfl) (hw : swappedStores [tg] e X.env = pure none := by rfl) (h1 : (assignEach [tg] X.env).map (·.2) = [assign tg X.env] := by rfl) : QS X W (.Assign [tg] e pos) (sAsg de g) := by
  obtain ⟨G, hG, lG⟩ := hg.pg
  exact ⟨PS_mono (ps_asg he.pe hG hs hw h1) fun Dn σ H ⟨s, L, dn, hs, hr, h, p⟩ => liftE_bind hs hr (p.lp hs hr) h fun d L1 x H1 q1 r1 hr1 k1 hs1 t1 lp1 => lG d x s σ H1 L1 _ _ r1 hs1 hr1 q1 (p.nx.after k1)⟩
/-- a name assigned -/
theorem qs_set {i : Nat} {x : Str} {e : Expr} {de : DE} {pos' : Pos} (hN : X.N.Nodup) (he : QE X W e de) (hi : X.N[i]? = some x := by rfl) (hx : Loc X.env.scope x := by first | exact Or.inl rfl | exact Or.inr rfl) (hs : swapsWith e (some (.Name x pos')) pos.line X.env = pure false := by rfl)
    (hf : X.fn x = true ∨ X.env.scope.names.lookup x = some .local := by first | exact .inl rfl | exact .inr rfl) : QS X W (.Assign [.Name x pos'] e pos) (sAsg de (gdName i)) :=
  ⟨PS_mono (ps_set hN hi hx he.pe hs hf) fun Dn σ H ⟨s, L, dn, hs, hr, h, p⟩ => liftE_bind hs hr (p.lp hs hr) h fun d L1 x H1 q1 r1 hr1 k1 hs1 t1 lp1 => p.nx _ L1 _ H1 q1 (hs1.set r1 i) hr1 k1⟩
end
end D2

set_option Elab.async false
set_option linter.all false
set_option maxRecDepth 100000
set_option maxHeartbeats 1000000
namespace D2
open PySem PySem.Spec PyProof.Rows L2
/-! ### defs and calls -/
abbrev SpD := List D → DH → DK → XD → Prop
def liftSp (M : KM) (sp : SpD) : Sp := fun vs H Q E => ∃ ds L Qd Ed, RepL M.K H ds vs ∧ HR M.K H L ∧ sp ds L Qd Ed ∧
  (∀ d L' v H', Qd d L' → Rep M.K H' d v → HR M.K H' L' → Kp H L H' L' → Q v H') ∧
  (∀ C fs L' cls dx H', Ed C fs L' → XRep M H' C fs cls dx → HR M.K H' L' → Kp H L H' L' → E cls dx H')
def dCall (sp : SpD) (t : DA) : DE := fun s L Q E => t s L (fun ds L1 => sp ds L1 Q E) E
/-- what a def's body is to reach: L may be lessened -/
def fnEnds (Q : DK) (E : XD) : DEnds where
  nx := fun _ L' => ∃ L2, Le L2 L' ∧ Q .non L2
  rt := fun d L' => ∃ L2, Le L2 L' ∧ Q d L2
  bk := fun _ _ => False
  ct := fun _ _ => False
  ex := fun C fs _ L' => ∃ L2, Le L2 L' ∧ E C fs L2
def wE (E : XK) : WX := fun cls d _ H => E cls d H
section
variable {X : Cx} {W : WX} {pos : Pos}
theorem q_call {k : Nat} {f : Addr} {fd : FuncData} {ps : List Str} {sp : SpD} {x : Str} {p : Pos} {e : Expr} {es : List Expr} {t : DA} (F : FnOk X.prog X.w X.K X.mg X.base (L2.CX X.prog X.w) k f fd ps (liftSp X.km sp)) (hr : Room k X.A) (hm : X.mg x = some (.ref f)) (hk : PySem.W.keepIn X.K (.ref f) = true)
    (hb : Binds X.K fd ps []) (tk : Takes X W) (ha : QA X W (e :: es) t) (hg : Gl X x := by rfl) (hdb : (x == ("__debug__" : Str)) = false := by decide) (he : starEach (e :: es) X.env = (false, eval e X.env) :: starEach es X.env := by rfl) (hpl : (backTo pos (starEach es X.env)).any (·.1) = false := by rfl) :
    QE X W (.Call (.Name x p) (e :: es) [] pos) (dCall sp t) :=
  ⟨PE_mono (pe_callS F hr hg hm hk hb (fun σ => passAt tk σ) ha.pa hdb he hpl) fun σ H Q ⟨s, L, Qd, Ed, hs, hr, q, hq, lp⟩ =>
    liftA_bind hs hr lp q fun ds L1 vs H1 q1 r1 hr1 k1 hs1 t1 lp1 => ⟨ds, L1, Qd, Ed, r1, hr1, q1, fun d L' v H' a b c k => hq d L' v H' a b c (k1.trans k), fun C fs L' cls dx H' a b c k => lp1.ex C fs L' cls dx H' a b c k⟩⟩
end
section
variable {P : Program} {w : World} {K : PySem.W.Frag} {mg : Str → Option Value} {base : Heap}
theorem Fun.okD {x qual : Str} {st : Stmt} {f : Addr} {fd : FuncData} {N ps : List Str} {k : Nat} {sp : SpD} {ds : DS} (F : Fun K x qual st f fd) (S : FnScope N ps (defScope st)) (len : ∀ as L Q E, sp as L Q E → as.length = ps.length)
    (pure : ∀ as L Q E, sp as L Q E → ds (fnEnds Q E) (dstart N.length as) L)
    (body : ∀ (cdv : Value) (A : Around) (outer : List Env) (s : Shared) (H : Hp) (E : XK), Room k (A.deeper (envOfC qual (defScope st) s.heap.objs.size f cdv)) →
      QSs (cxOf (L2.CX P w) P w K mg base N qual (defScope st) f cdv A outer s H E) (wE E) (defBody st) ds) :
    FnOk P w K mg base (L2.CX P w) (k + 1) f fd ps (liftSp ⟨K, mg⟩ sp) := by
  refine F.okX S (fun vs H Q E h => ?_) (fun cdv A outer s H vs Q E hr h => ⟨_, (body cdv A outer s H E hr).ps, ?_⟩)
  · obtain ⟨ds, L, Qd, Ed, r, _, h, _⟩ := h
    rw [← r.length]; exact len _ _ _ _ h
  · obtain ⟨as, L, Qd, Ed, r, hr', h, hq, hx⟩ := h
    refine ⟨dstart N.length as, L, fnEnds Qd Ed, r.slots N, hr', pure as L Qd Ed h, ?_, ?_, ?_, ?_, ?_⟩
    · exact fun s' L' σ' H' ⟨LL, l, q⟩ _ b k => hq .non LL .non H' q rfl (b.le l) (k.le l)
    · exact fun d L' v H' ⟨LL, l, q⟩ r b k => hq d LL v H' q r (b.le l) (k.le l)
    · exact fun s' L' σ' H' q => q.elim
    · exact fun s' L' σ' H' q => q.elim
    · exact fun C fs cls dx s' L' σ' H' ⟨LL, l, q⟩ x _ b k => hx C fs LL cls dx H' q x (b.le l) (k.le l)
end
/-! ### for -/
abbrev DI := DSt → DH → (List D → (DH → Prop) → DH → Prop) → XD → Prop
def ItOk (K : PySem.W.Frag) (J : It) (ds : List D) (ok : DH → Prop) (H0 : Hp) : Prop := ∀ (i : Nat) (H : Hp) (L : DH), TK H0 H → HR K H L → ok L → (i = ds.length → J.stop i H) ∧
  ∀ d, ds[i]? = some d → J.go i H ∧ ∀ x H', J.yld i H x H' → Rep K H' d x ∧ HR K H' L ∧ Kp H L H' L ∧ TK H H'
def liftI (M : KM) (W : WX) (di : DI) : TI := fun σ H R => ∃ s L Qd Ed, SR M.K H s σ ∧ HR M.K H L ∧ di s L Qd Ed ∧
  (∀ ds ok L' H' J, Qd ds ok L' → HR M.K H' L' → Kp H L H' L' → ItOk M.K J ds ok H' → R J H') ∧ LP M W σ H L Ed
structure QI (X : Cx) (W : WX) (tg iter : Expr) (di : DI) : Prop where
  pi : PI X tg iter (liftI X.km W di)
theorem PI_mono {X : Cx} {tg e : Expr} {t t' : TI} (h : PI X tg e t) (i : ∀ σ H R, t' σ H R → t σ H R) : PI X tg e t' := ⟨fun pins s σ H R I q => h.run pins s σ H R I (i σ H R q)⟩
def forD (g : DG) (body : DS) (ok : DH → Prop) : List D → DS
  | [] => fun dn s L => ok L ∧ dn.nx s L
  | d :: ds => fun dn s L => ok L ∧ g d s L (fun s1 L1 => body { dn with nx := fun s2 L2 => forD g body ok ds dn s2 L2, ct := fun s2 L2 => forD g body ok ds dn s2 L2, bk := dn.nx } s1 L1) (fun _ _ _ => False)
def sFor (di : DI) (g : DG) (body : DS) : DS := fun dn s L => di s L (fun ds ok L1 => forD g body ok ds dn s L1) (xOf dn s)
section
variable {X : Cx} {W : WX} {pos : Pos}
theorem qs_for {tg iter : Expr} {body : List Stmt} {di : DI} {g : DG} {db : DS} (hp : PassesOwn (model X.prog X.w) X.A X.env X.xe) (hc : X.calm = true) (hi : QI X W tg iter di) (hg : QG X tg g) (hb : QSs X W body db)
    (hs : ∀ x, foldedSetIterable iter X.env x = pure x := by intro _; rfl) : QS X W (.For tg iter body [] pos) (sFor di g db) := by
  obtain ⟨G, hG, lG⟩ := hg.pg
  refine ⟨PS_mono (ps_for hp hc hi.pi hG hb.ps hs) fun Dn σ H ⟨s, L, dn, hs, hr, h, p⟩ => ?_⟩
  refine ⟨s, L, _, xOf dn s, hs, hr, h, fun ds ok L1 H1 J q hr1 k1 ito => ?_, p.lp hs hr⟩
  refine ⟨fun i m σ' H' => ∃ s' L', i ≤ ds.length ∧ m = ds.length - i ∧ SR X.K H' s' σ' ∧ HR X.K H' L' ∧ TK H1 H' ∧ Kp H L H' L' ∧ forD g db ok (ds.drop i) dn s' L', ⟨_, s, L1, Nat.zero_le _, rfl, hs.tk (k1.tk hr), hr1, .refl _, k1, q⟩, ?_⟩
  rintro i m σ' H' ⟨s', L', hi, rfl, hs', hr', tk', k', q'⟩
  by_cases hlt : i < ds.length
  · have ed : ds.drop i = ds[i] :: ds.drop (i + 1) := List.drop_eq_getElem_cons hlt
    rw [ed] at q'
    obtain ⟨hok, q'⟩ := q'
    obtain ⟨go, yl⟩ := (ito i H' L' tk' hr' hok).2 ds[i] (List.getElem?_eq_getElem hlt)
    refine .inr ⟨go, fun σ2 H2 => ∃ s2 L2, SR X.K H2 s2 σ2 ∧ HR X.K H2 L2 ∧ TK H1 H2 ∧ Kp H L H2 L2 ∧ forD g db ok (ds.drop (i + 1)) dn s2 L2, fun σ2 H2 ⟨s2, L2, a, b, c, d, e⟩ => ⟨ds.length - (i + 1), by omega, s2, L2, hlt, rfl, a, b, c, d, e⟩, fun x H'' y => ?_⟩
    obtain ⟨ry, hry, ky, ty⟩ := yl x H'' y
    refine lG ds[i] x s' σ' H'' L' _ _ ry (hs'.tk ty) hry q' fun s1 L1' σ1 H1' q1 hs1 hr1' k1' => ?_
    have kk := (k'.trans ky).trans k1'
    have tt := (tk'.trans ty).trans (k1'.tk hry)
    refine ⟨s1, L1', _, hs1, hr1', q1, fun s2 L2 σ2 H2 a b c d => ⟨s2, L2, b, c, tt.trans (d.tk hr1'), kk.trans d, a⟩, ?_, ?_, fun s2 L2 σ2 H2 a b c d => ⟨s2, L2, b, c, tt.trans (d.tk hr1'), kk.trans d, a⟩, ?_⟩
    · exact fun d L2 v H2 a b c e => p.rt d L2 v H2 a b c (kk.trans e)
    · exact fun s2 L2 σ2 H2 a b c d => p.nx s2 L2 σ2 H2 a b c (kk.trans d)
    · exact fun C fs cls dx s2 L2 σ2 H2 a b c d e => p.ex C fs cls dx s2 L2 σ2 H2 a b c d (kk.trans e)
  · have e : i = ds.length := by omega
    subst e
    rw [List.drop_length] at q'
    obtain ⟨hok, q'⟩ := q'
    exact .inl ⟨(ito _ H' L' tk' hr' hok).1 rfl, p.nx s' L' σ' H' q' hs' hr' k'⟩
/-! while -/
def sWhile (c : DT) (db : DS) : DS := fun dn s L => ∃ Wd : Nat → DSt → DH → Prop, (∃ m, Wd m s L) ∧ ∀ m s L, Wd m s L →
  c s L (fun b L1 => if b = true then db { dn with nx := fun s' L' => ∃ m', m' < m ∧ Wd m' s' L', ct := fun s' L' => ∃ m', m' < m ∧ Wd m' s' L', bk := dn.nx } s L1 else dn.nx s L1) (xOf dn s)
theorem qs_while {c : Expr} {body : List Stmt} {dc : DT} {db : DS} (hp : PassesOwn (model X.prog X.w) X.A X.env X.xe) (hc : QT X W c dc) (hb : QSs X W body db) : QS X W (.While c body [] pos) (sWhile dc db) := by
  refine ⟨PS_mono (ps_while hp hc.pt hb.ps) fun Dn σ H ⟨s, L, dn, hs, hr, ⟨Wd, ⟨m0, h0⟩, h⟩, p⟩ => ?_⟩
  refine ⟨fun m σ' H' => ∃ s' L', SR X.K H' s' σ' ∧ HR X.K H' L' ∧ Kp H L H' L' ∧ Wd m s' L', ⟨m0, s, L, hs, hr, .refl, h0⟩, ?_⟩
  rintro m σ' H' ⟨s', L', hs', hr', k', hw⟩
  refine liftT_bind hs' hr' ((p.after k').lp hs' hr') (h m s' L' hw) fun k L1 H1 q1 hr1 k1 hs1 t1 lp1 => ?_
  have kk := k'.trans k1
  cases k with
  | false => exact (if_neg Bool.false_ne_true).mpr (p.nx s' L1 σ' H1 ((if_neg Bool.false_ne_true).mp q1) hs1 hr1 kk)
  | true =>
    refine (if_pos rfl).mpr ⟨fun σ2 H2 => ∃ m', m' < m ∧ ∃ s2 L2, SR X.K H2 s2 σ2 ∧ HR X.K H2 L2 ∧ Kp H L H2 L2 ∧ Wd m' s2 L2, fun σ2 H2 q => q, s', L1, _, hs1, hr1, (if_pos rfl).mp q1, ?_⟩
    exact ⟨fun s2 L2 σ2 H2 ⟨m', l, a⟩ b c d => ⟨m', l, s2, L2, b, c, kk.trans d, a⟩, fun d L2 v H2 a b c e => p.rt d L2 v H2 a b c (kk.trans e), fun s2 L2 σ2 H2 a b c d => p.nx s2 L2 σ2 H2 a b c (kk.trans d),
      fun s2 L2 σ2 H2 ⟨m', l, a⟩ b c d => ⟨m', l, s2, L2, b, c, kk.trans d, a⟩, fun C fs cls dx s2 L2 σ2 H2 a b c d e => p.ex C fs cls dx s2 L2 σ2 H2 a b c d (kk.trans e)⟩
end
/-! what is walked -/
def isSeq (L : DH) : D → Option (List D × (DH → Prop))
  | .tup ds => some (ds, fun _ => True)
  | .lro ds => some (ds, fun _ => True)
  | .ref a => match L a with
    | some (.lst ds) => some (ds, fun L' => L' a = some (.lst ds))
    | none => none
  | _ => none
def dSeq (de : DE) : DI := fun s L Q E => de s L (fun d L1 => ∃ ds ok, isSeq L1 d = some (ds, ok) ∧ Q ds ok L1) E
def tSeqI (K : PySem.W.Frag) (tl : TE) : TI := fun σ H R => tl σ H fun x H1 => ∃ a, x = .ref a ∧ ((∃ xs, SqL K H1 a xs) ∧ R (Itl K a) H1 ∨ (∃ xs, SqT K H1 a xs) ∧ R (Itt K a) H1)
theorem pi_seq {X : Cx} {tg l : Expr} {tl : TE} (hl : PE X l tl) : PI X tg l (tSeqI X.K tl) := by
  refine ⟨fun pins s σ H R I h => ?_⟩
  refine thn (hl.run pins s σ H _ I h) fun v s1 ⟨x, H1, I1, r1, q1⟩ => ?_
  obtain ⟨a, e, q⟩ := q1
  subst e
  cases r1
  rcases q with ⟨⟨xs, hq⟩, q⟩ | ⟨⟨xs, hq⟩, q⟩
  · obtain ⟨its, rv, p, hz⟩ := I1.list hq
    refine wpAny_pyIter_list p.isList ?_
    refine ⟨s1.heap.objs.size, [s1.heap.objs.size], _, _, H1, rfl, I1.kept (t' := s1.toks) fun b o e => Heap.get?_push_of_some _ e, turn_list a _, ⟨_, Heap.get?_push_size _ rfl, rfl, rfl⟩, fun b hb => ?_, q⟩
    have e : b = s1.heap.objs.size := by simpa using hb
    subst e
    exact I1.fpOk (Nat.le_refl _) (I1.hok.fresh (Nat.le_refl _))
  · obtain ⟨its, rv, p, hz⟩ := I1.tuple hq
    refine wpAny_pyIter_tuple (show s1.heap.IsTuple a its.toArray from p) ?_
    refine ⟨s1.heap.objs.size, [s1.heap.objs.size], _, _, H1, rfl, I1.kept (t' := s1.toks) fun b o e => Heap.get?_push_of_some _ e, turn_tuple a _, ⟨_, Heap.get?_push_size _ rfl, rfl, rfl⟩, fun b hb => ?_, q⟩
    have e : b = s1.heap.objs.size := by simpa using hb
    subst e
    exact I1.fpOk (Nat.le_refl _) (I1.hok.fresh (Nat.le_refl _))
/-- two lists told of one object are the same -/
theorem sqL_of {K : PySem.W.Frag} {H : Hp} {a : Addr} {xs : List V} (h : SqL K H a xs) {i : Nat} {v : V} (e : xs[i]? = some v) : (Itl K a).go i H := ⟨xs, v, h, e⟩
section
variable {X : Cx} {W : WX} {pos : Pos}
theorem itOk_L {K : PySem.W.Frag} {a : Addr} {ds : List D} {ok : DH → Prop} {H0 : Hp} (h : ∀ H L, TK H0 H → HR K H L → ok L → ∃ vs, SqL K H a vs ∧ RepL K H ds vs) : ItOk K (Itl K a) ds ok H0 := fun i H L tk hr hok => by
  obtain ⟨vs, sq, r⟩ := h H L tk hr hok
  refine ⟨fun e => ⟨vs, sq, by rw [← r.length]; exact Nat.le_of_eq e.symm⟩, fun d e => ?_⟩
  obtain ⟨v, e2, rv⟩ := r.get e
  refine ⟨⟨vs, v, sq, e2⟩, fun x H' ⟨e3, y⟩ => ?_⟩
  subst e3
  have := y vs sq
  rw [e2] at this
  cases this
  exact ⟨rv, hr, .refl, .refl _⟩
theorem itOk_T {K : PySem.W.Frag} {a : Addr} {ds : List D} {ok : DH → Prop} {H0 : Hp} (h : ∀ H L, TK H0 H → HR K H L → ok L → ∃ vs, SqT K H a vs ∧ RepL K H ds vs) : ItOk K (Itt K a) ds ok H0 := fun i H L tk hr hok => by
  obtain ⟨vs, sq, r⟩ := h H L tk hr hok
  refine ⟨fun e => ⟨vs, sq, by rw [← r.length]; exact Nat.le_of_eq e.symm⟩, fun d e => ?_⟩
  obtain ⟨v, e2, rv⟩ := r.get e
  refine ⟨⟨vs, v, sq, e2⟩, fun x H' ⟨e3, y⟩ => ?_⟩
  subst e3
  have := y vs sq
  rw [e2] at this
  cases this
  exact ⟨rv, hr, .refl, .refl _⟩
theorem qi_seq {tg e : Expr} {de : DE} (h : QE X W e de) : QI X W tg e (dSeq de) :=
  ⟨PI_mono (pi_seq h.pe) fun σ H R ⟨s, L, Qd, Ed, hs, hr, q, hq, lp⟩ => liftE_bind hs hr lp q fun d L1 x H1 ⟨ds, ok, e, q1⟩ r1 hr1 k1 hs1 t1 lp1 => by
    cases d with
    | tup xs =>
      cases e
      obtain ⟨a, vs, e2, sq, rl⟩ := r1
      exact ⟨a, e2, .inr ⟨⟨vs, sq⟩, hq _ _ L1 H1 _ q1 hr1 k1 (itOk_T fun H L tk _ _ => ⟨vs, tk.sqT sq, RepL.tk tk _ _ rl⟩)⟩⟩
    | lro xs =>
      cases e
      obtain ⟨a, vs, e2, sq, rl⟩ := r1
      exact ⟨a, e2, .inl ⟨⟨vs, sq.sq⟩, hq _ _ L1 H1 _ q1 hr1 k1 (itOk_L fun H L tk _ _ => ⟨vs, (tk.fzL sq).sq, RepL.tk tk _ _ rl⟩)⟩⟩
    | ref a =>
      have e : (match L1 a with | some (.lst ds) => some (ds, fun L' : DH => L' a = some (.lst ds)) | none => none) = some (ds, ok) := e
      cases hL : L1 a with
      | some o =>
        cases o with | lst xs =>
        rw [hL] at e
        cases e
        obtain ⟨vs, h1, rl⟩ := hr1 a _ hL
        exact ⟨a, r1, .inl ⟨⟨vs, SqL.of h1⟩, hq _ _ L1 H1 _ q1 hr1 k1 (itOk_L fun H L tk hr hok => let ⟨us, h2, r2⟩ := hr a _ hok; ⟨us, SqL.of h2, r2⟩)⟩⟩
      | none => rw [hL] at e; cases e
    | _ => cases e⟩
/-! ranges -/
def rngD (lo : Int) (n : Nat) : List D := (List.range n).map fun (i : Nat) => D.int (lo + i)
theorem itOk_R {K : PySem.W.Frag} {lo : Int} {n : Nat} {ok : DH → Prop} {H0 : Hp} : ItOk K (Itr lo n) (rngD lo n) ok H0 := fun i H L tk hr hok => by
  have hl : (rngD lo n).length = n := by simp [rngD]
  refine ⟨fun e => by show n ≤ i; omega, fun d e => ?_⟩
  have hi : i < n := by
    have := (List.getElem?_eq_some_iff.mp e).1
    omega
  refine ⟨hi, fun x H' ⟨e3, y⟩ => ?_⟩
  subst e3 y
  have : d = D.int (lo + i) := by
    unfold rngD at e
    rw [List.getElem?_map, List.getElem?_range hi] at e
    exact (Option.some.inj e).symm
  subst this
  exact ⟨rfl, hr, .refl, .refl _⟩
def dRng1 (t : DA) : DI := fun s L Q E => t s L (fun ds L1 => ∃ j : Int, ds = [.int j] ∧ (-(2 ^ 62) ≤ j ∧ j < 2 ^ 62) ∧ Q (rngD 0 j.toNat) (fun _ => True) L1) E
def dRng2 (t : DA) : DI := fun s L Q E => t s L (fun ds L1 => ∃ i j : Int, ds = [.int i, .int j] ∧ (-(2 ^ 62) ≤ i ∧ i < 2 ^ 62 ∧ -(2 ^ 62) ≤ j ∧ j < 2 ^ 62) ∧ Q (rngD i (j - i).toNat) (fun _ => True) L1) E
theorem qi_rng1 {tg a : Expr} {p : Pos} {ta : DA} (hm : X.mg "range" = none) (ha : QA X W [a] ta) (hg : Gl X "range" := by rfl) (hs : starEach [a] X.env = [(false, eval a X.env)] := by rfl) : QI X W tg (.Call (.Name "range" p) [a] [] pos) (dRng1 ta) :=
  ⟨PI_mono (pi_range1 hg hm ha.pa hs) fun σ H R ⟨s, L, Qd, Ed, hs, hr, q, hq, lp⟩ => liftA_bind hs hr lp q fun ds L1 vs H1 ⟨j, e, b, q1⟩ r1 hr1 k1 hs1 t1 lp1 => by
    subst e
    have e2 := repL_ints (ns := [j]) r1
    exact ⟨j, e2, b.1, b.2, hq _ _ L1 H1 _ q1 hr1 k1 itOk_R⟩⟩
theorem qi_rng2 {tg a b : Expr} {p : Pos} {ta : DA} (hm : X.mg "range" = none) (ha : QA X W [a, b] ta) (hg : Gl X "range" := by rfl) (hs : starEach [a, b] X.env = [(false, eval a X.env), (false, eval b X.env)] := by rfl) (hs2 : starEach [b] X.env = [(false, eval b X.env)] := by rfl) :
    QI X W tg (.Call (.Name "range" p) [a, b] [] pos) (dRng2 ta) :=
  ⟨PI_mono (pi_range2 hg hm ha.pa hs hs2) fun σ H R ⟨s, L, Qd, Ed, hs, hr, q, hq, lp⟩ => liftA_bind hs hr lp q fun ds L1 vs H1 ⟨i, j, e, b, q1⟩ r1 hr1 k1 hs1 t1 lp1 => by
    subst e
    have e2 := repL_ints (ns := [i, j]) r1
    exact ⟨i, j, e2, b, hq _ _ L1 H1 _ q1 hr1 k1 itOk_R⟩⟩
end
end D2

set_option Elab.async false
set_option linter.all false
set_option maxRecDepth 100000
set_option maxHeartbeats 1000000
namespace D2
open PySem PySem.Spec PyProof.Rows L2
/-! ### operators -/
section
variable {K : PySem.W.Frag}
def dI (C : Int → Int → Prop) (f : Int → Int → Int) : RD2 := fun x y L Q => match x, y with
  | .int i, .int j => C i j ∧ Q (.int (f i j)) L
  | _, _ => False
theorem opd_I {C : Int → Int → Prop} {f : Int → Int → Int} : OpD K (rI C fun i j => .int (f i j)) (dI C f) := fun H L d e x y Qd Q rx ry hr q k => by
  cases d with
  | int i =>
    cases e with
    | int j => exact ⟨i, j, rx, ry, q.1, k _ L _ H q.2 rfl hr .refl⟩
    | _ => exact False.elim q
  | _ => exact False.elim q
def dI0 (f : Int → Int → Int) : RD2 := fun x y L Q => match x, y with
  | .int i, .int j => Q (.int (f i j)) L
  | _, _ => False
theorem opd_I0 {f : Int → Int → Int} : OpD K (rI0 fun i j => .int (f i j)) (dI0 f) := fun H L d e x y Qd Q rx ry hr q k => by
  cases d with
  | int i =>
    cases e with
    | int j => exact ⟨i, j, rx, ry, k _ L _ H q rfl hr .refl⟩
    | _ => exact False.elim q
  | _ => exact False.elim q
def dB0 (f : Int → Int → Bool) : RD2 := fun x y L Q => match x, y with
  | .int i, .int j => Q (.bl (f i j)) L
  | _, _ => False
theorem opd_B0 {f : Int → Int → Bool} : OpD K (rI0 fun i j => .bl (f i j)) (dB0 f) := fun H L d e x y Qd Q rx ry hr q k => by
  cases d with
  | int i =>
    cases e with
    | int j => exact ⟨i, j, rx, ry, k _ L _ H q rfl hr .refl⟩
    | _ => exact False.elim q
  | _ => exact False.elim q
abbrev dSub : RD2 := dI0 fun i j => i - j
def CMulA (i j : Int) : Prop := CMul i j ∨ CMulW i j
abbrev dMulI : RD2 := dI CMulA fun i j => i * j
theorem op_mulA {X : Cx} : OpR X (binaryOp .Mult) (rI CMulA fun i j => .int (i * j)) := opI fun _ _ _ _ _ _ _ hc q => mul_int q (hc.elim CMul.ok CMulW.ok)
theorem cmul_l {i j : Int} (h1 : -(2 ^ 64) < i) (h2 : i < 2 ^ 64) : CMulA i j := .inl (.inl ⟨h1, h2⟩)
theorem cmul_r {i j : Int} (h1 : -(2 ^ 64) < j) (h2 : j < 2 ^ 64) : CMulA i j := .inl (.inr ⟨h1, h2⟩)
theorem cdiv_of {i j : Int} (h1 : 0 < j) (h2 : j < 2 ^ 64) : CDivW i j := wide_div (b := 64) h1 (by omega) (by decide) (by decide)
abbrev dDiv : RD2 := dI CDivW fun i j => i / j
abbrev dMod : RD2 := dI (fun _ j => 0 < j) fun i j => i % j
abbrev dLt : RD2 := dB0 fun i j => decide (i < j)
abbrev dLe : RD2 := dB0 fun i j => decide (i ≤ j)
abbrev dGt : RD2 := dB0 fun i j => decide (j < i)
abbrev dGe : RD2 := dB0 fun i j => decide (j ≤ i)
def CPowW (i j : Int) : Prop := 0 ≤ j ∧ (Builtin.Int.intBits i : Int) * j ≤ 2 ^ 27
abbrev dPow : RD2 := dI CPowW fun i j => i ^ j.toNat
theorem op_powW {X : Cx} : OpR X (binaryOp .Pow) (rI CPowW fun i j => .int (i ^ j.toNat)) := opI fun _ _ _ _ _ _ _ hc q => PyProof.Rows.pow_int hc.1 hc.2 q
/-! + -/
theorem strOk_app {x y : Str} (hx : PyData.strOk x = true) (hy : PyData.strOk y = true) : PyData.strOk (x ++ y) = true := by
  have e : (x ++ y).cps = x.cps ++ y.cps := rfl
  unfold PyData.strOk at *
  rw [e, Array.all_append, hx, hy]; rfl
theorem cat_tup0 {prog : Program} {w : World} {A : Around} {E : Value → Shared → Prop} {s : Shared} {t b : Addr} {ws : List Value} {Q : Value → Shared → Prop} (ht : IsTup s.heap t #[]) (hb : IsTup s.heap b ws.toArray)
    (h1 : Q (.ref b) s) : wpAny (model prog w) A (binaryOp .Add (.ref t) (.ref b)) Q E s := by
  obtain ⟨⟨cls, dd, data, sl⟩, ho, hc, n, hd⟩ := id ht
  obtain ⟨⟨cls2, dd2, data2, sl2⟩, ho2, hc2, n2, hd2⟩ := id hb
  simp only at hc hd hc2 hd2
  subst hc hd hc2 hd2
  exact concat_meets ⟨_, ho, rfl⟩ ⟨_, ho2, rfl⟩ noFill_tuple_add seq_tuple_add PySem.F.slot_tuple_add PySem.F.entry_tuple_add (PySem.F.args_tuple_add_2 _ _)
      (tuple_addW0 t b #[] ws.toArray n n2 dd dd2 sl sl2 (by simp)) ⟨ho, ho2, h1⟩
def rCatT0 (K : PySem.W.Frag) : R2 := fun x y H Q => ∃ a b ys, x = .ref a ∧ y = .ref b ∧ SqT K H a [] ∧ SqT K H b ys ∧ Q (.ref b) H
theorem op_catT0 {X : Cx} : OpR X (binaryOp .Add) (rCatT0 X.K) := by
  intro pins s σ H x y v u Q I rx ry h
  obtain ⟨a, b, ys, rfl, rfl, ha, hb, q⟩ := h
  cases rx
  cases ry
  obtain ⟨its, r1, p1, _⟩ := I.tuple ha
  obtain ⟨its2, r2, p2, _⟩ := I.tuple hb
  cases r1
  exact cat_tup0 p1 p2 ⟨.ref b, H, I, rfl, q⟩
def rStrCat : R2 := fun x y H Q => ∃ i j, x = .str i ∧ y = .str j ∧ i.length + j.length ≤ sizeLine ∧ Q (.str (i ++ j)) H
abbrev rAddAll (K : PySem.W.Frag) : R2 := fun x y H Q => (rI0 (fun i j => .int (i + j)) x y H Q ∨ rStrCat x y H Q) ∨ (rCatT0 K x y H Q ∨ rCatT K x y H Q) ∨ rCat x y H Q
theorem op_addAll {X : Cx} : OpR X (binaryOp .Add) (rAddAll X.K) := (op_add.or op_add_str).or ((op_catT0.or op_catT).or op_cat)
def dAdd : RD2 := fun x y L Q => match x, y with
  | .int i, .int j => Q (.int (i + j)) L
  | .str i, .str j => i.length + j.length ≤ 16777216 ∧ Q (.str (i ++ j)) L
  | .tup xs, .tup ys => xs.length + ys.length ≤ 16777216 ∧ Q (.tup (xs ++ ys)) L
  | .ref a, .ref b => ∃ xs ys, L a = some (.lst xs) ∧ L b = some (.lst ys) ∧ xs.length + ys.length ≤ 16777216 ∧ ∀ p, L p = none → Q (.ref p) (upd L p (.lst (xs ++ ys)))
  | _, _ => False
theorem opd_add : OpD K (rAddAll K) dAdd := fun H L d e x y Qd Q rx ry hr q k => by
  cases d with
  | int i =>
    cases e with
    | int j => exact .inl (.inl ⟨i, j, rx, ry, k _ L _ H q rfl hr .refl⟩)
    | _ => exact False.elim q
  | str i =>
    cases e with
    | str j => exact .inl (.inr ⟨i, j, rx.1, ry.1, line_of q.1, k _ L _ H q.2 ⟨rfl, strOk_app rx.2 ry.2⟩ hr .refl⟩)
    | _ => exact False.elim q
  | tup xs =>
    cases e with
    | tup ys =>
      obtain ⟨a, vs, e1, s1, r1⟩ := rx
      obtain ⟨b, us, e2, s2, r2⟩ := ry
      rcases Classical.em (vs = []) with hv | hv
      · subst hv
        have : xs = [] := by have := r1.length; cases xs <;> simp_all
        subst this
        exact .inr (.inl (.inl ⟨a, b, us, e1, e2, s1, s2, k _ L _ H q.2 ⟨b, us, rfl, s2, r2⟩ hr .refl⟩))
      · refine .inr (.inl (.inr ⟨a, b, vs, us, e1, e2, s1, s2, hv, by rw [← r1.length, ← r2.length]; exact line_of q.1, fun z => ?_, fun _ p hp => ?_⟩))
        · subst z
          have : ys = [] := by have := r2.length; cases ys <;> simp_all
          subst this
          exact k _ L _ H q.2 ⟨a, vs, rfl, s1, by simpa using r1⟩ hr .refl
        · exact k _ L _ _ q.2 ⟨p, _, rfl, .inl (.inl upd_same), RepL.tk (HR.tk_new hp) _ _ (r1.append r2)⟩ (hr.laid hp).1 (hr.laid hp).2
    | _ => exact False.elim q
  | ref a =>
    cases e with
    | ref b =>
      obtain ⟨xs, ys, h1, h2, hl, q⟩ := q
      obtain ⟨vs, g1, r1⟩ := hr a _ h1
      obtain ⟨us, g2, r2⟩ := hr b _ h2
      exact .inr (.inr ⟨a, b, vs, us, rx, ry, g1, g2, by rw [← r1.length, ← r2.length]; exact line_of hl, fun p hp => k _ _ _ _ (q p (hr.free hp)) rfl (hr.new hp (r1.append r2)).1 (hr.new hp (r1.append r2)).2⟩)
    | _ => exact False.elim q
  | _ => exact False.elim q
/-! is None -/
def isNon : D → Bool
  | .non => true
  | _ => false
def dIsN : RD2 := fun x y L Q => match y with
  | .non => Q (.bl (isNon x)) L
  | _ => False
def dNotN : RD2 := fun x y L Q => match y with
  | .non => Q (.bl (!isNon x)) L
  | _ => False
theorem rep_non {H : Hp} {d : D} {x : V} (r : Rep K H d x) : decide (x = .non) = isNon d := by
  cases d with
  | non => cases (show x = _ from r); rfl
  | bl b => cases (show x = _ from r); rfl
  | int b => cases (show x = _ from r); rfl
  | str b => cases (show x = _ from r.1); rfl
  | tup b => obtain ⟨a, vs, e, _⟩ := r; subst e; rfl
  | lro b => obtain ⟨a, vs, e, _⟩ := r; subst e; rfl
  | ref b => cases (show x = _ from r); rfl
theorem opd_isN : OpD K (fun x y H Q => y = .non ∧ Q (.bl (decide (x = .non))) H) dIsN := fun H L d e x y Qd Q rx ry hr q k => by
  cases e with
  | non => exact ⟨ry, by rw [rep_non rx]; exact k _ L _ H q rfl hr .refl⟩
  | _ => exact False.elim q
theorem opd_notN : OpD K (fun x y H Q => y = .non ∧ Q (.bl (!decide (x = .non))) H) dNotN := fun H L d e x y Qd Q rx ry hr q k => by
  cases e with
  | non =>
    refine ⟨ry, ?_⟩
    rw [rep_non rx]
    exact k _ L _ H q rfl hr .refl
  | _ => exact False.elim q
/-! indexes -/
def dIx : RD2 := fun x y L Q => match y with
  | .int i => (match x with
    | .tup xs => ∃ d, atI xs i = some d ∧ Q d L
    | .lro xs => ∃ d, atI xs i = some d ∧ Q d L
    | .str z => z.length ≤ 16777216 ∧ ∃ c, atI z.cps.toList i = some c ∧ Q (.str ⟨#[c]⟩) L
    | .ref a => ∃ xs, L a = some (.lst xs) ∧ ∃ d, atI xs i = some d ∧ Q d L
    | _ => False)
  | _ => False
theorem RepL.atI {H : Hp} {ds : List D} {vs : List V} {i : Int} {d : D} (h : RepL K H ds vs) (e : atI ds i = some d) : ∃ v, L2.atI vs i = some v ∧ Rep K H d v := by
  unfold L2.atI at *
  rw [← h.length]
  cases q : ixN ds.length i with
  | none => rw [q] at e; cases e
  | some j =>
    rw [q] at e
    obtain ⟨v, h1, h2⟩ := h.get (i := j) (d := d) e
    exact ⟨v, h1, h2⟩
theorem strOk_mem {z : Str} (h : PyData.strOk z = true) {c : Nat} (hc : c ∈ z.cps.toList) : PyData.strOk ⟨#[c]⟩ = true := by
  unfold PyData.strOk at *
  rw [Array.all_eq_true] at h
  have : c < 0x110000 := by
    obtain ⟨i, hi, e⟩ := List.getElem_of_mem hc
    have := h i (by simpa using hi)
    rw [← e]
    simpa using this
  simp [this]
theorem atI_mem {α : Type} {xs : List α} {i : Int} {v : α} (h : atI xs i = some v) : v ∈ xs := by
  obtain ⟨j, _, e, _⟩ := atI_get h
  exact List.mem_of_getElem? e
theorem opd_ix : OpD K (rIx K) dIx := fun H L d e x y Qd Q rx ry hr q k => by
  cases e with
  | int i =>
    cases d with
    | tup xs =>
      obtain ⟨a, vs, e1, s1, r1⟩ := rx
      obtain ⟨d, e2, q⟩ := q
      obtain ⟨v, e3, r3⟩ := r1.atI e2
      exact .inr (.inl ⟨a, vs, i, v, e1, ry, s1, e3, k _ L _ H q r3 hr .refl⟩)
    | lro xs =>
      obtain ⟨a, vs, e1, s1, r1⟩ := rx
      obtain ⟨d, e2, q⟩ := q
      obtain ⟨v, e3, r3⟩ := r1.atI e2
      exact .inl ⟨a, vs, i, v, e1, ry, s1.sq, e3, k _ L _ H q r3 hr .refl⟩
    | str z =>
      obtain ⟨hl, c, e2, q⟩ := q
      exact .inr (.inr ⟨z, i, c, rx.1, ry, line_of hl, e2, k _ L _ H q ⟨rfl, strOk_mem rx.2 (atI_mem e2)⟩ hr .refl⟩)
    | ref a =>
      obtain ⟨xs, h1, d, e2, q⟩ := q
      obtain ⟨vs, g1, r1⟩ := hr a _ h1
      obtain ⟨v, e3, r3⟩ := r1.atI e2
      exact .inl ⟨a, vs, i, v, rx, ry, SqL.of g1, e3, k _ L _ H q r3 hr .refl⟩
    | _ => exact False.elim q
  | _ => exact False.elim q
/-! stores -/
def dSetL : SetD := fun o i d L P => match o, i with
  | .ref a, .int j => ∃ xs n, L a = some (.lst xs) ∧ ixN xs.length j = some n ∧ P (upd L a (.lst (xs.set n d)))
  | _, _ => False
theorem set_d : SetOk K rSetL dSetL := fun o i d vo vi v H L P Q ro ri rd hr q k => by
  cases o with
  | ref a =>
    cases i with
    | int j =>
      obtain ⟨xs, n, h1, e, q⟩ := q
      obtain ⟨vs, g1, r1⟩ := hr a _ h1
      exact ⟨a, vs, j, n, ro, ri, g1, by rw [← r1.length]; exact e, k _ _ q (hr.set h1 (r1.set n rd)).1 (hr.set h1 (r1.set n rd)).2⟩
    | _ => exact False.elim q
  | _ => exact False.elim q
/-! unary minus -/
def dNeg : D → DH → DK → Prop := fun x L Q => match x with
  | .int i => Q (.int (-i)) L
  | _ => False
theorem und_neg : UnD K (rU fun i => .int (-i)) dNeg := fun H L d x Qd Q rx hr q k => by
  cases d with
  | int i => exact ⟨i, rx, k _ L _ H q rfl hr .refl⟩
  | _ => exact False.elim q
/-! calls by values -/
/-- one argument -/
def one (f : D → DH → DK → Prop) : RDA := fun ds L Q => match ds with
  | [] => False
  | d :: r => match r with
    | [] => f d L Q
    | _ :: _ => False
def two (f : D → D → DH → DK → Prop) : RDA := fun ds L Q => match ds with
  | [] => False
  | d :: r => match r with
    | [] => False
    | e :: t => match t with
      | [] => f d e L Q
      | _ :: _ => False
theorem RepL.one_inv {H : Hp} {d : D} {vs : List V} (h : RepL K H [d] vs) : ∃ v, vs = [v] ∧ Rep K H d v := by
  obtain ⟨v, r, e, h, q⟩ := h
  cases (show r = [] from q)
  exact ⟨v, e, h⟩
theorem RepL.two_inv {H : Hp} {d e : D} {vs : List V} (h : RepL K H [d, e] vs) : ∃ v u, vs = [v, u] ∧ Rep K H d v ∧ Rep K H e u := by
  obtain ⟨v, r, e, h, u, r2, e2, h2, q⟩ := h
  cases (show r2 = [] from q)
  exact ⟨v, u, by rw [e, e2], h, h2⟩
theorem cd_one {r : List V → Hp → VK → Prop} {f : D → DH → DK → Prop} (h : ∀ (H : Hp) (L : DH) (d : D) (x : V) (Qd : DK) (Q : VK), Rep K H d x → HR K H L → f d L Qd →
    (∀ d' L' v H', Qd d' L' → Rep K H' d' v → HR K H' L' → Kp H L H' L' → Q v H') → r [x] H Q) : CallD K r (one f) := fun H L ds xs Qd Q rr hr q k => by
  cases ds with
  | nil => exact q.elim
  | cons d t =>
    cases t with
    | nil => obtain ⟨v, e, rv⟩ := rr.one_inv; subst e; exact h H L d v Qd Q rv hr q k
    | cons _ _ => exact q.elim
theorem cd_two {r : List V → Hp → VK → Prop} {f : D → D → DH → DK → Prop} (h : ∀ (H : Hp) (L : DH) (d e : D) (x y : V) (Qd : DK) (Q : VK), Rep K H d x → Rep K H e y → HR K H L → f d e L Qd →
    (∀ d' L' v H', Qd d' L' → Rep K H' d' v → HR K H' L' → Kp H L H' L' → Q v H') → r [x, y] H Q) : CallD K r (two f) := fun H L ds xs Qd Q rr hr q k => by
  cases ds with
  | nil => exact q.elim
  | cons d t =>
    cases t with
    | nil => exact q.elim
    | cons e t =>
      cases t with
      | nil => obtain ⟨v, u, e, rv, ru⟩ := rr.two_inv; subst e; exact h H L d _ v u Qd Q rv ru hr q k
      | cons _ _ => exact q.elim
def dLen1 : D → DH → DK → Prop := fun d L Q => match d with
  | .tup xs => Q (.int xs.length) L
  | .lro xs => Q (.int xs.length) L
  | .str z => z.length ≤ 16777216 ∧ Q (.int z.length) L
  | .ref a => ∃ xs, L a = some (.lst xs) ∧ Q (.int xs.length) L
  | _ => False
abbrev dLen : RDA := one dLen1
theorem cd_len : CallD K (fun xs H Q => ∃ x n, xs = [x] ∧ LenV K x H n ∧ Q (.int n) H) dLen := cd_one fun H L d x Qd Q r hr q k => by
  cases d with
  | tup ys =>
    obtain ⟨a, vs, e1, s1, r1⟩ := r
    subst e1
    exact ⟨_, vs.length, rfl, .inr ⟨vs, s1, rfl⟩, by rw [← r1.length]; exact k _ L _ H q rfl hr .refl⟩
  | lro ys =>
    obtain ⟨a, vs, e1, s1, r1⟩ := r
    subst e1
    exact ⟨_, vs.length, rfl, .inl ⟨vs, s1.sq, rfl⟩, by rw [← r1.length]; exact k _ L _ H q rfl hr .refl⟩
  | str z =>
    obtain ⟨e1, _⟩ := r
    subst e1
    exact ⟨_, z.length, rfl, ⟨line_of q.1, rfl⟩, k _ L _ H q.2 rfl hr .refl⟩
  | ref a =>
    cases (show x = _ from r)
    obtain ⟨ys, h1, q⟩ := q
    obtain ⟨vs, g1, r1⟩ := hr a _ h1
    exact ⟨_, vs.length, rfl, .inl ⟨vs, SqL.of g1, rfl⟩, by rw [← r1.length]; exact k _ L _ H q rfl hr .refl⟩
  | _ => exact False.elim q
/-- list(x), tuple(x) -/
def dListOf1 : D → DH → DK → Prop := fun d L Q => match d with
  | .tup xs => ∀ p, L p = none → Q (.ref p) (upd L p (.lst xs))
  | .lro xs => ∀ p, L p = none → Q (.ref p) (upd L p (.lst xs))
  | .ref a => ∃ xs, L a = some (.lst xs) ∧ ∀ p, L p = none → Q (.ref p) (upd L p (.lst xs))
  | _ => False
abbrev dListOf : RDA := one dListOf1
theorem cd_list : CallD K (fun xs H Q => ∃ p ys, xs = [.ref p] ∧ (SqL K H p ys ∨ SqT K H p ys) ∧ ∀ l, H l = none → Q (.ref l) (L2.upd H l (.lst ys))) dListOf := cd_one fun H L d x Qd Q r hr q k => by
  cases d with
  | tup ys =>
    obtain ⟨a, vs, e1, s1, r1⟩ := r
    subst e1
    exact ⟨_, vs, rfl, .inr s1, fun p hp => k _ _ _ _ (q p (hr.free hp)) rfl (hr.new hp r1).1 (hr.new hp r1).2⟩
  | lro ys =>
    obtain ⟨a, vs, e1, s1, r1⟩ := r
    subst e1
    exact ⟨_, vs, rfl, .inl s1.sq, fun p hp => k _ _ _ _ (q p (hr.free hp)) rfl (hr.new hp r1).1 (hr.new hp r1).2⟩
  | ref a =>
    cases (show x = _ from r)
    obtain ⟨ys, h1, q⟩ := q
    obtain ⟨vs, g1, r1⟩ := hr a _ h1
    exact ⟨_, vs, rfl, .inl (SqL.of g1), fun p hp => k _ _ _ _ (q p (hr.free hp)) rfl (hr.new hp r1).1 (hr.new hp r1).2⟩
  | _ => exact False.elim q
def dTupOf1 : D → DH → DK → Prop := fun d L Q => match d with
  | .tup xs => Q (.tup xs) L
  | .lro xs => Q (.tup xs) L
  | .ref a => ∃ xs, L a = some (.lst xs) ∧ Q (.tup xs) L
  | _ => False
abbrev dTupOf : RDA := one dTupOf1
theorem cd_tup : CallD K (fun xs H Q => ∃ p ys, xs = [.ref p] ∧ ((SqL K H p ys ∧ ∀ l, H l = none → Q (.ref l) (L2.upd H l (.tup ys))) ∨ (SqT K H p ys ∧ Q (.ref p) H))) dTupOf := cd_one fun H L d x Qd Q r hr q k => by
  cases d with
  | tup ys =>
    obtain ⟨a, vs, e1, s1, r1⟩ := r
    subst e1
    exact ⟨_, vs, rfl, .inr ⟨s1, k _ L _ H q ⟨a, vs, rfl, s1, r1⟩ hr .refl⟩⟩
  | lro ys =>
    obtain ⟨a, vs, e1, s1, r1⟩ := r
    subst e1
    exact ⟨_, vs, rfl, .inl ⟨s1.sq, fun p hp => k _ L _ _ q ⟨p, vs, rfl, .inl (.inl upd_same), RepL.tk (HR.tk_new hp) _ _ r1⟩ (hr.laid hp).1 (hr.laid hp).2⟩⟩
  | ref a =>
    cases (show x = _ from r)
    obtain ⟨ys, h1, q⟩ := q
    obtain ⟨vs, g1, r1⟩ := hr a _ h1
    exact ⟨_, vs, rfl, .inl ⟨SqL.of g1, fun p hp => k _ L _ _ q ⟨p, vs, rfl, .inl (.inl upd_same), RepL.tk (HR.tk_new hp) _ _ r1⟩ (hr.laid hp).1 (hr.laid hp).2⟩⟩
  | _ => exact False.elim q
/-- abs, int -/
def dAbs1 : D → DH → DK → Prop := fun d L Q => match d with
  | .int i => Q (.int (if i < 0 then -i else i)) L
  | _ => False
abbrev dAbs : RDA := one dAbs1
theorem cd_abs : CallD K (fun xs H Q => ∃ i, xs = [.int i] ∧ Q (.int (if i < 0 then -i else i)) H) dAbs := cd_one fun H L d x Qd Q r hr q k => by
  cases d with
  | int i => cases (show x = _ from r); exact ⟨i, rfl, k _ L _ H q rfl hr .refl⟩
  | _ => exact False.elim q
def dIntOf1 : D → DH → DK → Prop := fun d L Q => match d with
  | .int i => Q (.int i) L
  | .bl b => Q (.int (if b then 1 else 0)) L
  | _ => False
abbrev dIntOf : RDA := one dIntOf1
theorem cd_int : CallD K (fun xs H Q => (∃ i, xs = [.int i] ∧ Q (.int i) H) ∨ ∃ k, xs = [.bl k] ∧ Q (.int (if k then 1 else 0)) H) dIntOf := cd_one fun H L d x Qd Q r hr q k => by
  cases d with
  | int i => cases (show x = _ from r); exact .inl ⟨i, rfl, k _ L _ H q rfl hr .refl⟩
  | bl i => cases (show x = _ from r); exact .inr ⟨i, rfl, k _ L _ H q rfl hr .refl⟩
  | _ => exact False.elim q
def dII (f : Int → Int → Int) : D → D → DH → DK → Prop := fun d e L Q => match d, e with
  | .int i, .int j => Q (.int (f i j)) L
  | _, _ => False
theorem cd_II {f : Int → Int → Int} {r : List V → Hp → VK → Prop} (h : ∀ i j H Q, Q (.int (f i j)) H → r [.int i, .int j] H Q) : CallD K r (two (dII f)) := cd_two fun H L d e x y Qd Q rx ry hr q k => by
  cases d with
  | int i =>
    cases e with
    | int j => cases (show x = _ from rx); cases (show y = _ from ry); exact h i j H Q (k _ L _ H q rfl hr .refl)
    | _ => exact False.elim q
  | _ => exact False.elim q
abbrev dMax2 : RDA := two (dII fun i j => if j > i then j else i)
abbrev dMin2 : RDA := two (dII fun i j => if j < i then j else i)
theorem cd_max2 : CallD K (fun xs H Q => ∃ i j, xs = [.int i, .int j] ∧ Q (.int (if j > i then j else i)) H) dMax2 := cd_II fun i j H Q q => ⟨i, j, rfl, q⟩
theorem cd_min2 : CallD K (fun xs H Q => ∃ i j, xs = [.int i, .int j] ∧ Q (.int (if j < i then j else i)) H) dMin2 := cd_II fun i j H Q q => ⟨i, j, rfl, q⟩
/-- the items of what is iterated at once -/
def itemsOf (L : DH) : D → Option (List D)
  | .tup xs => some xs
  | .lro xs => some xs
  | .ref a => match L a with | some (.lst xs) => some xs | none => none
  | _ => none
def lstOf (L : DH) : D → Option (List D)
  | .lro xs => some xs
  | .ref a => match L a with | some (.lst xs) => some xs | none => none
  | _ => none
theorem lstOf_rep {H : Hp} {L : DH} {d : D} {ds : List D} {v : V} (hr : HR K H L) (e : lstOf L d = some ds) (r : Rep K H d v) : ∃ a vs, v = .ref a ∧ SqL K H a vs ∧ RepL K H ds vs := by
  cases d with
  | lro xs => cases e; obtain ⟨a, vs, e1, s1, r1⟩ := r; exact ⟨a, vs, e1, s1.sq, r1⟩
  | ref a =>
    have e : (match L a with | some (.lst xs) => some xs | none => none) = some ds := e
    cases q : L a with
    | none => rw [q] at e; cases e
    | some o =>
      cases o with | lst xs =>
      rw [q] at e; cases e
      obtain ⟨vs, g1, r1⟩ := hr a _ q
      exact ⟨a, vs, r, SqL.of g1, r1⟩
  | _ => cases e
def dSum : RDA := fun ds L Q => ∃ (d : D) (ns : List Int), ds = [d] ∧ lstOf L d = some (ns.map D.int) ∧ Q (.int ns.sum) L
theorem cd_sum : CallD K (rSum K) dSum := fun H L ds xs Qd Q r hr ⟨d, ns, e, h, q⟩ k => by
  subst e
  obtain ⟨v, e, e1⟩ := r.one_inv
  obtain ⟨a, vs, e2, s, r1⟩ := lstOf_rep hr h e1
  subst e e2
  rw [repL_ints r1] at s
  exact ⟨a, ns, rfl, s, k _ L _ H q rfl hr .refl⟩
def dMaxL : RDA := fun ds L Q => ∃ (d : D) (ns : List Int), ds = [d] ∧ lstOf L d = some (ns.map D.int) ∧ 0 < ns.length ∧ ∀ m, m ∈ ns → (∀ y, y ∈ ns → y ≤ m) → Q (.int m) L
theorem cd_maxL : CallD K (rMax K) dMaxL := fun H L ds xs Qd Q r hr ⟨d, ns, e, h, hn, q⟩ k => by
  subst e
  obtain ⟨v, e, e1⟩ := r.one_inv
  obtain ⟨a, vs, e2, s, r1⟩ := lstOf_rep hr h e1
  subst e e2
  rw [repL_ints r1] at s
  exact ⟨a, ns, rfl, s, hn, fun m h1 h2 => k _ L _ H (q m h1 h2) rfl hr .refl⟩
def dMinL : RDA := fun ds L Q => ∃ (d : D) (ns : List Int), ds = [d] ∧ lstOf L d = some (ns.map D.int) ∧ 0 < ns.length ∧ ∀ m, m ∈ ns → (∀ y, y ∈ ns → m ≤ y) → Q (.int m) L
theorem cd_minL : CallD K (rMin K) dMinL := fun H L ds xs Qd Q r hr ⟨d, ns, e, h, hn, q⟩ k => by
  subst e
  obtain ⟨v, e, e1⟩ := r.one_inv
  obtain ⟨a, vs, e2, s, r1⟩ := lstOf_rep hr h e1
  subst e e2
  rw [repL_ints r1] at s
  exact ⟨a, ns, rfl, s, hn, fun m h1 h2 => k _ L _ H (q m h1 h2) rfl hr .refl⟩
def dAll : RDA := fun ds L Q => ∃ (d : D) (bs : List Bool), ds = [d] ∧ lstOf L d = some (bs.map D.bl) ∧ Q (.bl (bs.all id)) L
theorem cd_all : CallD K (rAll K) dAll := fun H L ds xs Qd Q r hr ⟨d, ns, e, h, q⟩ k => by
  subst e
  obtain ⟨v, e, e1⟩ := r.one_inv
  obtain ⟨a, vs, e2, s, r1⟩ := lstOf_rep hr h e1
  subst e e2
  rw [repL_bls r1] at s
  exact ⟨a, ns, rfl, s, k _ L _ H q rfl hr .refl⟩
def dAny : RDA := fun ds L Q => ∃ (d : D) (bs : List Bool), ds = [d] ∧ lstOf L d = some (bs.map D.bl) ∧ Q (.bl (bs.any id)) L
theorem cd_any : CallD K (rAny K) dAny := fun H L ds xs Qd Q r hr ⟨d, ns, e, h, q⟩ k => by
  subst e
  obtain ⟨v, e, e1⟩ := r.one_inv
  obtain ⟨a, vs, e2, s, r1⟩ := lstOf_rep hr h e1
  subst e e2
  rw [repL_bls r1] at s
  exact ⟨a, ns, rfl, s, k _ L _ H q rfl hr .refl⟩
end
end D2

set_option Elab.async false
set_option linter.all false
set_option maxRecDepth 100000
set_option maxHeartbeats 1000000
namespace D2
open PySem PySem.Spec PyProof.Rows L2
/-! ### equality -/
def optAll {α β : Type} (f : α → Option β) : List α → Option (List β)
  | [] => some []
  | x :: xs => match f x with
    | none => none
    | some y => match optAll f xs with
      | none => none
      | some ys => some (y :: ys)
/-- the data that a value reads as -/
def pyL (L : DH) : Nat → D → Option PyData
  | _, .non => some .none
  | _, .bl b => some (.bool b)
  | _, .int i => some (.int i)
  | _, .str x => some (.str x)
  | 0, .tup _ => none
  | 0, .lro _ => none
  | 0, .ref _ => none
  | n + 1, .tup ds => (optAll (pyL L n) ds).map PyData.tuple
  | n + 1, .lro ds => (optAll (pyL L n) ds).map PyData.list
  | n + 1, .ref a => match L a with
    | some (.lst ds) => (optAll (pyL L n) ds).map PyData.list
    | none => none
section
variable {K : PySem.W.Frag} {H : Hp} {L : DH}
theorem optAll_cons {α β : Type} {f : α → Option β} {x : α} {xs : List α} {r : List β} (h : optAll f (x :: xs) = some r) : ∃ y ys, f x = some y ∧ optAll f xs = some ys ∧ r = y :: ys := by
  unfold optAll at h
  cases e : f x with
  | none => rw [e] at h; cases h
  | some y =>
    rw [e] at h
    cases e2 : optAll f xs with
    | none => rw [e2] at h; cases h
    | some ys => rw [e2] at h; cases h; exact ⟨y, ys, rfl, rfl, rfl⟩
theorem dpAll_of {n : Nat} (ih : ∀ (d : D) (v : V) (p : PyData), pyL L n d = some p → Rep K H d v → Dp K H v p ∧ p.canLay0 = true ∧ p.depth ≤ n + 1) :
    ∀ (ds : List D) (vs : List V) (ps : List PyData), optAll (pyL L n) ds = some ps → RepL K H ds vs → DpAll K H vs ps ∧ PyData.canLayAll0 ps = true ∧ PyData.depthAll ps ≤ n + 1
  | [], _, _, h, r => by
    cases h
    cases (show _ = [] from r)
    exact ⟨.nil, rfl, Nat.zero_le _⟩
  | d :: ds, _, _, h, ⟨v, vr, e, rv, rr⟩ => by
    obtain ⟨p, ps, h1, h2, e2⟩ := optAll_cons h
    subst e e2
    obtain ⟨a1, a2, a3⟩ := ih d v p h1 rv
    obtain ⟨b1, b2, b3⟩ := dpAll_of ih ds vr ps h2 rr
    refine ⟨.cons a1 b1, by unfold PyData.canLayAll0; rw [a2, b2]; rfl, ?_⟩
    unfold PyData.depthAll
    exact Nat.max_le.mpr ⟨a3, b3⟩
theorem dp_of (hr : HR K H L) : ∀ (n : Nat) (d : D) (v : V) (p : PyData), pyL L n d = some p → Rep K H d v → Dp K H v p ∧ p.canLay0 = true ∧ p.depth ≤ n + 1 := fun n => by
  induction n with
  | zero =>
    intro d v p h r
    cases d with
    | non => cases h; cases (show v = _ from r); exact ⟨.non, rfl, by decide⟩
    | bl b => cases h; cases (show v = _ from r); exact ⟨.bl b, rfl, by simp [PyData.depth]⟩
    | int b => cases h; cases (show v = _ from r); exact ⟨.int b, rfl, by simp [PyData.depth]⟩
    | str b => cases h; cases (show v = _ from r.1); exact ⟨.str b, r.2, by simp [PyData.depth]⟩
    | tup b => cases h
    | lro b => cases h
    | ref b => cases h
  | succ n ih =>
    intro d v p h r
    cases d with
    | non => cases h; cases (show v = _ from r); exact ⟨.non, rfl, by simp [PyData.depth]⟩
    | bl b => cases h; cases (show v = _ from r); exact ⟨.bl b, rfl, by simp [PyData.depth]⟩
    | int b => cases h; cases (show v = _ from r); exact ⟨.int b, rfl, by simp [PyData.depth]⟩
    | str b => cases h; cases (show v = _ from r.1); exact ⟨.str b, r.2, by simp [PyData.depth]⟩
    | tup ds =>
      obtain ⟨a, vs, e, s, rl⟩ := r
      have h : (optAll (pyL L n) ds).map PyData.tuple = some p := h
      obtain ⟨ps, h1, e1⟩ := Option.map_eq_some_iff.mp h
      obtain ⟨b1, b2, b3⟩ := dpAll_of ih ds vs ps h1 rl
      subst e e1
      exact ⟨.tup s b1, b2, by unfold PyData.depth; omega⟩
    | lro ds =>
      obtain ⟨a, vs, e, s, rl⟩ := r
      have h : (optAll (pyL L n) ds).map PyData.list = some p := h
      obtain ⟨ps, h1, e1⟩ := Option.map_eq_some_iff.mp h
      obtain ⟨b1, b2, b3⟩ := dpAll_of ih ds vs ps h1 rl
      subst e e1
      exact ⟨.lst s.sq b1, b2, by unfold PyData.depth; omega⟩
    | ref a =>
      cases (show v = _ from r)
      have h : (match L a with | some (.lst ds) => (optAll (pyL L n) ds).map PyData.list | none => none) = some p := h
      cases q : L a with
      | none => rw [q] at h; cases h
      | some o =>
        cases o with | lst ds =>
        rw [q] at h
        obtain ⟨vs, g1, rl⟩ := hr a _ q
        obtain ⟨ps, h1, e1⟩ := Option.map_eq_some_iff.mp h
        obtain ⟨b1, b2, b3⟩ := dpAll_of ih ds vs ps h1 rl
        subst e1
        exact ⟨.lst (SqL.of g1) b1, b2, by unfold PyData.depth; omega⟩
def eqD (L : DH) (x y : D) : Option Bool := match pyL L 60 x with
  | none => none
  | some p => match pyL L 60 y with
    | none => none
    | some q => some (PyData.eqv p q)
def dEq : RD2 := fun x y L Q => ∃ b, eqD L x y = some b ∧ Q (.bl b) L
def dNe : RD2 := fun x y L Q => ∃ b, eqD L x y = some b ∧ Q (.bl (!b)) L
theorem eqD_some {x y : D} {b : Bool} (h : eqD L x y = some b) : ∃ p q, pyL L 60 x = some p ∧ pyL L 60 y = some q ∧ b = PyData.eqv p q := by
  unfold eqD at h
  cases e : pyL L 60 x with
  | none => rw [e] at h; cases h
  | some p =>
    rw [e] at h
    cases e2 : pyL L 60 y with
    | none => rw [e2] at h; cases h
    | some q => rw [e2] at h; cases h; exact ⟨p, q, rfl, rfl, rfl⟩
theorem shaped_of {p : PyData} (h1 : p.canLay0 = true) (h2 : p.depth ≤ 61) : SeqAt.shaped p = true := by
  unfold SeqAt.shaped
  rw [h1, decide_eq_true (show p.depth ≤ 64 by omega)]
  rfl
theorem opd_eq : OpD K (rEqD K) dEq := fun H L d e x y Qd Q rx ry hr ⟨b, h, q⟩ k => by
  obtain ⟨p1, p2, h1, h2, e⟩ := eqD_some h
  obtain ⟨a1, a2, a3⟩ := dp_of hr 60 _ _ _ h1 rx
  obtain ⟨b1, b2, b3⟩ := dp_of hr 60 _ _ _ h2 ry
  subst e
  exact ⟨p1, p2, a1, b1, shaped_of a2 a3, shaped_of b2 b3, k _ L _ H q rfl hr .refl⟩
theorem opd_ne : OpD K (rNeD K) dNe := fun H L d e x y Qd Q rx ry hr ⟨b, h, q⟩ k => by
  obtain ⟨p1, p2, h1, h2, e⟩ := eqD_some h
  obtain ⟨a1, a2, a3⟩ := dp_of hr 60 _ _ _ h1 rx
  obtain ⟨b1, b2, b3⟩ := dp_of hr 60 _ _ _ h2 ry
  subst e
  exact ⟨p1, p2, a1, b1, shaped_of a2 a3, shaped_of b2 b3, k _ L _ H q rfl hr .refl⟩
end
/-! in -/
def rInP (K : PySem.W.Frag) (neg : Bool) : R2 := fun x y H Q => ∃ ds d, (Dp K H y (.list ds) ∨ Dp K H y (.tuple ds)) ∧ Dp K H x d ∧ PyData.canLayAll0 ds = true ∧ d.canLay0 = true ∧ d.depth ≤ 61 ∧
  Q (.bl (neg.xor (ds.any fun y => PyData.eqv y d))) H
theorem op_inP {X : Cx} (hu : X.A.units + 64 < cLine) : OpR X (compareOp .In) (rInP X.K false) := by
  intro pins s σ H x y v u Q I rx ry h
  obtain ⟨ds, d, hy, hx, c1, c2, dd, q⟩ := h
  have q : Q (.bl (ds.any fun y => PyData.eqv y d)) H := by simpa using q
  obtain ⟨as, r1⟩ := Dp.reads I d x v hx rx
  rcases hy with hy | hy
  · obtain ⟨bs, r2⟩ := Dp.reads I _ y u hy ry
    exact SeqAt.in_list_reads r2 r1 c1 c2 (by have := Nat.min_le_right (PyData.depthAll ds) d.depth; omega) ⟨.bl _, H, I, rfl, q⟩
  · obtain ⟨bs, r2⟩ := Dp.reads I _ y u hy ry
    exact SeqAt.in_tuple_reads r2 r1 c1 c2 (by have := Nat.min_le_right (PyData.depthAll ds) d.depth; omega) ⟨.bl _, H, I, rfl, q⟩
theorem op_ninP {X : Cx} (hu : X.A.units + 64 < cLine) : OpR X (compareOp .NotIn) (rInP X.K true) := by
  intro pins s σ H x y v u Q I rx ry h
  obtain ⟨ds, d, hy, hx, c1, c2, dd, q⟩ := h
  have q : Q (.bl (!(ds.any fun y => PyData.eqv y d))) H := by simpa using q
  obtain ⟨as, r1⟩ := Dp.reads I d x v hx rx
  rcases hy with hy | hy
  · obtain ⟨bs, r2⟩ := Dp.reads I _ y u hy ry
    exact SeqAt.notIn_list_reads r2 r1 c1 c2 (by have := Nat.min_le_right (PyData.depthAll ds) d.depth; omega) ⟨.bl _, H, I, rfl, q⟩
  · obtain ⟨bs, r2⟩ := Dp.reads I _ y u hy ry
    exact SeqAt.notIn_tuple_reads r2 r1 c1 c2 (by have := Nat.min_le_right (PyData.depthAll ds) d.depth; omega) ⟨.bl _, H, I, rfl, q⟩
def rInS (neg : Bool) : R2 := fun x y H Q => ∃ (c : Nat) (z : Str), x = .str ⟨#[c]⟩ ∧ y = .str z ∧ Q (.bl (neg.xor (decide (c ∈ z.cps.toList)))) H
theorem op_inS {X : Cx} : OpR X (compareOp .In) (rInS false) := fun pins s σ H x y v u Q I rx ry ⟨c, z, e1, e2, q⟩ => op_in_sign pins s σ H x y v u Q I rx ry ⟨c, z, e1, e2, by simpa using q⟩
theorem op_ninS {X : Cx} : OpR X (compareOp .NotIn) (rInS true) := fun pins s σ H x y v u Q I rx ry ⟨c, z, e1, e2, q⟩ => op_notIn_sign pins s σ H x y v u Q I rx ry ⟨c, z, e1, e2, by simpa using q⟩
/-- x in y: a sign in a text; an item of a list, a tuple -/
def inD (L : DH) (x y : D) : Option Bool := match y with
  | .str z => (match x with
    | .str s => (match s.cps.toList with
      | [c] => some (decide (c ∈ z.cps.toList))
      | _ => none)
    | _ => none)
  | y => match itemsOf L y with
    | none => none
    | some ys => match optAll (pyL L 59) ys with
      | none => none
      | some ps => match pyL L 60 x with
        | none => none
        | some p => some (ps.any fun q => PyData.eqv q p)
def dIn (neg : Bool) : RD2 := fun x y L Q => ∃ b, inD L x y = some b ∧ Q (.bl (neg.xor b)) L
theorem itemsOf_py {K : PySem.W.Frag} {H : Hp} {L : DH} (hr : HR K H L) {y : D} {ys : List D} {ps : List PyData} {v : V} (h : itemsOf L y = some ys) (h2 : optAll (pyL L 59) ys = some ps) (r : Rep K H y v) :
    (Dp K H v (.list ps) ∨ Dp K H v (.tuple ps)) ∧ PyData.canLayAll0 ps = true := by
  cases y with
  | tup xs =>
    cases h
    obtain ⟨a1, a2, a3⟩ := dp_of hr 60 (.tup ys) v (.tuple ps) (by show (optAll (pyL L 59) ys).map PyData.tuple = _; rw [h2]; rfl) r
    exact ⟨.inr a1, a2⟩
  | lro xs =>
    cases h
    obtain ⟨a1, a2, a3⟩ := dp_of hr 60 (.lro ys) v (.list ps) (by show (optAll (pyL L 59) ys).map PyData.list = _; rw [h2]; rfl) r
    exact ⟨.inl a1, a2⟩
  | ref a =>
    have h : (match L a with | some (.lst xs) => some xs | none => none) = some ys := h
    cases q : L a with
    | none => rw [q] at h; cases h
    | some o =>
      cases o with | lst xs =>
      rw [q] at h; cases h
      obtain ⟨a1, a2, a3⟩ := dp_of hr 60 (.ref a) v (.list ps) (by
        show (match L a with | some (.lst ds) => (optAll (pyL L 59) ds).map PyData.list | none => none) = _
        rw [q]; show (optAll (pyL L 59) ys).map PyData.list = _; rw [h2]; rfl) r
      exact ⟨.inl a1, a2⟩
  | _ => cases h
theorem opd_in {K : PySem.W.Frag} (neg : Bool) : OpD K (fun x y H Q => rInS neg x y H Q ∨ rInP K neg x y H Q) (dIn neg) := fun H L d e x y Qd Q rx ry hr ⟨b, h, q⟩ k => by
  have core : ∀ ys, itemsOf L e = some ys → (match optAll (pyL L 59) ys with
      | none => none
      | some ps => match pyL L 60 d with
        | none => none
        | some p => some (ps.any fun q => PyData.eqv q p)) = some b → rInP K neg x y H Q := by
    intro ys h1 h
    cases h2 : optAll (pyL L 59) ys with
    | none => rw [h2] at h; cases h
    | some ps =>
      rw [h2] at h
      cases h3 : pyL L 60 d with
      | none => rw [h3] at h; cases h
      | some p =>
        rw [h3] at h
        cases h
        obtain ⟨a1, a2⟩ := itemsOf_py hr h1 h2 ry
        obtain ⟨b1, b2, b3⟩ := dp_of hr 60 _ _ _ h3 rx
        exact ⟨ps, p, a1, b1, a2, b2, b3, k _ L _ H q rfl hr .refl⟩
  cases e with
  | str z =>
    cases d with
    | str s =>
      have h : (match s.cps.toList with | [c] => some (decide (c ∈ z.cps.toList)) | _ => none) = some b := h
      match hs : s.cps.toList with
      | [] => rw [hs] at h; cases h
      | c :: c2 :: r => rw [hs] at h; cases h
      | [c] =>
        rw [hs] at h
        cases h
        have es : s = ⟨#[c]⟩ := by
          have : s.cps = #[c] := by apply Array.toList_inj.mp; rw [hs]
          cases s; simp_all
        subst es
        exact .inl ⟨c, z, rx.1, ry.1, k _ L _ H q rfl hr .refl⟩
    | _ => cases h
  | tup ys => exact .inr (core ys rfl h)
  | lro ys => exact .inr (core ys rfl h)
  | ref a =>
    have h : (match itemsOf L (.ref a) with
      | none => none
      | some ys => match optAll (pyL L 59) ys with
        | none => none
        | some ps => match pyL L 60 d with
          | none => none
          | some p => some (ps.any fun q => PyData.eqv q p)) = some b := h
    cases h1 : itemsOf L (.ref a) with
    | none => rw [h1] at h; cases h
    | some ys => rw [h1] at h; exact .inr (core ys h1 h)
  | _ => cases h
/-! ### isinstance -/
inductive Ty where
  | int | bool | str | tup | lst
deriving DecidableEq
def Ty.nm : Ty → String
  | .int => "int" | .bool => "bool" | .str => "str" | .tup => "tuple" | .lst => "list"
def isA (L : DH) : D → Ty → Option Bool
  | .non, _ => some false
  | .bl _, t => some (decide (t = .int ∨ t = .bool))
  | .int _, t => some (decide (t = .int))
  | .str _, t => some (decide (t = .str))
  | .tup _, t => some (decide (t = .tup))
  | .lro _, t => some (decide (t = .lst))
  | .ref a, t => match L a with
    | some _ => some (decide (t = .lst))
    | none => none
section
variable {K : PySem.W.Frag} {H : Hp} {L : DH}
theorem kit_all (t : Ty) : kitB "NoneType" t.nm = some false ∧ kitB "bool" t.nm = some (decide (t = .int ∨ t = .bool)) ∧ kitB "int" t.nm = some (decide (t = .int)) ∧
    kitB "str" t.nm = some (decide (t = .str)) ∧ kitB "tuple" t.nm = some (decide (t = .tup)) ∧ kitB "list" t.nm = some (decide (t = .lst)) := by
  cases t <;> decide +kernel
theorem tyX_tup {a : Addr} {vs : List V} (s : SqT K H a vs) : TyX K H (.ref a) (.type "tuple") := by
  rcases s with (h | ⟨o, h⟩) | ⟨o, its, n, h, c, _⟩
  · exact .base (.tup h)
  · exact .fTuple h
  · exact .kTuple h c
theorem tyX_fz {a : Addr} {vs : List V} (s : FzL K H a vs) : TyX K H (.ref a) (.type "list") := by
  rcases s with ⟨o, h⟩ | ⟨o, its, n, h, c, _⟩
  · exact .base (.frz h)
  · exact .kList h c
theorem isA_ok (hr : HR K H L) {d : D} {v : V} {t : Ty} {b : Bool} (h : isA L d t = some b) (r : Rep K H d v) : ∃ u, TyX K H v u ∧ PySem.W.kitOne K u (.type t.nm) = some b := by
  obtain ⟨k1, k2, k3, k4, k5, k6⟩ := kit_all t
  cases d with
  | non => cases h; cases (show v = _ from r); exact ⟨_, .base .non, kit_ty k1⟩
  | bl x => cases h; cases (show v = _ from r); exact ⟨_, .base (.bl x), kit_ty k2⟩
  | int x => cases h; cases (show v = _ from r); exact ⟨_, .base (.int x), kit_ty k3⟩
  | str x => cases h; cases (show v = _ from r.1); exact ⟨_, .base (.str x), kit_ty k4⟩
  | tup ds => cases h; obtain ⟨a, vs, e, s, rl⟩ := r; subst e; exact ⟨_, tyX_tup s, kit_ty k5⟩
  | lro ds => cases h; obtain ⟨a, vs, e, s, rl⟩ := r; subst e; exact ⟨_, tyX_fz s, kit_ty k6⟩
  | ref a =>
    have h : (match L a with | some _ => some (decide (t = .lst)) | none => none) = some b := h
    cases q : L a with
    | none => rw [q] at h; cases h
    | some o =>
      rw [q] at h; cases h
      obtain ⟨vs, g⟩ := (hr a o q).lst_of
      cases (show v = _ from r)
      exact ⟨_, .base (.lst g), kit_ty k6⟩
end
def dIsi (t : Ty) (da : DE) : DE := fun s L Q E => da s L (fun d L1 => ∃ b, isA L1 d t = some b ∧ Q (.bl b) L1) E
def isAny (L : DH) (d : D) : List Ty → Option Bool
  | [] => some false
  | t :: ts => match isA L d t with
    | some true => some true
    | some false => isAny L d ts
    | none => none
def dIsiT (ts : List Ty) (da : DE) : DE := fun s L Q E => da s L (fun d L1 => ∃ b, isAny L1 d ts = some b ∧ Q (.bl b) L1) E
section
variable {X : Cx} {W : WX} {pos : Pos}
theorem q_isi {a : Expr} {da : DE} {p p2 : Pos} {tn : Str} (t : Ty) (hm : X.mg "isinstance" = none) (ht : X.mg tn = none) (hb : bootBuiltins tn = some (.type t.nm)) (ha : QE X W a da) (hg : Gl X "isinstance" := by rfl) (hg2 : Gl X tn := by rfl) (hn : tn ≠ "__name__" := by decide) (hd : (tn == ("__debug__" : Str)) = false := by decide)
    (he : starEach [a, .Name tn p2] X.env = (false, eval a X.env) :: starEach [.Name tn p2] X.env := by rfl) (he2 : starEach [.Name tn p2] X.env = (false, eval (.Name tn p2) X.env) :: starEach [] X.env := by rfl) (hpl : (backTo pos (starEach [.Name tn p2] X.env)).any (·.1) = false := by rfl) :
    QE X W (.Call (.Name "isinstance" p) [a, .Name tn p2] [] pos) (dIsi t da) := by
  have hv : bootBuiltins "isinstance" = some (.builtin "isinstance") := by decide +kernel
  refine ⟨PE_mono (pe_callB (call_isi) hg hm hv (pa_cons ha.pe (pa_cons (pe_bltn (v := .ty t.nm) hg2 ht hb rfl hn hd) pa_nil he2) he) (by decide) (by decide) he hpl) fun σ H Q ⟨s, L, Qd, Ed, hs, hr, q, hq, lp⟩ => ?_⟩
  refine liftE_bind hs hr lp q fun d L1 x H1 ⟨b, e, q1⟩ r1 hr1 k1 hs1 t1 lp1 => ?_
  obtain ⟨u, ty, kk⟩ := isA_ok hr1 e r1
  exact ⟨x, .ty t.nm, u, .type t.nm, b, rfl, .ty _, ty, kk, hq _ L1 _ H1 q1 rfl hr1 k1⟩
end
/-! ### methods -/
abbrev RDM := D → List D → DH → DK → Prop
def MtD (K : PySem.W.Frag) (r : V → List V → Hp → VK → Prop) (rD : RDM) : Prop := ∀ (H : Hp) (L : DH) (d : D) (ds : List D) (x : V) (xs : List V) (Qd : DK) (Q : VK), Rep K H d x → RepL K H ds xs → HR K H L → rD d ds L Qd →
  (∀ d' L' v H', Qd d' L' → Rep K H' d' v → HR K H' L' → Kp H L H' L' → Q v H') → r x xs H Q
/-- is it a list, a text -/
def chkOk (K : PySem.W.Frag) (T : String) (c : D → DH → Prop) : Prop := ∀ (H : Hp) (L : DH) (d : D) (v : V), HR K H L → c d L → Rep K H d v → tyV K T v H
def chkL : D → DH → Prop := fun d L => ∃ xs, lstOf L d = some xs
def chkS : D → DH → Prop := fun d _ => ∃ z, d = .str z
theorem chkL_ok {K : PySem.W.Frag} : chkOk K "list" chkL := fun H L d v hr ⟨xs, h⟩ r => by
  obtain ⟨a, vs, e, s, _⟩ := lstOf_rep hr h r
  subst e
  exact .inl ⟨rfl, vs, s⟩
theorem chkS_ok {K : PySem.W.Frag} : chkOk K "str" chkS := fun H L d v hr ⟨z, e⟩ r => by
  subst e
  cases (show v = _ from r.1)
  rfl
def dBM (c : D → DH → Prop) (rD : RDM) (do_ : DE) (t : DA) : DE := fun s L Q E => do_ s L (fun d L1 => c d L1 ∧ t s L1 (fun ds L2 => rD d ds L2 Q) E) E
def dBM0 (c : D → DH → Prop) (rD : RDM) (do_ : DE) : DE := fun s L Q E => do_ s L (fun d L1 => c d L1 ∧ rD d [] L1 Q) E
section
variable {X : Cx} {W : WX} {pos : Pos}
theorem q_bm {T : String} {name : Str} {id : String} {r : V → List V → Hp → VK → Prop} {rD : RDM} {c : D → DH → Prop} {o e : Expr} {es : List Expr} {do_ : DE} {t : DA} {apos cpos : Pos} (pa : PlainAttrs T) (slot : Slot T name id) (hty : typeOf (.builtin id) = pure (.type "method_descriptor")) (hm : MtR X id r)
    (hc : chkOk X.K T c) (h : MtD X.K r rD) (ho : QE X W o do_) (ha : QA X W (e :: es) t) (hbase : attributeBase o name X.env (eval o X.env) = eval o X.env := by rfl)
    (hfew : ((backTo cpos (starEach (e :: es) X.env)).all (fun x => !x.1) && (backToKw cpos (keywordEach [] X.env)).all (fun x => x.1.isSome)
      && decide ((e :: es).length + ([] : List Keyword).length + (if ([] : List Keyword).isEmpty then 0 else 1) < 30)) = true := by rfl)
    (hline : (apos.endLine == cpos.line) = true := by rfl) (hs : starEach (e :: es) X.env = (false, eval e X.env) :: starEach es X.env := by rfl) (hplain : (backTo cpos (starEach es X.env)).any (·.1) = false := by rfl) :
    QE X W (.Call (.Attribute o name apos) (e :: es) [] cpos) (dBM c rD do_ t) := by
  refine ⟨PE_mono (pe_bm pa slot hty hm ho.pe ha.pa hbase hfew hline hs hplain) fun σ H Q ⟨s, L, Qd, Ed, hs, hr, q, hq, lp⟩ => ?_⟩
  refine liftE_bind hs hr lp q fun d L1 x H1 ⟨hc1, q1⟩ r1 hr1 k1 hs1 t1 lp1 => ⟨hc H1 L1 d x hr1 hc1 r1, ?_⟩
  refine liftA_bind hs1 hr1 lp1 q1 fun ds L2 xs H2 q2 r2 hr2 k2 hs2 t2 lp2 => ?_
  exact h H2 L2 d ds x xs Qd Q (Rep.tk t2 _ _ r1) r2 hr2 q2 fun d' L' v H' a b c k => hq d' L' v H' a b c ((k1.trans k2).trans k)
theorem q_bm0 {T : String} {name : Str} {id : String} {r : V → List V → Hp → VK → Prop} {rD : RDM} {c : D → DH → Prop} {o : Expr} {do_ : DE} {apos cpos : Pos} (pa : PlainAttrs T) (slot : Slot T name id) (hty : typeOf (.builtin id) = pure (.type "method_descriptor")) (hm : MtR X id r)
    (hc : chkOk X.K T c) (h : MtD X.K r rD) (ho : QE X W o do_) (hbase : attributeBase o name X.env (eval o X.env) = eval o X.env := by rfl) (hline : (apos.endLine == cpos.line) = true := by rfl) :
    QE X W (.Call (.Attribute o name apos) [] [] cpos) (dBM0 c rD do_) := by
  refine ⟨PE_mono (pe_bm0 pa slot hty hm ho.pe hbase hline) fun σ H Q ⟨s, L, Qd, Ed, hs, hr, q, hq, lp⟩ => ?_⟩
  refine liftE_bind hs hr lp q fun d L1 x H1 ⟨hc1, q1⟩ r1 hr1 k1 hs1 t1 lp1 => ⟨hc H1 L1 d x hr1 hc1 r1, ?_⟩
  exact h H1 L1 d [] x [] Qd Q r1 rfl hr1 q1 fun d' L' v H' a b c k => hq d' L' v H' a b c (k1.trans k)
end
section
variable {K : PySem.W.Frag}
def marg (f : D → D → DH → DK → Prop) : RDM := fun d ds L Q => one (f d) ds L Q
theorem mt_arg {r : V → List V → Hp → VK → Prop} {f : D → D → DH → DK → Prop} (h : ∀ (H : Hp) (L : DH) (d e : D) (x y : V) (Qd : DK) (Q : VK), Rep K H d x → Rep K H e y → HR K H L → f d e L Qd →
    (∀ d' L' v H', Qd d' L' → Rep K H' d' v → HR K H' L' → Kp H L H' L' → Q v H') → r x [y] H Q) : MtD K r (marg f) := fun H L d ds x xs Qd Q rx rr hr q k => by
  cases ds with
  | nil => exact q.elim
  | cons e t =>
    cases t with
    | nil => obtain ⟨v, e, rv⟩ := rr.one_inv; subst e; exact h H L d _ x v Qd Q rx rv hr q k
    | cons _ _ => exact q.elim
def dAppend1 : D → D → DH → DK → Prop := fun d e L Q => match d with
  | .ref a => ∃ xs, L a = some (.lst xs) ∧ xs.length < 16777216 ∧ Q .non (upd L a (.lst (xs ++ [e])))
  | _ => False
theorem md_append : MtD K rAppend (marg dAppend1) := mt_arg fun H L d e x y Qd Q rx ry hr q k => by
  cases d with
  | ref a =>
    obtain ⟨xs, h1, hl, q⟩ := q
    obtain ⟨vs, g1, r1⟩ := hr a _ h1
    have z := hr.set h1 (r1.append (.one ry))
    exact ⟨a, vs, y, rx, rfl, g1, by rw [← r1.length]; exact line_lt hl, k _ _ _ _ q rfl z.1 z.2⟩
  | _ => exact False.elim q
def dExtend1 : D → D → DH → DK → Prop := fun d e L Q => match d, e with
  | .ref a, .ref b => ∃ xs ys, L a = some (.lst xs) ∧ L b = some (.lst ys) ∧ xs.length + ys.length ≤ 16777216 ∧ Q .non (upd L a (.lst (xs ++ ys)))
  | _, _ => False
theorem md_extend : MtD K rExtend (marg dExtend1) := mt_arg fun H L d e x y Qd Q rx ry hr q k => by
  cases d with
  | ref a =>
    cases e with
    | ref b =>
      obtain ⟨xs, ys, h1, h2, hl, q⟩ := q
      obtain ⟨vs, g1, r1⟩ := hr a _ h1
      obtain ⟨us, g2, r2⟩ := hr b _ h2
      cases (show y = _ from ry)
      have z := hr.set h1 (r1.append r2)
      exact ⟨a, b, vs, us, rx, rfl, g1, g2, by rw [← r1.length, ← r2.length]; exact line_of hl, k _ _ _ _ q rfl z.1 z.2⟩
    | _ => exact False.elim q
  | _ => exact False.elim q
def dPop0 : RDM := fun d ds L Q => match ds with
  | [] => (match d with
    | .ref a => ∃ xs y, L a = some (.lst xs) ∧ xs[xs.length - 1]? = some y ∧ Q y (upd L a (.lst xs.dropLast))
    | _ => False)
  | _ => False
theorem md_pop0 : MtD K rPop dPop0 := fun H L d ds x xs Qd Q rx rr hr q k => by
  cases ds with
  | nil =>
    cases d with
    | ref a =>
      obtain ⟨xs, y, h1, h2, q⟩ := q
      obtain ⟨vs, g1, r1⟩ := hr a _ h1
      obtain ⟨v, e, rv⟩ := r1.get h2
      have z := hr.set h1 r1.dropLast
      have hl := r1.length
      exact ⟨a, vs, v, rx, rr, g1, by rw [← hl]; exact e, k _ _ _ _ q (Rep.tk (z.2.tk hr) _ _ rv) z.1 z.2⟩
    | _ => exact False.elim q
  | cons _ _ => exact False.elim q
def dPopAt1 : D → D → DH → DK → Prop := fun d e L Q => match d, e with
  | .ref a, .int i => ∃ xs k y, L a = some (.lst xs) ∧ -(2 ^ 63) ≤ i ∧ i < 2 ^ 63 ∧ seqIndex? i xs.length = some k ∧ xs[k]? = some y ∧ Q y (upd L a (.lst (xs.eraseIdx k)))
  | _, _ => False
theorem md_popAt : MtD K rPopAt (marg dPopAt1) := mt_arg fun H L d e x y Qd Q rx ry hr q k => by
  cases d with
  | ref a =>
    cases e with
    | int i =>
      obtain ⟨xs, j, y', h1, b1, b2, h2, h3, q⟩ := q
      obtain ⟨vs, g1, r1⟩ := hr a _ h1
      obtain ⟨v, e, rv⟩ := r1.get h3
      have z := hr.set h1 (r1.eraseIdx j)
      cases (show y = _ from ry)
      exact ⟨a, vs, i, j, v, rx, rfl, g1, b1, b2, by rw [← r1.length]; exact h2, e, k _ _ _ _ q (Rep.tk (z.2.tk hr) _ _ rv) z.1 z.2⟩
    | _ => exact False.elim q
  | _ => exact False.elim q
/-- xs.index(y), flat things -/
def flatD : D → Bool
  | .non => true | .bl _ => true | .int _ => true | .str _ => true | _ => false
def eqF : D → D → Bool
  | .non, .non => true
  | .bl a, .bl b => a == b
  | .bl a, .int b => (if a then 1 else 0) == b
  | .int a, .bl b => a == (if b then 1 else 0)
  | .int a, .int b => a == b
  | .str a, .str b => a == b
  | _, _ => false
theorem flat_rep {H : Hp} {d : D} {v : V} (f : flatD d = true) (r : Rep K H d v) : flatV v = true := by
  cases d with
  | non => cases (show v = _ from r); rfl
  | bl _ => cases (show v = _ from r); rfl
  | int _ => cases (show v = _ from r); rfl
  | str _ => cases (show v = _ from r.1); rfl
  | _ => cases f
theorem eqF_rep {H : Hp} {d e : D} {v u : V} (f : flatD d = true) (g : flatD e = true) (r : Rep K H d v) (r2 : Rep K H e u) : eqV v u = eqF d e := by
  cases d with
  | non => cases (show v = _ from r); cases e with
    | str _ => cases (show u = _ from r2.1); rfl
    | non => cases (show u = _ from r2); rfl
    | bl _ => cases (show u = _ from r2); rfl
    | int _ => cases (show u = _ from r2); rfl
    | _ => cases g
  | bl _ => cases (show v = _ from r); cases e with
    | str _ => cases (show u = _ from r2.1); rfl
    | non => cases (show u = _ from r2); rfl
    | bl _ => cases (show u = _ from r2); rfl
    | int _ => cases (show u = _ from r2); rfl
    | _ => cases g
  | int _ => cases (show v = _ from r); cases e with
    | str _ => cases (show u = _ from r2.1); rfl
    | non => cases (show u = _ from r2); rfl
    | bl _ => cases (show u = _ from r2); rfl
    | int _ => cases (show u = _ from r2); rfl
    | _ => cases g
  | str _ => cases (show v = _ from r.1); cases e with
    | str _ => cases (show u = _ from r2.1); rfl
    | non => cases (show u = _ from r2); rfl
    | bl _ => cases (show u = _ from r2); rfl
    | int _ => cases (show u = _ from r2); rfl
    | _ => cases g
  | _ => cases f
theorem RepL.get' {H : Hp} {ds : List D} {vs : List V} {i : Nat} {v : V} (h : RepL K H ds vs) (e : vs[i]? = some v) : ∃ d, ds[i]? = some d ∧ Rep K H d v := by
  have hl := h.length
  have hi : i < ds.length := by rw [hl]; exact (List.getElem?_eq_some_iff.mp e).1
  obtain ⟨u, e2, r⟩ := h.get (List.getElem?_eq_getElem hi)
  rw [e] at e2; cases e2
  exact ⟨_, List.getElem?_eq_getElem hi, r⟩
theorem flat_all {H : Hp} : ∀ {ds : List D} {vs : List V}, RepL K H ds vs → ds.all flatD = true → vs.all flatV = true
  | [], _, h, _ => by cases (show _ = [] from h); rfl
  | d :: ds, _, ⟨v, r, e, rv, rr⟩, f => by
    subst e
    rw [List.all_cons, Bool.and_eq_true] at f
    rw [List.all_cons, flat_rep f.1 rv, flat_all rr f.2]; rfl
def dIndex1 : D → D → DH → DK → Prop := fun d e L Q => ∃ xs j z, lstOf L d = some xs ∧ flatD e = true ∧ xs.all flatD = true ∧ xs[j]? = some z ∧ eqF z e = true ∧ (∀ (m : Nat) z', m < j → xs[m]? = some z' → eqF z' e = false) ∧ Q (.int (j : Nat)) L
theorem md_index : MtD K (rIndex K) (marg dIndex1) := mt_arg fun H L d e x y Qd Q rx ry hr ⟨xs, j, z, h, fe, fx, hz, he, hno, q⟩ k => by
  obtain ⟨a, vs, e1, s, rl⟩ := lstOf_rep hr h rx
  obtain ⟨v, e2, rv⟩ := rl.get hz
  have fz : flatD z = true := List.all_eq_true.mp fx z (List.mem_of_getElem? hz)
  refine ⟨a, vs, y, j, v, e1, rfl, s, flat_rep fe ry, flat_all rl fx, e2, by rw [eqF_rep fz fe rv ry]; exact he, fun m z' hm hz' => ?_, k _ L _ H q rfl hr .refl⟩
  obtain ⟨d', e3, rd⟩ := rl.get' hz'
  rw [eqF_rep (List.all_eq_true.mp fx d' (List.mem_of_getElem? e3)) fe rd ry]
  exact hno m d' hm e3
end
end D2

set_option Elab.async false
set_option linter.all false
set_option maxRecDepth 100000
set_option maxHeartbeats 1000000
namespace D2
open PySem PySem.Spec PyProof.Rows L2
/-! ### slices -/
abbrev DO_ := DSt → DH → (Option Int → DH → Prop) → XD → Prop
def liftO (M : KM) (W : WX) (t : DO_) : TO := fun σ H Q => ∃ s L Qd Ed, SR M.K H s σ ∧ HR M.K H L ∧ t s L Qd Ed ∧ (∀ o L' H', Qd o L' → HR M.K H' L' → Kp H L H' L' → Q o H') ∧ LP M W σ H L Ed
structure QO (X : Cx) (W : WX) (e : Option Expr) (t : DO_) : Prop where
  po : PO X e (liftO X.km W t)
def dNoPart : DO_ := fun _ L Q _ => Q none L
def dPart (de : DE) : DO_ := fun s L Q E => de s L (fun d L1 => match d with | .int i => Q (some i) L1 | _ => False) E
abbrev SlD := D → Option Int → Option Int → DH → DK → Prop
def SlOk (K : PySem.W.Frag) (r : V → Option Int → Option Int → Hp → VK → Prop) (rD : SlD) : Prop := ∀ (H : Hp) (L : DH) (d : D) (x : V) (lo hi : Option Int) (Qd : DK) (Q : VK), Rep K H d x → HR K H L → rD d lo hi L Qd →
  (∀ d' L' v H', Qd d' L' → Rep K H' d' v → HR K H' L' → Kp H L H' L' → Q v H') → r x lo hi H Q
def dSl (rD : SlD) (de : DE) (l h : DO_) : DE := fun s L Q E => de s L (fun d L1 => l s L1 (fun lo L2 => h s L2 (fun hi L3 => rD d lo hi L3 Q) E) E) E
section
variable {X : Cx} {W : WX} {pos p2 : Pos} {e : Expr} {de : DE}
theorem qo_none : QO X W none dNoPart := ⟨⟨fun pins s σ H Q I ⟨s', L, Qd, Ed, hs, hr, q, hq, lp⟩ => po_none.run pins s σ H Q I (hq none L H q hr .refl)⟩⟩
theorem qo_some (h : QE X W e de) : QO X W (some e) (dPart de) := ⟨⟨fun pins s σ H Q I ⟨s', L, Qd, Ed, hs, hr, q, hq, lp⟩ => (po_some h.pe).run pins s σ H Q I (liftE_bind hs hr lp q fun d L1 x H1 q1 r1 hr1 k1 hs1 t1 lp1 => by
    cases d with
    | int i => exact ⟨i, r1, hq _ L1 H1 q1 hr1 k1⟩
    | _ => exact False.elim q1)⟩⟩
theorem liftO_bind {M : KM} {σ : L2.St} {H : Hp} {da : DO_} {s : DSt} {L : DH} {Qd : Option Int → DH → Prop} {Ed : XD} {R : Option Int → Hp → Prop} (hs : SR M.K H s σ) (hr : HR M.K H L) (lp : LP M W σ H L Ed) (h : da s L Qd Ed)
    (hk : ∀ d L1 H1, Qd d L1 → HR M.K H1 L1 → Kp H L H1 L1 → SR M.K H1 s σ → TK H H1 → LP M W σ H1 L1 Ed → R d H1) : liftO M W da σ H R :=
  ⟨s, L, Qd, Ed, hs, hr, h, fun d L1 H1 q r1 k => hk d L1 H1 q r1 k (hs.tk (k.tk hr)) (k.tk hr) (lp.after k), lp⟩
theorem q_slice {r : V → Option Int → Option Int → Hp → VK → Prop} {rD : SlD} {lo hi : Option Expr} {l h : DO_} (hr : SlR X r) (hd : SlOk X.K r rD) (he : QE X W e de) (hl : QO X W lo l) (hh : QO X W hi h) : QE X W (.Subscript e (.Slice lo hi none p2) pos) (dSl rD de l h) :=
  ⟨PE_mono (pe_slice hr he.pe hl.po hh.po) fun σ H Q ⟨s, L, Qd, Ed, hs, hr, q, hq, lp⟩ => liftE_bind hs hr lp q fun d L1 x H1 q1 r1 hr1 k1 hs1 t1 lp1 =>
    liftO_bind hs1 hr1 lp1 q1 fun lo L2 H2 q2 hr2 k2 hs2 t2 lp2 => liftO_bind hs2 hr2 lp2 q2 fun hi L3 H3 q3 hr3 k3 hs3 t3 lp3 =>
      hd H3 L3 d x lo hi Qd Q (Rep.tk t3 _ _ (Rep.tk t2 _ _ r1)) hr3 q3 fun d' L' v H' a b c k => hq d' L' v H' a b c (((k1.trans k2).trans k3).trans k)⟩
end
def cut {α : Type} (xs : List α) (lo hi : Option Int) : List α := (xs.drop (HT.sIx xs.length 0 lo)).take (HT.sIx xs.length xs.length hi - HT.sIx xs.length 0 lo)
theorem cut_whole {α : Type} {xs : List α} {lo hi : Option Int} (h1 : HT.sIx xs.length 0 lo = 0) (h2 : HT.sIx xs.length xs.length hi = xs.length) : cut xs lo hi = xs := by
  unfold cut
  rw [h1, h2]
  simp
theorem getItem_tuple_whole {prog : Program} {w : World} {A : Around} {E : Value → Shared → Prop} {s : Shared} {t sl : Addr} {items : Array Value} {vl vu : Value} {lo hi : Option Int} {Q : Value → Shared → Prop} (ht : IsTup s.heap t items) (hs : s.heap.IsSliceOf sl vl vu .none) (pl : IsPart vl lo) (pu : IsPart vu hi)
    (h1 : HT.sIx items.size 0 lo = 0) (h2 : HT.sIx items.size items.size hi = items.size) (h : Q (.ref t) s) : wpAny (model prog w) A (getItem (.ref t) (.ref sl)) Q E s := by
  obtain ⟨os, hos, hcs, hds⟩ := id hs
  have hTs : s.TypeIs (.ref sl) "slice" := ⟨os, hos, hcs⟩
  unfold getItem
  try with_reducible refine wpAny_holding ?_
  first | refine wpAny_bind (wpAny_pure ?_) | skip
  refine wpAny_bind (wpAny_sequenceKey ht.typeIs (by decide) ?_)
  refine wpAny_bind (wpAny_callSpecial?_slot (name := Str.ofString "__getitem__") ht.typeIs PyProof.Rows.slot_tuple_getitem
    (wpAny_call_entry PyProof.Rows.slot_tuple_getitem ht.typeIs PyProof.Rows.entry_tuple_getitem ?_ (PyProof.Rows.args_tuple_getitem _ _)))
  show wpAny _ _ (Builtin.Tuple.tupleItemsOf (.ref t) >>= _) _ _ s
  refine wpAny_bind (tupleItemsOf_ ht ?_)
  refine wpAny_bind (wpAny_typeOf hTs ?_)
  rw [if_pos (by decide)]
  refine wpAny_bind (HT.sliceApplied_gen hs pl pu ?_)
  have hno : ((((HT.sIx items.size 0 lo : Nat) : Int) == 0 && (1 : Int) == 1 && (HT.sIx items.size items.size hi - HT.sIx items.size 0 lo) == items.size) = true) := by
    rw [h1, h2]; simp
  show wpAny _ _ (if (((HT.sIx items.size 0 lo : Nat) : Int) == 0 && (1 : Int) == 1 && (HT.sIx items.size items.size hi - HT.sIx items.size 0 lo) == items.size) = true then _ else _) _ _ s
  rw [if_pos hno]
  refine wpAny_bind (wpAny_bind (wpAny_typeOf ht.typeIs (wpAny_pure ?_)))
  rw [if_pos (by decide)]
  refine wpAny_bind (wpAny_rule ?_)
  first
    | exact wpAny_pure ⟨_, rfl, wpAny_pure h⟩
    | exact wpAny_bind (wpAny_pure ⟨_, rfl, wpAny_pure h⟩)
def rSlT0 (K : PySem.W.Frag) : V → Option Int → Option Int → Hp → VK → Prop := fun x lo hi H Q => ∃ a xs, x = .ref a ∧ SqT K H a xs ∧ HT.sIx xs.length 0 lo = 0 ∧ HT.sIx xs.length xs.length hi = xs.length ∧ Q (.ref a) H
theorem sl_tup0 {X : Cx} : SlR X (rSlT0 X.K) := by
  intro pins s σ H x v vl vu lo hi sl Q I rx hs pl pu h
  obtain ⟨a, xs, rfl, hx, h1, h2, q⟩ := h
  cases rx
  obtain ⟨its, r, ht, hz⟩ := I.tuple hx
  have hlen : its.toArray.size = xs.length := by rw [List.size_toArray]; exact r.length.symm
  refine ⟨"tuple", _, PyProof.Rows.slot_tuple_getitem.lookup, ht.typeIs, ?_⟩
  exact getItem_tuple_whole ht hs pl pu (by rw [hlen]; exact h1) (by rw [hlen]; exact h2) ⟨.ref a, H, I, rfl, q⟩
def dCut : SlD := fun d lo hi L Q => match d with
  | .tup xs => Q (.tup (cut xs lo hi)) L
  | .str z => z.length ≤ 16777216 ∧ Q (.str (cutS z lo hi)) L
  | .lro xs => ∀ p, L p = none → Q (.ref p) (upd L p (.lst (cut xs lo hi)))
  | .ref a => ∃ xs, L a = some (.lst xs) ∧ ∀ p, L p = none → Q (.ref p) (upd L p (.lst (cut xs lo hi)))
  | _ => False
abbrev rSlAll (K : PySem.W.Frag) : V → Option Int → Option Int → Hp → VK → Prop := fun x lo hi H Q => (rSlL K x lo hi H Q ∨ rSlS x lo hi H Q) ∨ rSlT0 K x lo hi H Q ∨ rSlT K x lo hi H Q
theorem sl_all {X : Cx} : SlR X (rSlAll X.K) := (sl_list.or sl_str).or (sl_tup0.or sl_tup)
section
variable {K : PySem.W.Frag} {H : Hp}
theorem RepL.cut {ds : List D} {vs : List V} (h : RepL K H ds vs) (lo hi : Option Int) : RepL K H (D2.cut ds lo hi) (cutV vs lo hi) := by
  unfold D2.cut cutV
  rw [h.length]
  exact RepL.take _ (RepL.drop _ h)
theorem strOk_cut {z : Str} (h : PyData.strOk z = true) (lo hi : Option Int) : PyData.strOk (cutS z lo hi) = true := by
  unfold PyData.strOk at *
  rw [Array.all_eq_true'] at *
  intro x hx
  refine h x ?_
  unfold cutS at hx
  have hx : x ∈ ((z.cps.toList.drop (HT.sIx z.length 0 lo)).take (HT.sIx z.length z.length hi - HT.sIx z.length 0 lo)) := by simpa using hx
  have := List.mem_of_mem_drop (List.mem_of_mem_take hx)
  simpa using this
theorem slok_all : SlOk K (rSlAll K) dCut := fun H L d x lo hi Qd Q rx hr q k => by
  cases d with
  | tup xs =>
    obtain ⟨a, vs, e, s, rl⟩ := rx
    rcases Classical.em (HT.sIx vs.length 0 lo = 0 ∧ HT.sIx vs.length vs.length hi = vs.length) with hw | hw
    · refine .inr (.inl ⟨a, vs, e, s, hw.1, hw.2, k _ L _ H q ⟨a, vs, rfl, s, ?_⟩ hr .refl⟩)
      rw [← rl.length] at hw
      rw [cut_whole hw.1 hw.2]
      exact rl
    · exact .inr (.inr ⟨a, vs, e, s, hw, fun p hp => k _ L _ _ q ⟨p, _, rfl, .inl (.inl upd_same), RepL.tk (HR.tk_new hp) _ _ (rl.cut lo hi)⟩ (hr.laid hp).1 (hr.laid hp).2⟩)
  | str z => exact .inl (.inr ⟨z, rx.1, line_of q.1, k _ L _ H q.2 ⟨rfl, strOk_cut rx.2 lo hi⟩ hr .refl⟩)
  | lro xs =>
    obtain ⟨a, vs, e, s, rl⟩ := rx
    exact .inl (.inl ⟨a, vs, e, s.sq, fun p hp => k _ _ _ _ (q p (hr.free hp)) rfl (hr.new hp (rl.cut lo hi)).1 (hr.new hp (rl.cut lo hi)).2⟩)
  | ref a =>
    obtain ⟨xs, h1, q⟩ := q
    obtain ⟨vs, g1, rl⟩ := hr a _ h1
    exact .inl (.inl ⟨a, vs, rx, SqL.of g1, fun p hp => k _ _ _ _ (q p (hr.free hp)) rfl (hr.new hp (rl.cut lo hi)).1 (hr.new hp (rl.cut lo hi)).2⟩)
  | _ => exact False.elim q
end
/-! ### comprehensions -/
def dwipe (s : DSt) : List Nat → DSt
  | [] => s
  | v :: vs => (dwipe s vs).set v none
theorem SR.wipe {K : PySem.W.Frag} {H : Hp} {s : DSt} {σ : L2.St} (h : SR K H s σ) : ∀ vs : List Nat, SR K H (dwipe s vs) (L2.wipe σ vs)
  | [] => h
  | v :: vs => SR.none (SR.wipe h vs) v _
/-- a target that writes the block's own names alone -/
def PostW (K : PySem.W.Frag) (vs : List Nat) (σ : L2.St) (H : Hp) (L : DH) (P : DSt → DH → Prop) (Q : L2.St → Hp → Prop) : Prop := ∀ s' L' σ' H', P s' L' → SR K H' s' σ' → HR K H' L' → Kp H L H' L' → L2.wipe σ' vs = L2.wipe σ vs → Q σ' H'
def liftGo (K : PySem.W.Frag) (vs : List Nat) (g : DG) (G : TG) : Prop := ∀ (d : D) (v : V) (s : DSt) (σ : L2.St) (H : Hp) (L : DH) (P : DSt → DH → Prop) (Q : L2.St → Hp → Prop), Rep K H d v → SR K H s σ → HR K H L → g d s L P (fun _ _ _ => False) →
  PostW K vs σ H L P Q → G v σ H Q
theorem wget_in {σ : L2.St} {i : Nat} : ∀ {vs : List Nat}, i ∈ vs → (L2.wipe σ vs)[i]? = if i < σ.length then some none else none
  | [], h => by cases h
  | j :: vs, h => by
    show ((L2.wipe σ vs).set j none)[i]? = _
    rw [List.getElem?_set]
    by_cases e : j = i
    · subst e
      rw [if_pos rfl, L2.wipe_length]
    · rw [if_neg e]
      rcases List.mem_cons.mp h with z | z
      · exact absurd z.symm e
      · exact wget_in z
theorem ww (σ : L2.St) (vs : List Nat) : L2.wipe (L2.wipe σ vs) vs = L2.wipe σ vs := by
  apply List.ext_getElem?
  intro i
  by_cases h : i ∈ vs
  · rw [wget_in h, wget_in h, L2.wipe_length]
  · rw [L2.wipe_out h, L2.wipe_out h]
theorem set_none_set {σ : L2.St} {i j : Nat} {v : Option V} (h : i = j) : (σ.set i v).set j none = σ.set j none := by subst h; simp
theorem wipe_set {σ : L2.St} {i : Nat} {v : Option V} : ∀ {vs : List Nat}, i ∈ vs → L2.wipe (σ.set i v) vs = L2.wipe σ vs
  | [], h => by cases h
  | j :: vs, h => by
    unfold L2.wipe
    by_cases hm : i ∈ vs
    · rw [wipe_set hm]
    · have e : i = j := by
        rcases List.mem_cons.mp h with h | h
        · exact h
        · exact absurd h hm
      subst e
      have : L2.wipe (σ.set i v) vs = (L2.wipe σ vs).set i v := by
        clear h
        induction vs with
        | nil => rfl
        | cons k vs ih =>
          have hk : i ≠ k := fun e => hm (by rw [e]; exact List.mem_cons_self)
          unfold L2.wipe
          rw [ih (fun z => hm (List.mem_cons_of_mem _ z)), List.set_comm _ _ hk]
      rw [this]
      simp
structure QGo (X : Cx) (t : Expr) (vs : List Nat) (g : DG) (G : TG) : Prop where
  pg : PG X t G
  lf : liftGo X.K vs g G
def liftGos (K : PySem.W.Frag) (vs : List Nat) (g : List D → DSt → DH → (DSt → DH → Prop) → Prop) (G : TGs) : Prop := ∀ (ds : List D) (us : List V) (s : DSt) (σ : L2.St) (H : Hp) (L : DH) (P : DSt → DH → Prop) (Q : L2.St → Hp → Prop), RepL K H ds us → SR K H s σ → HR K H L → g ds s L P →
  PostW K vs σ H L P Q → G us σ H Q
theorem lgo_name {K : PySem.W.Frag} {vs : List Nat} (i : Nat) (h : i ∈ vs := by decide) : liftGo K vs (gdName i) (gName i) := fun d v s σ H L P Q r hs hr q p => p _ L _ H q (hs.set r i) hr .refl (wipe_set h)
theorem lgo_nil {K : PySem.W.Frag} {vs : List Nat} : liftGos K vs gdNil gNil := fun ds us s σ H L P Q r hs hr q p => by
  obtain ⟨rfl, q⟩ := q
  exact ⟨r, p s L σ H q hs hr .refl rfl⟩
theorem lgo_cons {K : PySem.W.Frag} {vs : List Nat} {g : DG} {G : TG} {r : List D → DSt → DH → (DSt → DH → Prop) → Prop} {R : TGs} (h1 : liftGo K vs g G) (h2 : liftGos K vs r R) : liftGos K vs (gdCons g r) (gCons G R) := fun ds us s σ H L P Q r hs hr h p => by
  cases ds with
  | nil => exact h.elim
  | cons d ds =>
    obtain ⟨v, vr, e, rv, rr⟩ := r
    refine ⟨v, vr, e, h1 d v s σ H L _ _ rv hs hr h fun s1 L1 σ1 H1 q hs1 hr1 k1 w1 => ?_⟩
    exact h2 ds vr s1 σ1 H1 L1 P Q (RepL.tk (k1.tk hr) _ _ rr) hs1 hr1 q fun s2 L2 σ2 H2 a b c d w2 => p s2 L2 σ2 H2 a b c (k1.trans d) (w2.trans w1)
theorem lgo_tup {K : PySem.W.Frag} {vs : List Nat} {n : Nat} {r : List D → DSt → DH → (DSt → DH → Prop) → Prop} {R : TGs} (h2 : liftGos K vs r R) : liftGo K vs (gdTup n r) (gTup K n R) := fun d v s σ H L P Q r hs hr h p => by
  cases d with
  | tup ds =>
    obtain ⟨a, us, e, sq, rl⟩ := r
    exact ⟨a, us, e, sq, by rw [← rl.length]; exact h.1, h2 ds us s σ H L P Q rl hs hr h.2 p⟩
  | _ => exact h.elim
/-! the comprehension itself -/
def lcD (g : DG) (t : DT) (e : DE) (ok : DH → Prop) (s : DSt) (Q : List D → DH → Prop) : List D → List D → DH → Prop
  | [], acc, L => ok L ∧ Q acc L
  | d :: ds, acc, L => ok L ∧ g d s L (fun s1 L1 => t s1 L1 (fun b L2 => if b = true then e s1 L2 (fun y L3 => acc.length < 16777216 ∧ lcD g t e ok s Q ds (acc ++ [y]) L3) (fun _ _ _ => False) else lcD g t e ok s Q ds acc L2) (fun _ _ _ => False)) (fun _ _ _ => False)
def dLc (di : DI) (g : DG) (t : DT) (e : DE) (vs : List Nat) : DE := fun s L Q E => di s L (fun ds ok L1 => lcD g t e ok (dwipe s vs) (fun acc L2 => ∀ p, L2 p = none → Q (.ref p) (upd L2 p (.lst acc))) ds [] L1) E
abbrev W0 : WX := fun _ _ _ _ => False
theorem lp0 {M : KM} {σ : L2.St} {H : Hp} {L : DH} : LP M W0 σ H L (fun _ _ _ => False) := ⟨fun _ _ _ _ _ _ h => h.elim⟩
theorem lift_lc {M : KM} {W : WX} {di : DI} {g : DG} {G : TG} {t : DT} {e : DE} {vs : List Nat} (lG : liftGo M.K vs g G) {σ : L2.St} {H : Hp} {Q : VK} (q : liftE M W (dLc di g t e vs) σ H Q) :
    tLc (liftI M W di) G (liftT M W0 t) (liftE M W0 e) vs σ H Q := by
  obtain ⟨s, L, Qd, Ed, hs, hr, q, hq, lp⟩ := q
  refine ⟨s, L, _, Ed, hs, hr, q, fun ds ok L1 H1 J q hr1 k1 ito D hD => ?_, lp⟩
  have hLD : L1 D = none := hr1.free hD
  have tkD : TK H1 (L2.upd H1 D (.lst [])) := HR.tk_new hD
  have hs1 : SR M.K H1 s σ := hs.tk (k1.tk hr)
  have hrD : HR M.K (L2.upd H1 D (.lst [])) L1 := (hr1.laid hD).1
  refine ⟨fun i m H' => ∃ acc vacc L', i ≤ ds.length ∧ m = ds.length - i ∧ HR M.K H' L' ∧ TK H1 H' ∧ Kp H L H' L' ∧ L' D = none ∧ H' D = some (.lst vacc) ∧ RepL M.K H' acc vacc ∧
    lcD g t e ok (dwipe s vs) (fun acc L2 => ∀ p, L2 p = none → Qd (.ref p) (upd L2 p (.lst acc))) (ds.drop i) acc L', ⟨_, [], [], L1, Nat.zero_le _, rfl, hrD, tkD, k1.trans (hr1.laid hD).2, hLD, upd_same, rfl, q⟩, ?_⟩
  rintro i m H' ⟨acc, vacc, L', hi, rfl, hr', tk', k', hL', hH', ra, q'⟩
  by_cases hlt : i < ds.length
  · have ed : ds.drop i = ds[i] :: ds.drop (i + 1) := List.drop_eq_getElem_cons hlt
    rw [ed] at q'
    obtain ⟨hok, q'⟩ := q'
    obtain ⟨go, yl⟩ := (ito i H' L' tk' hr' hok).2 ds[i] (List.getElem?_eq_getElem hlt)
    refine .inr ⟨go, fun H2 => ∃ acc vacc L2, HR M.K H2 L2 ∧ TK H1 H2 ∧ Kp H L H2 L2 ∧ L2 D = none ∧ H2 D = some (.lst vacc) ∧ RepL M.K H2 acc vacc ∧
      lcD g t e ok (dwipe s vs) (fun acc L2 => ∀ p, L2 p = none → Qd (.ref p) (upd L2 p (.lst acc))) (ds.drop (i + 1)) acc L2, fun H2 ⟨a, b, c, q⟩ => ⟨ds.length - (i + 1), by omega, a, b, c, hlt, rfl, q⟩, fun x H'' y => ?_⟩
    obtain ⟨ry, hry, ky, ty⟩ := yl x H'' y
    have ssw : SR M.K H'' (dwipe s vs) (L2.wipe σ vs) := (hs1.tk (tk'.trans ty)).wipe vs
    refine lG ds[i] x (dwipe s vs) (L2.wipe σ vs) H'' L' _ _ ry ssw hry q' fun s2 LB σ2 H2 q2 hs2 hr2 k2 w2 => ⟨by rw [w2]; exact ww σ vs, ?_⟩
    refine liftT_bind hs2 hr2 lp0 q2 fun b L3 H3 q3 hr3 k3 hs3 t3 lp3 => ?_
    have keepD : ∀ {Ha Hb : Hp} {La Lb : DH}, Kp Ha La Hb Lb → Ha D = some (.lst vacc) → La D = none → Hb D = some (.lst vacc) ∧ Lb D = none := fun k a b => k D _ a b
    obtain ⟨d1, l1⟩ := keepD ky hH' hL'
    obtain ⟨d2, l2⟩ := keepD k2 d1 hL'
    obtain ⟨d3, l3⟩ := keepD k3 d2 l2
    have tk3 : TK H' H3 := (ty.trans (k2.tk hry)).trans t3
    have kp3 : Kp H L H3 L3 := ((k'.trans ky).trans k2).trans k3
    cases b with
    | false =>
      refine (if_neg Bool.false_ne_true).mpr ⟨acc, vacc, L3, hr3, tk'.trans tk3, kp3, l3, d3, RepL.tk tk3 _ _ ra, (if_neg Bool.false_ne_true).mp q3⟩
    | true =>
      refine (if_pos rfl).mpr ?_
      refine liftE_bind hs3 hr3 lp3 ((if_pos rfl).mp q3) fun y L4 v H4 ⟨hlen, q4⟩ r4 hr4 k4 hs4 t4 lp4 => ?_
      obtain ⟨d4, l4⟩ := keepD k4 d3 l3
      have ra4 : RepL M.K H4 acc vacc := RepL.tk (tk3.trans t4) _ _ ra
      refine ⟨vacc, d4, by rw [← ra4.length]; exact line_lt hlen, ?_⟩
      have tk5 : TK H4 (L2.upd H4 D (.lst (vacc ++ [v]))) := fun a o h im => by
        rw [upd_ne]; exact h
        rintro rfl
        rw [d4] at h; cases h; exact im.elim
      have hr5 : HR M.K (L2.upd H4 D (.lst (vacc ++ [v]))) L4 := fun a o h => by
        have ne : a ≠ D := by rintro rfl; rw [l4] at h; cases h
        exact (hr4 a o h).tk tk5 fun u hu => by rw [upd_ne ne]; exact hu
      refine ⟨acc ++ [y], vacc ++ [v], L4, hr5, ((tk'.trans tk3).trans t4).trans tk5, fun a o h n => ?_, l4, upd_same, RepL.tk tk5 _ _ (ra4.append (.one r4)), q4⟩
      obtain ⟨e1, e2⟩ := (kp3.trans k4) a o h n
      have ne : a ≠ D := by
        rintro rfl
        have := (k1 a o h n).1
        rw [hD] at this; cases this
      exact ⟨by rw [upd_ne ne]; exact e1, e2⟩
  · have ee : i = ds.length := by omega
    subst ee
    rw [List.drop_length] at q'
    obtain ⟨hok, q'⟩ := q'
    refine .inl ⟨(ito _ H' L' tk' hr' hok).1 rfl, hq (.ref D) _ (.ref D) H' (q' D hL') rfl (fun a o h => ?_) fun a o h n => ?_⟩
    · by_cases ea : a = D
      · subst ea
        rw [updD_same] at h; cases h
        exact ⟨vacc, hH', ra⟩
      · rw [updD_ne ea] at h
        exact hr' a o h
    · obtain ⟨e1, e2⟩ := k' a o h n
      have ne : a ≠ D := by
        rintro rfl
        have := (k1 a o h n).1
        rw [hD] at this; cases this
      exact ⟨e1, by rw [updD_ne ne]; exact e2⟩
end D2

set_option Elab.async false
set_option linter.all false
set_option maxRecDepth 100000
set_option maxHeartbeats 1000000
namespace D2
open PySem PySem.Spec PyProof.Rows L2
structure QTs (X : Cx) (W : WX) (ifs : List Expr) (t : DT) : Prop where
  pt : PTs X ifs (liftT X.km W t)
def dYes : DT := fun _ L Q _ => Q true L
section
variable {X : Cx} {W : WX} {pos : Pos}
theorem PTs_mono {X : Cx} {e : List Expr} {t t' : TT} (h : PTs X e t) (i : ∀ σ H Q, t' σ H Q → t σ H Q) : PTs X e t' := ⟨fun pins s σ H Q I q => h.run pins s σ H Q I (i σ H Q q)⟩
theorem qts_nil : QTs X W [] dYes := ⟨PTs_mono pts_nil fun σ H Q ⟨s, L, Qd, Ed, hs, hr, q, hq, lp⟩ => hq true L H q hr .refl⟩
theorem qts_one {c : Expr} {t : DT} (h : QT X W c t) : QTs X W [c] t := ⟨pts_one h.pt⟩
theorem qe_lc {elt tg iter : Expr} {ifs : List Expr} {scope : Scope} {own : List (Str × Nat)} {di : DI} {g : DG} {G : TG} {t : DT} {e : DE} (hc : X.calm = true) (hN : X.N.Nodup) (hi : QI X W tg iter di) (ok : BlkOk X.N X.env.scope scope own)
    (hg : ∀ (s : Shared) (H : Hp) (C : Addr) (cl : List (Str × Addr)) (fp : List Addr), PG (X.blk s H scope (compEnvC scope cl C X.env) fp) tg G) (lG : liftGo X.K (own.map (·.2)) g G)
    (ht : ∀ (s : Shared) (H : Hp) (C : Addr) (cl : List (Str × Addr)) (fp : List Addr), QTs (X.blk s H scope (compEnvC scope cl C X.env) fp) W0 ifs t)
    (he : ∀ (s : Shared) (H : Hp) (C : Addr) (cl : List (Str × Addr)) (fp : List Addr), QE (X.blk s H scope (compEnvC scope cl C X.env) fp) W0 elt e) (hs : ∀ x, foldedSetIterable iter X.env x = pure x := by intro _; rfl) :
    QE X W (.ListComp elt [⟨tg, iter, ifs, 0⟩] scope pos) (dLc di g t e (own.map (·.2))) :=
  ⟨PE_mono (pe_lc hc hN hi.pi ok hg (fun s H C cl fp => (ht s H C cl fp).pt) (fun s H C cl fp => (he s H C cl fp).pe) hs) fun _ _ _ q => lift_lc lG q⟩
theorem qs_setLc {i : Nat} {y : Str} {py spos : Pos} {elt tg iter : Expr} {ifs : List Expr} {scope : Scope} {own : List (Str × Nat)} {di : DI} {g : DG} {G : TG} {t : DT} {e : DE} (hc : X.calm = true) (hN : X.N.Nodup) (hi : QI X W tg iter di) (ok : BlkOk X.N X.env.scope scope own)
    (hg : ∀ (s : Shared) (H : Hp) (C : Addr) (cl : List (Str × Addr)) (fp : List Addr), PG (X.blk s H scope (compEnvC scope cl C X.env) fp) tg G) (lG : liftGo X.K (own.map (·.2)) g G)
    (ht : ∀ (s : Shared) (H : Hp) (C : Addr) (cl : List (Str × Addr)) (fp : List Addr), QTs (X.blk s H scope (compEnvC scope cl C X.env) fp) W0 ifs t)
    (he : ∀ (s : Shared) (H : Hp) (C : Addr) (cl : List (Str × Addr)) (fp : List Addr), QE (X.blk s H scope (compEnvC scope cl C X.env) fp) W0 elt e)
    (hsw : swapsWith (.ListComp elt [⟨tg, iter, ifs, 0⟩] scope pos) (some (.Name y py)) spos.line X.env = pure true)
    (hy : X.N[i]? = some y := by rfl) (hyl : X.env.scope.names.lookup y = some .local := by rfl) (hs : ∀ x, foldedSetIterable iter X.env x = pure x := by intro _; rfl) :
    QS X W (.Assign [.Name y py] (.ListComp elt [⟨tg, iter, ifs, 0⟩] scope pos) spos) (sAsg (dLc di g t e (own.map (·.2))) (gdName i)) :=
  ⟨PS_mono (ps_setLc hc hN hy hyl hsw hi.pi ok hg (fun s H C cl fp => (ht s H C cl fp).pt) (fun s H C cl fp => (he s H C cl fp).pe) hs) fun Dn σ H ⟨s, L, dn, hs, hr, h, p⟩ =>
    lift_lc lG (Q := fun x H1 => gName i x σ H1 Dn.nx) (liftE_bind hs hr (p.lp hs hr) h fun d L1 x H1 q1 r1 hr1 k1 hs1 t1 lp1 => p.nx _ L1 _ H1 q1 (hs1.set r1 i) hr1 k1)⟩
/-! raise -/
structure ExcOk (K : PySem.W.Frag) (mg : Str → Option Value) (nm : Str) : Prop where
  ex : ∃ C, mg nm = some (.ref C) ∧ PySem.W.excIn K C [.type "ValueError", .type "Exception", .type "BaseException", .type "object"] "ValueError.__new__" = true ∧ PySem.W.keepIn K (.ref C) = true ∧
    PySem.W.subIn K (.ref C) (.type "BaseException") = some true ∧ PySem.W.typeIn K (.ref C) = some (.type "type")
def sRaise (nm : Str) : DS := fun dn s L => dn.ex nm [] s L
theorem qs_raise {nm m : Str} {j : Nat} {p p2 pos2 : Pos} (hc : X.calm = true) (tk : Takes X W) (ok : ExcOk X.K X.mg nm) (hg : Gl X nm := by rfl) (hdb : (nm == ("__debug__" : Str)) = false := by decide) :
    QS X W (.Raise (some (.Call (.Name nm p) [.Constant (.str m) j p2] [] pos2)) none pos) (sRaise nm) := by
  obtain ⟨C, h1, h2, h3, h4, h5⟩ := ok.ex
  exact ⟨PS_mono (ps_raise hc tk (pmk_own PySem.F.excBase_ValueError h2 h1 h3 (raises_own h4 h5) hg hdb)) fun Dn σ H ⟨s, L, dn, hs, hr, h, p⟩ => p.ex nm [] _ _ s L σ H h ⟨h1, .inl rfl⟩ hs hr .refl⟩
/-! try -/
def exBy (sub : Str → Str → Option Bool) (dn : DEnds) : List (Str × DS) → Str → List (Str × D) → DSt → DH → Prop
  | [] => dn.ex
  | (c, h) :: r => fun n fs s L => ∃ b, sub n c = some b ∧ (b = true → h { dn with ex := fun _ _ _ _ => False } s L) ∧ (b = false → exBy sub dn r n fs s L)
def sTry (sub : Str → Str → Option Bool) (body : DS) (hs : List (Str × DS)) : DS := fun dn s L => body { dn with ex := exBy sub dn hs } s L
/-- what the table of the errors' classes says is so -/
def SubOk (K : PySem.W.Frag) (mg : Str → Option Value) (sub : Str → Str → Option Bool) : Prop := ∀ n c b, sub n c = some b → ∃ vn vc, mg n = some vn ∧ mg c = some vc ∧ PySem.W.exmOne K vn vc = some b
inductive QHds (X : Cx) : List ExceptHandler → List (Str × DS) → List (Value × (Addr → Value → Option Addr → TS)) → Prop
  | nil : QHds X [] [] []
  | cons {x : Str} {c : Value} {h : DS} {b₀ : Stmt} {suite : List Stmt} {np pos' : Pos} {hds : List ExceptHandler} {l : List (Str × DS)} {ll : List (Value × (Addr → Value → Option Addr → TS))} (hm : X.mg x = some c)
      (hsu : ∀ (a : Addr) (oe : Obj) (pn : List (Addr × Obj)), QSs (X.suite a ((a, oe) :: pn)) W0 (b₀ :: suite) h) (r : QHds X hds l ll) (hg : Gl X x := by rfl) (hdb : (x == ("__debug__" : Str)) = false := by decide) :
      QHds X (.ExceptHandler (some (.Name x np)) none (b₀ :: suite) pos' :: hds) ((x, h) :: l) ((c, fun _ _ _ => liftS X.km W0 h) :: ll)
theorem QHds.ok {hds : List ExceptHandler} {l : List (Str × DS)} {ll : List (Value × (Addr → Value → Option Addr → TS))} (h : QHds X hds l ll) : HdsOk X hds ll := by
  induction h with
  | nil => exact .nil
  | cons hm hsu r hg hdb ih => exact .cons ⟨hg, hdb, .inl hm⟩ (fun a oe cls d pn _ _ => (hsu a oe pn).ps) ih
theorem exBy_ok {sub : Str → Str → Option Bool} (so : SubOk X.K X.mg sub) {hds : List ExceptHandler} {l : List (Str × DS)} {ll : List (Value × (Addr → Value → Option Addr → TS))} (h : QHds X hds l ll)
    {H : Hp} {L : DH} {dn : DEnds} {Dn : Ends} (p : Post X.km W H L dn Dn) : ∀ {n : Str} {fs : List (Str × D)} {cls : Value} {dx : Option Addr} {s : DSt} {L' : DH} {σ : L2.St} {H' : Hp}, exBy sub dn l n fs s L' → XRep X.km H' n fs cls dx → SR X.K H' s σ → HR X.K H' L' → Kp H L H' L' →
      wMany X.K W Dn ll cls dx σ H' := by
  induction h with
  | nil => intro n fs cls dx s L' σ H' q x hs hr k; exact p.ex n fs cls dx s L' σ H' q x hs hr k
  | cons hm hsu r hg hdb ih =>
    intro n fs cls dx s L' σ H' q x hs hr k
    obtain ⟨b, e, q1, q2⟩ := q
    obtain ⟨vn, vc, g1, g2, g3⟩ := so _ _ _ e
    have e1 : vn = cls := Option.some.inj (g1.symm.trans x.1)
    have e2 := Option.some.inj (g2.symm.trans hm)
    subst e1 e2
    refine ⟨b, g3, fun hb a ha => ⟨s, L', _, hs, hr, q1 hb, ?_⟩, fun hb => ih (q2 hb) x hs hr k⟩
    have p' := p.after k
    exact ⟨p'.nx, p'.rt, p'.bk, p'.ct, fun _ _ _ _ _ _ _ _ z => z.elim⟩
theorem qs_try {body : List Stmt} {h₀ : ExceptHandler} {hds : List ExceptHandler} {db : DS} {l : List (Str × DS)} {ll : List (Value × (Addr → Value → Option Addr → TS))} {sub : Str → Str → Option Bool} (hs : X.stack = X.env :: X.outer) (hf : X.env.frame = some X.env.locals) (tk : Takes X W) (so : SubOk X.K X.mg sub)
    (hb : ∀ (W : WX) (pn : List (Addr × Obj)) (xe : Value → Shared → Prop), Takes (X.tr pn xe) W → PassesOwn (model X.prog X.w) X.A X.env xe → QSs (X.tr pn xe) W body db) (hh : QHds X (h₀ :: hds) l ll) : QS X W (.Try body (h₀ :: hds) [] [] pos) (sTry sub db l) :=
  ⟨PS_mono (ps_try_many (tb := fun W => liftS X.km W db) hs hf tk (fun W pn xe t1 t2 => (hb W pn xe t1 t2).ps) hh.ok) fun Dn σ H ⟨s, L, dn, hs, hr, h, p⟩ =>
    ⟨s, L, _, hs, hr, h, p.nx, p.rt, p.bk, p.ct, fun C fs cls dx s' L' σ' H' a b c d e => exBy_ok so hh p a b c d e⟩⟩
end
/-! ### the law -/
theorem law_sp {K : PySem.W.Frag} {mg : Str → Option Value} {sp : SpD} {H : Hp} {a : Addr} {ns : List Int} (hO : Only H) (hS : SqL K H a (ns.map V.int)) (h : ∀ L : DH, (∀ b, L b = none) → sp [.lro (ns.map .int)] L (fun d _ => d = .bl true) (fun _ _ _ => False)) :
    liftSp ⟨K, mg⟩ sp [.ref a] H (fun v _ => v = .bl true) (fun _ _ _ => False) := by
  refine ⟨[.lro (ns.map .int)], (fun _ => none), (fun d _ => d = .bl true), (fun _ _ _ => False), RepL.one ⟨a, _, rfl, ?_, repL_of_ints ns⟩, (fun _ _ h => nomatch h), h _ (fun _ => rfl), (fun d L' v H' e r _ _ => by subst e; exact r), (fun _ _ _ _ _ _ h => h.elim)⟩
  rcases hS with (h | ⟨o, h⟩) | h
  · rcases hO a with z | ⟨o, xs, z⟩
    · rw [h] at z; cases z
    · rw [h] at z; cases z
  · exact .inl ⟨o, h⟩
  · exact .inr h
end D2

set_option Elab.async false
set_option linter.all false
set_option maxRecDepth 100000
set_option maxHeartbeats 1000000
namespace D2
open PySem PySem.Spec PyProof.Rows L2
/-! ### short words for the printed derivations -/
structure Ok (P : Program) (w : World) (K : PySem.W.Frag) (mg : Str → Option Value) (base : Heap) (nm : Str) (k : Nat) (ps : List Str) (sp : SpD) : Prop where
  ex : ∃ f fd, FnOk P w K mg base (L2.CX P w) k f fd ps (liftSp ⟨K, mg⟩ sp) ∧ mg nm = some (.ref f) ∧ PySem.W.keepIn K (.ref f) = true ∧ Binds K fd ps [] ∧ ∃ oc od sl, K.lookup f = some ⟨oc, od, .func fd, sl⟩
theorem _root_.L2.Fun.lk {K : PySem.W.Frag} {x qual : Str} {st : Stmt} {f : Addr} {fd : FuncData} (F : Fun K x qual st f fd) : ∃ oc od sl, K.lookup f = some ⟨oc, od, .func fd, sl⟩ := by
  obtain ⟨oc, od, kV, doc, pm, an, cdv, ct, osl, _, lk, _⟩ := F.ex
  exact ⟨oc, od, osl, lk⟩
structure DefAt (K : PySem.W.Frag) (mg : Str → Option Value) (nm : Str) (st : Stmt) : Prop where
  ex : ∃ f fd, mg nm = some (.ref f) ∧ Fun K nm nm st f fd
def ClsAt (mg : Str → Option Value) (nm : Str) : Prop := ∃ v, mg nm = some v
structure ConstOk (K : PySem.W.Frag) (mg : Str → Option Value) (nm : Str) (d : D) : Prop where
  ex : ∃ v u, mg nm = some u ∧ RelV v u ∧ ∀ H, Rep K H d v
theorem Ok.mono {P : Program} {w : World} {K : PySem.W.Frag} {mg : Str → Option Value} {base : Heap} {nm : Str} {j k : Nat} {ps : List Str} {sp : SpD} (o : Ok P w K mg base nm j ps sp) (h : j ≤ k) : Ok P w K mg base nm k ps sp := by
  obtain ⟨f, fd, a, b⟩ := o.ex
  exact ⟨f, fd, a.mono h, b⟩
section
variable {X : Cx} {W : WX} {pos : Pos}
theorem q_callO {k : Nat} {ps : List Str} {sp : SpD} {x : Str} {p : Pos} {e : Expr} {es : List Expr} {t : DA} (o : Ok X.prog X.w X.K X.mg X.base x k ps sp) (hr : Room k X.A) (tk : Takes X W) (ha : QA X W (e :: es) t) (hg : Gl X x := by rfl)
    (hdb : (x == ("__debug__" : Str)) = false := by decide) (he : starEach (e :: es) X.env = (false, eval e X.env) :: starEach es X.env := by rfl) (hpl : (backTo pos (starEach es X.env)).any (·.1) = false := by rfl) :
    QE X W (.Call (.Name x p) (e :: es) [] pos) (dCall sp t) := by
  obtain ⟨f, fd, F, hm, hk, hb, _⟩ := o.ex
  exact q_call F hr hm hk hb tk ha hg hdb he hpl
theorem q_cst {x : Str} {d : D} (c : ConstOk X.K X.mg x d) (hg : Gl X x := by rfl) (hd : (x == ("__debug__" : Str)) = false := by decide) : QE X W (.Name x pos) (dC d) := by
  obtain ⟨v, u, h1, h2, h3⟩ := c.ex
  exact q_glob hg h1 h2 h3 hd
/-! is True -/
def dIsBl : RD2 := fun x y L Q => match x, y with
  | .bl a, .bl b => Q (.bl (decide (a = b))) L
  | _, _ => False
def dNotBl : RD2 := fun x y L Q => match x, y with
  | .bl a, .bl b => Q (.bl (!decide (a = b))) L
  | _, _ => False
theorem opd_isBl {K : PySem.W.Frag} : OpD K rIsB dIsBl := fun H L d e x y Qd Q rx ry hr q k => by
  cases d with
  | bl i =>
    cases e with
    | bl j => exact ⟨i, j, rx, ry, k _ L _ H q rfl hr .refl⟩
    | _ => exact False.elim q
  | _ => exact False.elim q
theorem opd_notBl {K : PySem.W.Frag} : OpD K rNotB dNotBl := fun H L d e x y Qd Q rx ry hr q k => by
  cases d with
  | bl i =>
    cases e with
    | bl j => exact ⟨i, j, rx, ry, k _ L _ H q rfl hr .refl⟩
    | _ => exact False.elim q
  | _ => exact False.elim q
/-! several names at once -/
def sPar2 (i j : Nat) (t : DA) : DS := fun dn s L => t s L (fun ds L1 => ∃ a b, ds = [a, b] ∧ dn.nx ((s.set i (some a)).set j (some b)) L1) (xOf dn s)
def sPar3 (i j l : Nat) (t : DA) : DS := fun dn s L => t s L (fun ds L1 => ∃ a b c, ds = [a, b, c] ∧ dn.nx (((s.set i (some a)).set j (some b)).set l (some c)) L1) (xOf dn s)
theorem qs_par2 (i j : Nat) {x y : Str} {a b : Expr} {ta : DA} {px py pt : Pos} {kt k2 pt2} (hN : X.N.Nodup) (ha : QA X W [a, b] ta) (hc : X.calm = true := by rfl) (hi : X.N[i]? = some x := by rfl) (hj : X.N[j]? = some y := by rfl) (hij : i ≠ j := by decide)
    (hx : X.env.scope.names.lookup x = some .local := by rfl) (hy : X.env.scope.names.lookup y = some .local := by rfl)
    (hw : swappedStores [.Tuple [.Name x px, .Name y py] kt pt] (.Tuple [a, b] k2 pt2) X.env = pure (some [x, y]) := by rfl)
    (hs : swapsWithSole [.Tuple [.Name x px, .Name y py] kt pt] (.Tuple [a, b] k2 pt2) pos.line X.env = pure false := by rfl) : QS X W (.Assign [.Tuple [.Name x px, .Name y py] kt pt] (.Tuple [a, b] k2 pt2) pos) (sPar2 i j ta) :=
  ⟨PS_mono (ps_par hc hN hi hj hij hx hy ha.pa hw hs) fun Dn σ H ⟨s, L, dn, hs, hr, h, p⟩ => liftA_bind hs hr (p.lp hs hr) h fun ds L1 vs H1 ⟨d1, d2, e, q1⟩ r1 hr1 k1 hs1 t1 lp1 => by
    subst e
    obtain ⟨v, u, e, r1, r2⟩ := r1.two_inv
    exact ⟨v, u, e, p.nx _ L1 _ H1 q1 ((hs1.set r1 i).set r2 j) hr1 k1⟩⟩
theorem qs_par3 (i j l : Nat) {x y z : Str} {a b c : Expr} {ta : DA} {px py pz pt : Pos} {kt k2 pt2} (hN : X.N.Nodup) (ha : QA X W [a, b, c] ta) (hc : X.calm = true := by rfl) (hi : X.N[i]? = some x := by rfl) (hj : X.N[j]? = some y := by rfl) (hl : X.N[l]? = some z := by rfl) (hij : i ≠ j := by decide) (hil : i ≠ l := by decide) (hjl : j ≠ l := by decide)
    (hx : X.env.scope.names.lookup x = some .local := by rfl) (hy : X.env.scope.names.lookup y = some .local := by rfl) (hz : X.env.scope.names.lookup z = some .local := by rfl)
    (hw : swappedStores [.Tuple [.Name x px, .Name y py, .Name z pz] kt pt] (.Tuple [a, b, c] k2 pt2) X.env = pure (some [x, y, z]) := by rfl)
    (hs : swapsWithSole [.Tuple [.Name x px, .Name y py, .Name z pz] kt pt] (.Tuple [a, b, c] k2 pt2) pos.line X.env = pure false := by rfl) : QS X W (.Assign [.Tuple [.Name x px, .Name y py, .Name z pz] kt pt] (.Tuple [a, b, c] k2 pt2) pos) (sPar3 i j l ta) :=
  ⟨PS_mono (ps_par3 hc hN hi hj hl hij hil hjl hx hy hz ha.pa hw hs) fun Dn σ H ⟨s, L, dn, hs, hr, h, p⟩ => liftA_bind hs hr (p.lp hs hr) h fun ds L1 vs H1 ⟨d1, d2, d3, e, q1⟩ r1 hr1 k1 hs1 t1 lp1 => by
    subst e
    obtain ⟨v, r, e, rv, u, r2, e2, ru, rr⟩ := r1
    obtain ⟨t, e3, rt⟩ := RepL.one_inv rr
    exact ⟨v, u, t, by rw [e, e2, e3], p.nx _ L1 _ H1 q1 (((hs1.set rv i).set ru j).set rt l) hr1 k1⟩⟩
end
/-! ### the end of a law -/
theorem exm_pair {K : PySem.W.Frag} {N S : Addr} {b : Bool} (h1 : PySem.W.subIn K (.ref S) (.type "BaseException") = some true) (h2 : PySem.W.isClsIn K S = true) (h3 : PySem.W.typeIn K (.ref S) = some (.type "type")) (h4 : PySem.W.subIn K (.ref N) (.ref S) = some b) :
    PySem.W.exmOne K (.ref N) (.ref S) = some b := by
  have e1 : (PySem.W.subIn K (.ref S) (.type "BaseException") == some true) = true := by rw [h1] <;> rfl
  have e2 : ((PySem.W.clsIn K S).isSome && PySem.W.typeIn K (.ref S) == some (.type "type")) = true := by
    have h2' : (PySem.W.clsIn K S).isSome = true := h2
    rw [h2', h3] <;> rfl
  show (if (PySem.W.subIn K (.ref S) (.type "BaseException") == some true) = true then (if ((PySem.W.clsIn K S).isSome && PySem.W.typeIn K (.ref S) == some (.type "type")) = true then PySem.W.subIn K (.ref N) (.ref S) else none) else none) = some b
  rw [if_pos e1, if_pos e2]
  exact h4
theorem cst_int {K : PySem.W.Frag} {mg : Str → Option Value} {h : Heap} {nm : Str} {i : Int} {t : Tok} (X : K.In h) (G : h.Ns mainGlobals mg) (a : PySem.W.nsIn K mainGlobals nm = some (some (.int i t))) : ConstOk K mg nm (.int i) := ⟨.int i, _, PySem.W.mg_of X G a, ⟨t, rfl⟩, fun _ => rfl⟩
theorem cst_str {K : PySem.W.Frag} {mg : Str → Option Value} {h : Heap} {nm : Str} {i : Str} {t : Tok} (X : K.In h) (G : h.Ns mainGlobals mg) (a : PySem.W.nsIn K mainGlobals nm = some (some (.str i t))) (ok : PyData.strOk i = true) : ConstOk K mg nm (.str i) := ⟨.str i, _, PySem.W.mg_of X G a, ⟨t, rfl⟩, fun _ => ⟨rfl, ok⟩⟩
theorem def_at {K : PySem.W.Frag} {mg : Str → Option Value} {h : Heap} {x : Str} {st : Stmt} {f : Addr} {oc : Value} {od an : Option Addr} {osl : Array (Option Value)} {kV doc pm cdv ct : Value} (X : K.In h) (G : h.Ns mainGlobals mg) (a : PySem.W.nsIn K mainGlobals x = some (some (.ref f)))
    (l : K.lookup f = some ⟨oc, od, .func (PySem.W.fnOf x x (defArgs st) (defBody st) (defScope st) .none kV doc pm an cdv ct), osl⟩)
    (c : PySem.W.codeIn K cdv x = true) (k : PySem.W.keepIn K (.ref f) = true) : DefAt K mg x st := ⟨f, _, PySem.W.mg_of X G a, fun_mk l c k⟩
theorem law_end {l : PySem.W.OpenLaw} {w : World} {K : PySem.W.Frag} {mg : Str → Option Value} {fa : Addr} {lv : Nat} {sp : SpD} {fd : FuncData} {oc : Value} {od : Option Addr} {sl : Array (Option Value)} (hfa : mg "law" = some (.ref fa)) (lk : K.lookup fa = some ⟨oc, od, .func fd, sl⟩)
    {base : Heap} (o : Ok l.prog w K mg base "law" lv ["script"] sp) : FnOk l.prog w K mg base (L2.CX l.prog w) lv fa fd ["script"] (liftSp ⟨K, mg⟩ sp) := by
  obtain ⟨f, fd', F, hm, _, _, oc', od', sl', lk'⟩ := o.ex
  have e := hfa.symm.trans hm
  cases e
  rw [lk] at lk'
  cases lk'
  exact F
theorem walkD {l : PySem.W.OpenLaw} {q : Program} {loose : List Str} {XP : (Str → Option Value) → Heap → Prop} {YP : World → Heap → Prop} {d : DefRec} {K : Params → PySem.W.Frag} {lv : Nat} {sp : SpD} (hn : l.most = some 63) (hdf : d.params.defaults = []) (hroom : Room lv callerA)
    (hY : ∀ (w : World) (h : Heap), YP w h → (K w.params).In h)
    (F : ∀ (w : World) (mg : Str → Option Value) (fa : Addr) (h : Heap), (K w.params).In h → h.Ns mainGlobals mg → mg d.name = some (.ref fa) →
      ∃ fd : FuncData, (∀ (s : Shared) (u : Value), BindsTo s fd ⟨[u], []⟩ [("script", u)]) ∧ ∀ base : Heap, (K w.params).In base → base.Ns mainGlobals mg → ∃ mg', FnOk l.prog w (K w.params) mg base (L2.CX l.prog w) lv fa fd ["script"] (liftSp ⟨K w.params, mg'⟩ sp))
    (hsp : ∀ (ns : List Int), ns.length ≤ 63 → ∀ L : DH, (∀ b, L b = none) → sp [.lro (ns.map .int)] L (fun d _ => d = .bl true) (fun _ _ _ => False)) :
    PySem.W.WalkO q loose XP YP l.row.toRowW d [] (fun f vs => PySem.call f vs) := by
  refine L2.walk_of (n := 63) (k := lv) (x := "script") (CX := fun w => L2.CX l.prog w) (sp := fun w vs H Q E => ∃ a ns, vs = [.ref a] ∧ ns.length ≤ 63 ∧ Only H ∧ SqL (K w.params) H a (ns.map V.int) ∧ (∀ v H', v = .bl true → Q v H') ∧ ∀ c x H', False → E c x H') hn (by decide) hdf hroom hY (fun w mg fa h KX G hmg => ?_) (fun w H a ns hl hO hS => ⟨a, ns, rfl, hl, hO, hS, fun _ _ e => e, fun _ _ _ e => e⟩) fun w H s e s' c => ?_
  · obtain ⟨fd, hb, hF⟩ := F w mg fa h KX G hmg
    refine ⟨fd, hb, fun base b1 b2 => ?_⟩
    obtain ⟨mg', F'⟩ := hF base b1 b2
    refine F'.imp fun vs H Q E h => ?_
    obtain ⟨a, ns, e, hl, hO, hS, hq, _⟩ := h
    subst e
    obtain ⟨ds, L, Qd, Ed, r, hr, q1, q2, q3⟩ := law_sp (K := K w.params) (mg := mg') hO hS (hsp ns hl)
    exact ⟨ds, L, Qd, Ed, r, hr, q1, fun d L' v H' x y z k => hq v H' (q2 d L' v H' x y z k), fun C fs L' cls dx H' x y z k => (q3 C fs L' cls dx H' x y z k).elim⟩
  · obtain ⟨_, _, _, _, _, _, _, _, _, _, _, _, z⟩ := c
    exact z
end D2

set_option Elab.async false
set_option linter.all false
set_option maxRecDepth 100000
set_option maxHeartbeats 1000000
namespace D2
open PySem PySem.Spec PyProof.Rows L2
/-! ### loops by induction; the continuation is a letter -/
theorem forD_ind {g : DG} {body : DS} {ok : DH → Prop} {dn : DEnds} (I : List D → DSt → DH → Prop)
    (hs : ∀ d ds s L (P : DSt → DH → Prop), (∀ s' L', I ds s' L' → P s' L') → I (d :: ds) s L → ok L ∧ g d s L (fun s1 L1 => body { dn with nx := P, ct := P, bk := dn.nx } s1 L1) (fun _ _ _ => False))
    (he : ∀ s L, I [] s L → ok L ∧ dn.nx s L) : ∀ ds s L, I ds s L → forD g body ok ds dn s L
  | [], s, L, h => he s L h
  | d :: ds, s, L, h => hs d ds s L _ (fun s' L' h' => forD_ind I hs he ds s' L' h') h
/-- the same invariant at each turn -/
theorem forD_mem {g : DG} {body : DS} {ok : DH → Prop} {dn : DEnds} (I : DSt → DH → Prop) (ds : List D)
    (hs : ∀ d, d ∈ ds → ∀ s L (P : DSt → DH → Prop), (∀ s' L', I s' L' → P s' L') → I s L → ok L ∧ g d s L (fun s1 L1 => body { dn with nx := P, ct := P, bk := dn.nx } s1 L1) (fun _ _ _ => False))
    (he : ∀ s L, I s L → ok L ∧ dn.nx s L) (s : DSt) (L : DH) (h : I s L) : forD g body ok ds dn s L :=
  forD_ind (fun rest s L => (∀ d, d ∈ rest → d ∈ ds) ∧ I s L) (fun d rest s L P hP hI => hs d (hI.1 d List.mem_cons_self) s L P (fun s' L' h' => hP s' L' ⟨fun e he => hI.1 e (List.mem_cons_of_mem _ he), h'⟩) hI.2)
    (fun s L hI => he s L hI.2) ds s L ⟨fun _ h => h, h⟩
/-- by the number of turns -/
theorem forD_ix {g : DG} {body : DS} {ok : DH → Prop} {dn : DEnds} (I : Nat → DSt → DH → Prop) (ds : List D)
    (hs : ∀ (i : Nat) d, ds[i]? = some d → ∀ s L (P : DSt → DH → Prop), (∀ s' L', I (i + 1) s' L' → P s' L') → I i s L → ok L ∧ g d s L (fun s1 L1 => body { dn with nx := P, ct := P, bk := dn.nx } s1 L1) (fun _ _ _ => False))
    (he : ∀ s L, I ds.length s L → ok L ∧ dn.nx s L) (s : DSt) (L : DH) (h : I 0 s L) : forD g body ok ds dn s L :=
  forD_ind (fun rest s L => ∃ i, rest = ds.drop i ∧ i ≤ ds.length ∧ I i s L) (fun d rest s L P hP ⟨i, e, hi, hI⟩ => by
      have hd : ds[i]? = some d := by
        have : (ds.drop i)[0]? = some d := by rw [← e]; rfl
        simpa using this
      refine hs i d hd s L P (fun s' L' h' => hP s' L' ⟨i + 1, ?_, ?_, h'⟩) hI
      · have : (ds.drop i).drop 1 = rest := by rw [← e]; rfl
        rw [← this, List.drop_drop]
      · have := (List.getElem?_eq_some_iff.mp hd).1
        omega)
    (fun s L ⟨i, e, hi, hI⟩ => by
      have : i = ds.length := by
        have := congrArg List.length e
        simp at this
        omega
      subst this
      exact he s L hI) ds s L ⟨0, by simp, Nat.zero_le _, h⟩
theorem lcD_ind {g : DG} {t : DT} {e : DE} {ok : DH → Prop} {s : DSt} {Q : List D → DH → Prop} (I : List D → List D → DH → Prop)
    (hs : ∀ d ds acc L (P : List D → DH → Prop), (∀ acc' L', I ds acc' L' → P acc' L') → I (d :: ds) acc L → ok L ∧ g d s L (fun s1 L1 => t s1 L1 (fun b L2 => if b = true then e s1 L2 (fun y L3 => acc.length < 16777216 ∧ P (acc ++ [y]) L3) (fun _ _ _ => False) else P acc L2) (fun _ _ _ => False)) (fun _ _ _ => False))
    (he : ∀ acc L, I [] acc L → ok L ∧ Q acc L) : ∀ ds acc L, I ds acc L → lcD g t e ok s Q ds acc L
  | [], acc, L, h => he acc L h
  | d :: ds, acc, L, h => hs d ds acc L (fun a L' => lcD g t e ok s Q ds a L') (fun a L' h' => lcD_ind I hs he ds a L' h') h
/-- elements and tests that change nothing -/
theorem lcD_pure {g : DG} {t : DT} {e : DE} {ok : DH → Prop} {s : DSt} {Q : List D → DH → Prop} (keep : D → Bool) (f : D → D) (L : DH) (hok : ok L) : ∀ (ds : List D),
    (∀ d, d ∈ ds → ∀ (Kt : D → DH → Prop) (Kf : DH → Prop), (keep d = true → Kt (f d) L) → (keep d = false → Kf L) → g d s L (fun s1 L1 => t s1 L1 (fun b L2 => if b = true then e s1 L2 Kt (fun _ _ _ => False) else Kf L2) (fun _ _ _ => False)) (fun _ _ _ => False)) →
    ∀ acc, acc.length + ds.length ≤ 16777216 → Q (acc ++ (ds.filter keep).map f) L → lcD g t e ok s Q ds acc L
  | [], _, acc, _, q => ⟨hok, by simpa using q⟩
  | d :: ds, h, acc, hl, q => by
    refine ⟨hok, h d List.mem_cons_self _ _ (fun hk => ⟨by simp at hl; omega, ?_⟩) fun hk => ?_⟩
    · refine lcD_pure keep f L hok ds (fun d hd => h d (List.mem_cons_of_mem _ hd)) _ (by simp at hl ⊢; omega) ?_
      rw [List.filter_cons, if_pos hk] at q
      simpa using q
    · refine lcD_pure keep f L hok ds (fun d hd => h d (List.mem_cons_of_mem _ hd)) _ (by simp at hl ⊢; omega) ?_
      rw [List.filter_cons, if_neg (by simp [hk])] at q
      exact q
theorem mem_rngD {lo : Int} {n : Nat} {d : D} (h : d ∈ rngD lo n) : ∃ k : Int, d = .int k ∧ lo ≤ k ∧ k < lo + n := by
  unfold rngD at h
  obtain ⟨i, hi, e⟩ := List.mem_map.mp h
  have := List.mem_range.mp hi
  exact ⟨lo + i, e.symm, by omega, by omega⟩
theorem rngD_get {lo : Int} {n : Nat} {i : Nat} {d : D} (h : (rngD lo n)[i]? = some d) : d = .int (lo + i) ∧ i < n := by
  unfold rngD at h
  rw [List.getElem?_map] at h
  obtain ⟨j, hj, e⟩ := Option.map_eq_some_iff.mp h
  have := List.getElem?_eq_some_iff.mp hj
  obtain ⟨hl, e2⟩ := this
  simp at hl e2
  subst e2
  exact ⟨e.symm, hl⟩
theorem rngD_length {lo : Int} {n : Nat} : (rngD lo n).length = n := by simp [rngD]
/-! ### equality of plain things -/
section
variable {L : DH}
@[simp] theorem pyL_int (n : Nat) (i : Int) : pyL L n (.int i) = some (.int i) := by cases n <;> rfl
@[simp] theorem pyL_bl (n : Nat) (i : Bool) : pyL L n (.bl i) = some (.bool i) := by cases n <;> rfl
@[simp] theorem pyL_str (n : Nat) (i : Str) : pyL L n (.str i) = some (.str i) := by cases n <;> rfl
@[simp] theorem pyL_non (n : Nat) : pyL L n .non = some .none := by cases n <;> rfl
theorem pyL_tup (n : Nat) (ds : List D) : pyL L (n + 1) (.tup ds) = (optAll (pyL L n) ds).map PyData.tuple := rfl
theorem pyL_ref (n : Nat) {a : Addr} {ds : List D} (h : L a = some (.lst ds)) : pyL L (n + 1) (.ref a) = (optAll (pyL L n) ds).map PyData.list := by
  show (match L a with | some (.lst ds) => (optAll (pyL L n) ds).map PyData.list | none => none) = _
  rw [h]
theorem pyL_lro (n : Nat) {ds : List D} : pyL L (n + 1) (.lro ds) = (optAll (pyL L n) ds).map PyData.list := rfl
@[simp] theorem optAll_nil {α β : Type} {f : α → Option β} : optAll f [] = some [] := rfl
theorem optAll_cons' {α β : Type} {f : α → Option β} {x : α} {xs : List α} : optAll f (x :: xs) = (f x).bind fun y => (optAll f xs).map fun ys => y :: ys := by
  show (match f x with | none => none | some y => match optAll f xs with | none => none | some ys => some (y :: ys)) = _
  cases f x with
  | none => rfl
  | some y =>
    cases optAll f xs with
    | none => rfl
    | some ys => rfl
theorem optAll_map {α β γ : Type} {f : α → Option β} {h : γ → α} {k : γ → β} (e : ∀ c, f (h c) = some (k c)) : ∀ cs : List γ, optAll f (cs.map h) = some (cs.map k)
  | [] => rfl
  | c :: cs => by rw [List.map_cons, optAll_cons', e, optAll_map e cs]; rfl
theorem optAll_ints (n : Nat) (ns : List Int) : optAll (pyL L n) (ns.map D.int) = some (ns.map PyData.int) := optAll_map (fun c => pyL_int n c) ns
theorem eqD_of {x y : D} {p q : PyData} (h1 : pyL L 60 x = some p) (h2 : pyL L 60 y = some q) : eqD L x y = some (PyData.eqv p q) := by
  unfold eqD; rw [h1, h2]
@[simp] theorem eqD_int (i j : Int) : eqD L (.int i) (.int j) = some (i == j) := by rw [eqD_of (pyL_int _ _) (pyL_int _ _)]; rfl
@[simp] theorem eqD_str (i j : Str) : eqD L (.str i) (.str j) = some (i == j) := by rw [eqD_of (pyL_str _ _) (pyL_str _ _)]; rfl
@[simp] theorem eqD_non_str (j : Str) : eqD L .non (.str j) = some false := by rw [eqD_of (pyL_non _) (pyL_str _ _)]; rfl
theorem inD_of {x y : D} {ys : List D} {ps : List PyData} {p : PyData} (h : itemsOf L y = some ys) (h1 : optAll (pyL L 59) ys = some ps) (h2 : pyL L 60 x = some p) : inD L x y = some (ps.any fun q => PyData.eqv q p) := by
  have core : (match itemsOf L y with
    | none => none
    | some ys => match optAll (pyL L 59) ys with
      | none => none
      | some ps => match pyL L 60 x with
        | none => none
        | some p => some (ps.any fun q => PyData.eqv q p)) = some (ps.any fun q => PyData.eqv q p) := by simp only [h, h1, h2]
  cases y with
  | str z => cases h
  | non => exact core
  | bl _ => exact core
  | int _ => exact core
  | tup _ => exact core
  | lro _ => exact core
  | ref _ => exact core
end
/-! ### places -/
section
variable {α : Type} {a b c d e f : α} {l : List α}
@[simp] theorem atI0 : atI (a :: l) 0 = some a := atI_nat (j := 0) rfl
@[simp] theorem atI1 : atI (a :: b :: l) 1 = some b := atI_nat (j := 1) rfl
@[simp] theorem atI2 : atI (a :: b :: c :: l) 2 = some c := atI_nat (j := 2) rfl
@[simp] theorem atI3 : atI (a :: b :: c :: d :: l) 3 = some d := atI_nat (j := 3) rfl
@[simp] theorem atI4 : atI (a :: b :: c :: d :: e :: l) 4 = some e := atI_nat (j := 4) rfl
theorem atI_in {xs : List α} {i : Int} (h0 : 0 ≤ i) (h1 : i < xs.length) : ∃ x, atI xs i = some x ∧ xs[i.toNat]? = some x ∧ x ∈ xs := by
  have h : i.toNat < xs.length := by omega
  refine ⟨xs[i.toNat], ?_, List.getElem?_eq_getElem h, List.getElem_mem h⟩
  have q := atI_nat (List.getElem?_eq_getElem h)
  rwa [show ((i.toNat : Nat) : Int) = i by omega] at q
theorem ixN_in {n : Nat} {i : Int} (h0 : 0 ≤ i) (h1 : i < n) : ixN n i = some i.toNat := by
  unfold ixN; rw [if_pos h0, if_pos h1]
@[simp] theorem ixN_30 : ixN 3 0 = some 0 := by decide
@[simp] theorem ixN_31 : ixN 3 1 = some 1 := by decide
@[simp] theorem ixN_32 : ixN 3 2 = some 2 := by decide
@[simp] theorem ixN_40 : ixN 4 0 = some 0 := by decide
@[simp] theorem ixN_41 : ixN 4 1 = some 1 := by decide
@[simp] theorem ixN_42 : ixN 4 2 = some 2 := by decide
@[simp] theorem ixN_43 : ixN 4 3 = some 3 := by decide
end
/-- what a value is, as far as a list's address is told -/
def Known (L : DH) : D → Prop
  | .ref a => ∃ xs, L a = some (.lst xs)
  | _ => True
theorem endOf {Q : DK} {L : DH} {d : D} (q : Q d L) : ∃ L2, Le L2 L ∧ Q d L2 := ⟨L, Le.refl, q⟩
theorem endX {E : XD} {L : DH} {n : Str} {fs : List (Str × D)} (q : E n fs L) : ∃ L2, Le L2 L ∧ E n fs L2 := ⟨L, Le.refl, q⟩
/-! ### a draw's list: what lies beside it -/
def Out (L : DH) (a c : Addr) : Prop := c ≠ a ∧ ∀ xs, L a = some (.lst xs) → ∀ d, d ∈ xs → d ≠ .ref c
def Fra (a : Addr) (L L' : DH) : Prop := ∀ c o, L c = some o → Out L a c → L' c = some o ∧ Out L' a c
theorem Fra.refl {a : Addr} {L : DH} : Fra a L L := fun _ _ h o => ⟨h, o⟩
theorem Fra.trans {a : Addr} {L L1 L2 : DH} (x : Fra a L L1) (y : Fra a L1 L2) : Fra a L L2 := fun c o h q => let ⟨h1, q1⟩ := x c o h q; y c o h1 q1
theorem fresh_ne {L : DH} {a p : Addr} {o : DO} (h : L a = some o) (hp : L p = none) : a ≠ p := by rintro rfl; rw [hp] at h; cases h
section
variable {Q : DK} {E : XD} {s : DSt} {L : DH} {d : D} {n : Str} {fs : List (Str × D)}
theorem fnE_nx : (fnEnds Q E).nx s L = ∃ L2, Le L2 L ∧ Q .non L2 := rfl
theorem fnE_rt : (fnEnds Q E).rt d L = ∃ L2, Le L2 L ∧ Q d L2 := rfl
theorem fnE_ex : (fnEnds Q E).ex n fs s L = ∃ L2, Le L2 L ∧ E n fs L2 := rfl
theorem Fra.new {a p : Addr} {L : DH} {o u : DO} (h : L a = some u) (hp : L p = none) : Fra a L (upd L p o) := fun c v hc hout =>
  ⟨by rw [updD_ne (fresh_ne hc hp)]; exact hc, hout.1, fun xs e d hd => hout.2 xs (by rw [← e, updD_ne (fresh_ne h hp)]) d hd⟩
end
end D2

set_option Elab.async false
set_option linter.all false
set_option maxRecDepth 100000
set_option maxHeartbeats 1000000
namespace D2
open PySem PySem.Spec PyProof.Rows L2
/-! ### enumerate of a tuple -/
theorem enum_made {v : Value} {o : Obj} {Hv : Heap → Prop} (B : Begins v o Hv) : Meets (Builtin.«enumerate.__new__» ⟨[.type "enumerate", v], []⟩) (fun _ R s => Hv s.heap ∧
      R (.ok (.ret (.ref (s.heap.push o).objs.size))) { s with heap := (s.heap.push o).push { cls := .type "enumerate", data := .fields #[.none, .bool false, .ref s.heap.objs.size, rawInt 0, .none, .none] } }) :=
  .of_wp fun prog w A R s h => by
    obtain ⟨hp, g, d, tk, os⟩ := s
    obtain ⟨h1, h⟩ := h
    have sube := sub_enumerate
    have it : ∀ {A' : Around} {E : Value → Shared → Prop} {Q : Value → Shared → Prop}, Q (.ref hp.objs.size) ⟨hp.push o, g, d, tk, os⟩ → wpAny (model prog w) A' (pyIter v) Q E ⟨hp, g, d, tk, os⟩ := fun q => B.iter prog w _ _ ⟨hp, g, d, tk, os⟩ _ h1 q
    wp_walk using it
    refine wpAny_stack_any fun st => (wpAny_pure ?_)
    split
    · rename_i c _ _ _ _ _
      cases (c == Value.type "enumerate") <;> (wp_walk using it; exact ⟨_, rfl, h⟩)
    · wp_walk using it
      exact ⟨_, rfl, h⟩
section
variable {prog : Program} {w : World} {A : Around} {E : Value → Shared → Prop} {s : Shared}
theorem call_enum1 {v : Value} {o : Obj} {Hv : Heap → Prop} {Q : Value → Shared → Prop} (B : Begins v o Hv) (h1 : Hv s.heap)
    (h : ∀ h', IsEnum h' (s.heap.objs.size + 1) s.heap.objs.size 0 .none → h'.get? s.heap.objs.size = some o → h'.objs.size = s.heap.objs.size + 2 → (∀ b o, s.heap.get? b = some o → h'.get? b = some o) → Q (.ref (s.heap.objs.size + 1)) { s with heap := h' }) :
    wpAny (model prog w) A (call (.type "enumerate") [v]) Q E s := by
  refine callType_new F.called_enumerate (by decide) (F.typeCall_enumerate_1 _) (F.newCall_enumerate_1 _) (fun obj => F.args_object_init_2 obj _) F.entry_enumerate_new (enum_made B) ⟨h1, ?_⟩
  have z : (s.heap.push o).objs.size = s.heap.objs.size + 1 := Heap.size_push ..
  show _ ∧ _
  rw [z]
  have e : IsEnum ((s.heap.push o).push { cls := .type "enumerate", data := .fields #[.none, .bool false, .ref s.heap.objs.size, rawInt 0, .none, .none] }) (s.heap.objs.size + 1) s.heap.objs.size 0 .none := by
    have q := Heap.get?_push_size (s.heap.push o) (o := { cls := .type "enumerate", data := .fields #[.none, .bool false, .ref s.heap.objs.size, rawInt 0, .none, .none] }) rfl
    rw [z] at q; exact q
  refine ⟨⟨_, e, rfl⟩, h _ e (Heap.get?_push_of_some _ (Heap.get?_push_size _ B.free)) (by rw [Heap.size_push, z]) fun b u x => Heap.get?_push_of_some _ (Heap.get?_push_of_some _ x)⟩
end
def Itu (K : PySem.W.Frag) (a : Addr) : It :=
  ⟨fun i H => ∃ (xs : List V) (x : V), SqT K H a xs ∧ xs[i]? = some x, fun i H v H' => ∃ T x, v = .ref T ∧ H T = none ∧ H' = L2.upd H T (.tup [.int (i : Nat), x]) ∧ ∀ xs, SqT K H a xs → xs[i]? = some x, fun i H => ∃ xs : List V, SqT K H a xs ∧ xs.length = i⟩
theorem turn_enumT {P : Program} {w : World} {K : PySem.W.Frag} {elts : List Expr} {kk : Nat} {tpos : Pos} (a e it : Addr) :
    Turn P w K (.Tuple elts kk tpos) (Itu K a) [e, it] e (fun i h => (∃ old, IsEnum h e it ((i : Nat) : Int) old) ∧ h.IsTupleIter it a i ∧ e ≠ it) where
  mem := by simp
  obj := fun i h st b hb => by
    obtain ⟨⟨old, he⟩, ⟨o, ho, hc, hd⟩, _⟩ := st
    have e' : b = e ∨ b = it := by simpa using hb
    rcases e' with z | z
    · subst z; exact ⟨_, he, fun v q => nomatch q⟩
    · subst z; exact ⟨o, ho, fun v q => by rw [hd] at q; cases q⟩
  keep := fun i h h' st k => let ⟨⟨old, he⟩, hi, hne⟩ := st; ⟨⟨old, k e (by simp) _ he⟩, hi.at fun o q => k it (by simp) o q, hne⟩
  item := by
    intro X hP hw hK hc i pins s σ H E I hf st hg
    subst hP hw hK
    obtain ⟨⟨old, he⟩, hit, hne⟩ := st
    obtain ⟨xs, x, hq, hx⟩ := hg
    obtain ⟨its, rv, p, hz⟩ := I.tuple hq
    obtain ⟨u, hu, ru⟩ := rv.get hx
    have hel : e < s.heap.objs.size := Heap.lt_size he
    have hil : it < s.heap.objs.size := by obtain ⟨_, q, _⟩ := hit; exact Heap.lt_size q
    have hai : a ≠ it := by
      obtain ⟨o1, g1, c1, _⟩ := hit
      obtain ⟨o2, g2, c2, _⟩ := p
      rintro rfl
      rw [g1] at g2; cases g2; rw [c1] at c2; exact absurd (Value.type.inj c2) (by decide)
    have hea : e ∉ [it, a] := by
      obtain ⟨o2, g2, c2, _⟩ := p
      intro z
      have z : e = it ∨ e = a := by simpa using z
      rcases z with z | z
      · exact hne z
      · subst z
        have he' : s.heap.get? e = some _ := he
        rw [he'] at g2; cases g2; exact absurd (Value.type.inj c2) (by decide)
    have hlt : i < its.toArray.size := by
      have := (List.getElem?_eq_some_iff.mp hu).1
      simpa using this
    refine wpAny_pyNext_enum_itemD (Draws.tuple (A := X.A.in1) (by have := I.ok.hd hc; simpa using this) it a hai its.toArray) he ⟨hit, p⟩ hlt hne hea fun x' h' tk hx' ho hst' hT hsz hk => ?_
    have ex : x' = u := by
      have : its.toArray[i]? = some u := by simpa using hu
      rw [this] at hx'; exact (Option.some.inj hx').symm
    subst ex
    refine ⟨_, rfl, wpAny_letOwnedTupleGo_enum (s := { s with heap := h', toks := tk + 1 }) ho fun h'' he' sb => ?_⟩
    have hT2 : h''.get? s.heap.objs.size = some { cls := .type "tuple", data := .seq #[.int i tk, x'] } := (sb.2 _ (Nat.ne_of_gt hel)).trans hT
    have new : ObjOk X.prog X.w (L2.upd H s.heap.objs.size (.tup [.int (i : Nat), x])) h'' s.heap.objs.size (.tup [.int (i : Nat), x]) :=
      ⟨by show 2 ≤ sizeLine; decide, [.int i tk, x'], .cons ⟨_, rfl⟩ (.cons ru .nil), ⟨_, hT2, rfl, _, rfl⟩⟩
    have I1 : Inv X pins σ (L2.upd H s.heap.objs.size (.tup [.int (i : Nat), x])) { s with heap := h'', toks := tk + 1 } :=
      I.turnedNew (ch := [e, it]) (fun b ob hb q => (sb.2 b (fun z => hb (by simp [z]))).trans (hk b ob (fun z => hb (by simp [z])) (fun z => hb (by simp [z])) q)) hf (Nat.le_refl _) new
    refine ⟨.ref s.heap.objs.size, _, I1, rfl, ⟨_, x, rfl, I.hok.fresh (Nat.le_refl _), rfl, fun ys hy => ?_⟩, ⟨⟨x', ?_⟩, hst'.1.at fun o q => (sb.2 it (Ne.symm hne)).trans q, hne⟩, fun b hb => ?_⟩
    · rw [I.tuple_inj hy hq]; exact hx
    · have e1 : ((i + 1 : Nat) : Int) = (i : Int) + 1 := by omega
      rw [e1]; exact he'
    · have hb' : b < s.heap.objs.size := by
        have e' : b = e ∨ b = it := by simpa using hb
        rcases e' with z | z
        · rw [z]; exact hel
        · rw [z]; exact hil
      rw [upd_ne (Nat.ne_of_lt hb')]
      exact (hf b hb).1
  done := by
    intro X hP hw hK hc i pins s σ H E I hf st hg
    subst hP hw hK
    obtain ⟨⟨old, he⟩, hit, hne⟩ := st
    obtain ⟨xs, hq, hx⟩ := hg
    obtain ⟨its, rv, p, hz⟩ := I.tuple hq
    obtain ⟨f0, f1, f2, f3, f4, f5⟩ := hf it (by simp)
    have hai : a ≠ it := by
      obtain ⟨o1, g1, c1, _⟩ := hit
      obtain ⟨o2, g2, c2, _⟩ := p
      rintro rfl
      rw [g1] at g2; cases g2; rw [c1] at c2; exact absurd (Value.type.inj c2) (by decide)
    have hn : i = its.toArray.size := by
      have := rv.length
      simp; omega
    subst hn
    exact wpAny_pyNext_enum_endD (Draws.tuple (A := X.A.in1) (by have := I.ok.hd hc; simpa using this) it a hai its.toArray) he ⟨hit, p⟩ fun h' eb => ⟨rfl, I.turned (t' := s.toks) (fun b o hb q => eb b o hb q) f0 f1 f3 f4 f5⟩
  self := fun A i s Q E st h => let ⟨⟨_, he⟩, _⟩ := st; wpAny_pyIter_enum he h
def iEnumT (K : PySem.W.Frag) (ta : TA) : TI := fun σ H R => ta σ H fun vs H1 => ∃ a xs, vs = [.ref a] ∧ (SqL K H1 a xs ∧ R (Ite K a) H1 ∨ SqT K H1 a xs ∧ R (Itu K a) H1)
theorem pi_enumT {X : Cx} {e : Expr} {ta : TA} {p pos tpos : Pos} {elts : List Expr} {kk : Nat} (hg : Gl X "enumerate") (hm : X.mg "enumerate" = none) (ha : PA X [e] ta) (hs : starEach [e] X.env = [(false, eval e X.env)] := by rfl) :
    PI X (.Tuple elts kk tpos) (.Call (.Name "enumerate" p) [e] [] pos) (iEnumT X.K ta) := by
  refine ⟨fun pins s σ H R I h => ?_⟩
  refine Call_ (ld_blt I hg hm boot_enumerate (PyProof.Rows.callWith_type1 (thn (ha.run pos pins s σ H _ I h) fun us s1 ⟨vs, H1, I1, r1, q1⟩ => ?_) hs rfl))
  obtain ⟨a, xs, ex, q⟩ := q1
  subst ex
  cases r1 with
  | cons r rr =>
    cases rr
    cases r
    have fr : ∀ b, b ∈ [s1.heap.objs.size + 1, s1.heap.objs.size] → s1.heap.objs.size ≤ b := fun b hb => by
      have e' : b = s1.heap.objs.size + 1 ∨ b = s1.heap.objs.size := by simpa using hb
      rcases e' with z | z
      · rw [z]; exact Nat.le_add_right _ _
      · rw [z]; exact Nat.le_refl _
    rcases q with ⟨hq, q⟩ | ⟨hq, q⟩
    · obtain ⟨its, rv, p', hz⟩ := I1.list hq
      refine call_enumerate_list p'.isList fun h' he hit hsz hk => (wpAny_pyIter_enum he ?_)
      have I2 : Inv X pins σ H1 { s1 with heap := h' } := I1.kept (t' := s1.toks) hk
      exact ⟨s1.heap.objs.size + 1, [s1.heap.objs.size + 1, s1.heap.objs.size], _, _, H1, rfl, I2, turn_enum a (s1.heap.objs.size + 1) s1.heap.objs.size, ⟨⟨.none, he⟩, hit, Nat.succ_ne_self _⟩, fun b hb => I1.fpOk (fr b hb) (I1.hok.fresh (fr b hb)), q⟩
    · obtain ⟨its, rv, p', hz⟩ := I1.tuple hq
      refine call_enum1 (begins_tuple a its.toArray) (show s1.heap.IsTuple a its.toArray from p') fun h' he hit hsz hk => (wpAny_pyIter_enum he ?_)
      have I2 : Inv X pins σ H1 { s1 with heap := h' } := I1.kept (t' := s1.toks) hk
      exact ⟨s1.heap.objs.size + 1, [s1.heap.objs.size + 1, s1.heap.objs.size], _, _, H1, rfl, I2, turn_enumT a (s1.heap.objs.size + 1) s1.heap.objs.size, ⟨⟨.none, he⟩, ⟨_, hit, rfl, rfl⟩, Nat.succ_ne_self _⟩, fun b hb => I1.fpOk (fr b hb) (I1.hok.fresh (fr b hb)), q⟩
/-! in data -/
def enumD : Nat → List D → List D
  | _, [] => []
  | i, d :: ds => .tup [.int (i : Nat), d] :: enumD (i + 1) ds
theorem enumD_length : ∀ (i : Nat) (ds : List D), (enumD i ds).length = ds.length
  | _, [] => rfl
  | i, d :: ds => by simp [enumD, enumD_length (i + 1) ds]
theorem enumD_get : ∀ (i j : Nat) (ds : List D) (x : D), (enumD i ds)[j]? = some x → ∃ d, ds[j]? = some d ∧ x = .tup [.int ((i + j : Nat) : Int), d]
  | _, _, [], _, h => by simp [enumD] at h
  | i, 0, d :: ds, x, h => by simp [enumD] at h; exact ⟨d, rfl, h.symm⟩
  | i, j + 1, d :: ds, x, h => by
    simp only [enumD, List.getElem?_cons_succ] at h
    obtain ⟨y, h1, h2⟩ := enumD_get (i + 1) j ds x h
    exact ⟨y, by simpa using h1, by rw [h2]; congr 4; omega⟩
def dEnum (t : DA) : DI := fun s L Q E => t s L (fun as L1 => ∃ d ds ok, as = [d] ∧ isSeq L1 d = some (ds, ok) ∧ Q (enumD 0 ds) ok L1) E
section
variable {K : PySem.W.Frag}
theorem itOk_E {a : Addr} {ds : List D} {ok : DH → Prop} {H0 : Hp} (h : ∀ H L, TK H0 H → HR K H L → ok L → ∃ vs, SqL K H a vs ∧ RepL K H ds vs) : ItOk K (Ite K a) (enumD 0 ds) ok H0 := fun i H L tk hr hok => by
  obtain ⟨vs, sq, r⟩ := h H L tk hr hok
  refine ⟨fun e => ⟨vs, sq, by rw [← r.length, e, enumD_length]; exact Nat.le_refl _⟩, fun d e => ?_⟩
  obtain ⟨y, e1, rfl⟩ := enumD_get 0 i ds d e
  obtain ⟨v, e2, rv⟩ := r.get e1
  refine ⟨⟨vs, v, sq, e2⟩, fun x H' ⟨T, x', e3, hT, e4, y⟩ => ?_⟩
  subst e3 e4
  have := y vs sq
  rw [e2] at this
  cases this
  have tkn : TK H (L2.upd H T (.tup [.int (i : Nat), v])) := HR.tk_new hT
  exact ⟨⟨T, _, rfl, .inl (.inl upd_same), _, _, rfl, by simp [Rep], _, _, rfl, Rep.tk tkn _ _ rv, rfl⟩, (hr.laid hT).1, (hr.laid hT).2, tkn⟩
theorem itOk_U {a : Addr} {ds : List D} {ok : DH → Prop} {H0 : Hp} (h : ∀ H L, TK H0 H → HR K H L → ok L → ∃ vs, SqT K H a vs ∧ RepL K H ds vs) : ItOk K (Itu K a) (enumD 0 ds) ok H0 := fun i H L tk hr hok => by
  obtain ⟨vs, sq, r⟩ := h H L tk hr hok
  refine ⟨fun e => ⟨vs, sq, by rw [← r.length, e, enumD_length]⟩, fun d e => ?_⟩
  obtain ⟨y, e1, rfl⟩ := enumD_get 0 i ds d e
  obtain ⟨v, e2, rv⟩ := r.get e1
  refine ⟨⟨vs, v, sq, e2⟩, fun x H' ⟨T, x', e3, hT, e4, y⟩ => ?_⟩
  subst e3 e4
  have := y vs sq
  rw [e2] at this
  cases this
  have tkn : TK H (L2.upd H T (.tup [.int (i : Nat), v])) := HR.tk_new hT
  exact ⟨⟨T, _, rfl, .inl (.inl upd_same), _, _, rfl, by simp [Rep], _, _, rfl, Rep.tk tkn _ _ rv, rfl⟩, (hr.laid hT).1, (hr.laid hT).2, tkn⟩
end
theorem qi_enum {X : Cx} {W : WX} {e : Expr} {ta : DA} {p pos tpos : Pos} {elts : List Expr} {kk : Nat} (hm : X.mg "enumerate" = none) (ha : QA X W [e] ta) (hg : Gl X "enumerate" := by rfl) (hs : starEach [e] X.env = [(false, eval e X.env)] := by rfl) :
    QI X W (.Tuple elts kk tpos) (.Call (.Name "enumerate" p) [e] [] pos) (dEnum ta) :=
  ⟨PI_mono (pi_enumT hg hm ha.pa hs) fun σ H R ⟨s, L, Qd, Ed, hs, hr, q, hq, lp⟩ => liftA_bind hs hr lp q fun as L1 xs H1 ⟨d, ds, ok, ea, e, q1⟩ r1 hr1 k1 hs1 t1 lp1 => by
    subst ea
    obtain ⟨x, ex, rx⟩ := r1.one_inv
    subst ex
    cases d with
    | tup xs =>
      cases e
      obtain ⟨a, vs, e2, sq, rl⟩ := rx
      exact ⟨a, vs, by rw [e2], .inr ⟨sq, hq _ _ L1 H1 _ q1 hr1 k1 (itOk_U fun H L tk _ _ => ⟨vs, tk.sqT sq, RepL.tk tk _ _ rl⟩)⟩⟩
    | lro xs =>
      cases e
      obtain ⟨a, vs, e2, sq, rl⟩ := rx
      exact ⟨a, vs, by rw [e2], .inl ⟨sq.sq, hq _ _ L1 H1 _ q1 hr1 k1 (itOk_E fun H L tk _ _ => ⟨vs, (tk.fzL sq).sq, RepL.tk tk _ _ rl⟩)⟩⟩
    | ref a =>
      have e : (match L1 a with | some (DO.lst ds) => some (ds, fun L' : DH => L' a = some (DO.lst ds)) | none => none) = some (ds, ok) := e
      cases hL : L1 a with
      | some o =>
        cases o with | lst xs =>
        rw [hL] at e
        cases e
        obtain ⟨vs, h1, rl⟩ := hr1 a _ hL
        cases (show x = _ from rx)
        exact ⟨a, vs, rfl, .inl ⟨SqL.of h1, hq _ _ L1 H1 _ q1 hr1 k1 (itOk_E fun H L tk hr hok => let ⟨us, h2, r2⟩ := hr a _ hok; ⟨us, SqL.of h2, r2⟩)⟩⟩
      | none => rw [hL] at e; cases e
    | _ => cases e⟩
end D2

set_option Elab.async false
set_option linter.all false
set_option maxRecDepth 100000
set_option maxHeartbeats 1000000
namespace D2
open PySem PySem.Spec PyProof.Rows L2
/-! ### two fors in a comprehension -/
def lc2D (g : DG) (t : DT) (di1 : DI) (g1 : DG) (t1 : DT) (e : DE) (vs1 : List Nat) (ok : DH → Prop) (s : DSt) (Q : List D → DH → Prop) : List D → List D → DH → Prop
  | [], acc, L => ok L ∧ Q acc L
  | d :: ds, acc, L => ok L ∧ g d s L (fun s1 L1 => t s1 L1 (fun b L2 => if b = true then di1 s1 L2 (fun ds1 ok1 L3 => lcD g1 t1 e ok1 (dwipe s1 vs1) (fun acc' L4 => lc2D g t di1 g1 t1 e vs1 ok s Q ds acc' L4) ds1 acc L3) (fun _ _ _ => False)
      else lc2D g t di1 g1 t1 e vs1 ok s Q ds acc L2) (fun _ _ _ => False)) (fun _ _ _ => False)
def dLc2 (di : DI) (g : DG) (t : DT) (di1 : DI) (g1 : DG) (t1 : DT) (e : DE) (vs vs1 : List Nat) : DE := fun s L Q E => di s L (fun ds ok L1 => lc2D g t di1 g1 t1 e vs1 ok (dwipe s vs) (fun acc L2 => ∀ p, L2 p = none → Q (.ref p) (upd L2 p (.lst acc))) ds [] L1) E
theorem lift_lc2 {M : KM} {W : WX} {di di1 : DI} {g g1 : DG} {G G1 : TG} {t t1 : DT} {e : DE} {vs vs1 : List Nat} (lG : liftGo M.K vs g G) (lG1 : liftGo M.K vs1 g1 G1) {σ : L2.St} {H : Hp} {Q : VK} (q : liftE M W (dLc2 di g t di1 g1 t1 e vs vs1) σ H Q) :
    tLc2 (liftI M W di) G (liftT M W0 t) (liftI M W0 di1) G1 (liftT M W0 t1) (liftE M W0 e) vs vs1 σ H Q := by
  obtain ⟨s, L, Qd, Ed, hs, hr, q, hq, lp⟩ := q
  refine ⟨s, L, _, Ed, hs, hr, q, fun ds ok L1 H1 J q hr1 k1 ito D hD => ?_, lp⟩
  have hLD : L1 D = none := hr1.free hD
  have hs1 : SR M.K H1 s σ := hs.tk (k1.tk hr)
  refine ⟨fun i m H' => ∃ acc vacc L', i ≤ ds.length ∧ m = ds.length - i ∧ HR M.K H' L' ∧ TK H1 H' ∧ Kp H L H' L' ∧ L' D = none ∧ H' D = some (.lst vacc) ∧ RepL M.K H' acc vacc ∧
    lc2D g t di1 g1 t1 e vs1 ok (dwipe s vs) (fun acc L2 => ∀ p, L2 p = none → Qd (.ref p) (upd L2 p (.lst acc))) (ds.drop i) acc L', ⟨_, [], [], L1, Nat.zero_le _, rfl, (hr1.laid hD).1, HR.tk_new hD, k1.trans (hr1.laid hD).2, hLD, upd_same, rfl, q⟩, ?_⟩
  rintro i m H' ⟨acc, vacc, L', hi, rfl, hr', tk', k', hL', hH', ra, q'⟩
  by_cases hlt : i < ds.length
  · have ed : ds.drop i = ds[i] :: ds.drop (i + 1) := List.drop_eq_getElem_cons hlt
    rw [ed] at q'
    obtain ⟨hok, q'⟩ := q'
    obtain ⟨go, yl⟩ := (ito i H' L' tk' hr' hok).2 ds[i] (List.getElem?_eq_getElem hlt)
    let Nxt : Hp → Prop := fun H2 => ∃ acc vacc L2, HR M.K H2 L2 ∧ TK H1 H2 ∧ Kp H L H2 L2 ∧ L2 D = none ∧ H2 D = some (.lst vacc) ∧ RepL M.K H2 acc vacc ∧
      lc2D g t di1 g1 t1 e vs1 ok (dwipe s vs) (fun acc L2 => ∀ p, L2 p = none → Qd (.ref p) (upd L2 p (.lst acc))) (ds.drop (i + 1)) acc L2
    refine .inr ⟨go, Nxt, fun H2 ⟨a, b, c, q⟩ => ⟨ds.length - (i + 1), by omega, a, b, c, hlt, rfl, q⟩, fun x H'' y => ?_⟩
    obtain ⟨ry, hry, ky, ty⟩ := yl x H'' y
    have ssw : SR M.K H'' (dwipe s vs) (L2.wipe σ vs) := (hs1.tk (tk'.trans ty)).wipe vs
    refine lG ds[i] x (dwipe s vs) (L2.wipe σ vs) H'' L' _ _ ry ssw hry q' fun s2 LB σ2 H2 q2 hs2 hr2 k2 w2 => ⟨by rw [w2]; exact ww σ vs, ?_⟩
    refine liftT_bind hs2 hr2 lp0 q2 fun b L3 H3 q3 hr3 k3 hs3 t3 lp3 => ?_
    have keepD : ∀ {vacc : List V} {Ha Hb : Hp} {La Lb : DH}, Kp Ha La Hb Lb → Ha D = some (.lst vacc) → La D = none → Hb D = some (.lst vacc) ∧ Lb D = none := fun k a b => k D _ a b
    obtain ⟨d1, l1⟩ := keepD ky hH' hL'
    obtain ⟨d2, l2⟩ := keepD k2 d1 hL'
    obtain ⟨d3, l3⟩ := keepD k3 d2 l2
    have tk3 : TK H' H3 := (ty.trans (k2.tk hry)).trans t3
    have kp3 : Kp H L H3 L3 := ((k'.trans ky).trans k2).trans k3
    cases b with
    | false =>
      exact (if_neg Bool.false_ne_true).mpr ⟨acc, vacc, L3, hr3, tk'.trans tk3, kp3, l3, d3, RepL.tk tk3 _ _ ra, (if_neg Bool.false_ne_true).mp q3⟩
    | true =>
      refine (if_pos rfl).mpr ⟨s2, L3, _, _, hs3, hr3, (if_pos rfl).mp q3, fun ds1 ok1 L4 H4 J1 q4 hr4 k4 ito1 => ?_, lp0⟩
      have t4 : TK H3 H4 := k4.tk hr3
      obtain ⟨d4, l4⟩ := keepD k4 d3 l3
      refine ⟨fun j k H5 => ∃ acc vacc L5, j ≤ ds1.length ∧ k = ds1.length - j ∧ HR M.K H5 L5 ∧ TK H4 H5 ∧ Kp H L H5 L5 ∧ L5 D = none ∧ H5 D = some (.lst vacc) ∧ RepL M.K H5 acc vacc ∧
        lcD g1 t1 e ok1 (dwipe s2 vs1) (fun acc' L4 => lc2D g t di1 g1 t1 e vs1 ok (dwipe s vs) (fun acc L2 => ∀ p, L2 p = none → Qd (.ref p) (upd L2 p (.lst acc))) (ds.drop (i + 1)) acc' L4) (ds1.drop j) acc L5,
        ⟨_, acc, vacc, L4, Nat.zero_le _, rfl, hr4, .refl _, kp3.trans k4, l4, d4, RepL.tk (tk3.trans t4) _ _ ra, q4⟩, ?_⟩
      rintro j k H5 ⟨acc5, vacc5, L5, hj, rfl, hr5, tk5, k5, l5, d5, ra5, q5⟩
      by_cases hlt1 : j < ds1.length
      · have ed1 : ds1.drop j = ds1[j] :: ds1.drop (j + 1) := List.drop_eq_getElem_cons hlt1
        rw [ed1] at q5
        obtain ⟨hok1, q5⟩ := q5
        obtain ⟨go1, yl1⟩ := (ito1 j H5 L5 tk5 hr5 hok1).2 ds1[j] (List.getElem?_eq_getElem hlt1)
        refine .inr ⟨go1, fun H6 => ∃ acc vacc L6, HR M.K H6 L6 ∧ TK H4 H6 ∧ Kp H L H6 L6 ∧ L6 D = none ∧ H6 D = some (.lst vacc) ∧ RepL M.K H6 acc vacc ∧
          lcD g1 t1 e ok1 (dwipe s2 vs1) (fun acc' L4 => lc2D g t di1 g1 t1 e vs1 ok (dwipe s vs) (fun acc L2 => ∀ p, L2 p = none → Qd (.ref p) (upd L2 p (.lst acc))) (ds.drop (i + 1)) acc' L4) (ds1.drop (j + 1)) acc L6, fun H6 ⟨a, b, c, q⟩ => ⟨ds1.length - (j + 1), by omega, a, b, c, hlt1, rfl, q⟩, fun x1 H6 y1 => ?_⟩
        obtain ⟨ry1, hry1, ky1, ty1⟩ := yl1 x1 H6 y1
        have ssw1 : SR M.K H6 (dwipe s2 vs1) (L2.wipe σ2 vs1) := (((hs3.tk t4).tk tk5).tk ty1).wipe vs1
        refine lG1 ds1[j] x1 (dwipe s2 vs1) (L2.wipe σ2 vs1) H6 L5 _ _ ry1 ssw1 hry1 q5 fun s7 L7 σ7 H7 q7 hs7 hr7 k7 w7 => ⟨by rw [w7]; exact ww σ2 vs1, ?_⟩
        refine liftT_bind hs7 hr7 lp0 q7 fun b L8 H8 q8 hr8 k8 hs8 t8 lp8 => ?_
        obtain ⟨d6, l6⟩ := keepD ky1 d5 l5
        obtain ⟨d7, l7⟩ := keepD k7 d6 l5
        obtain ⟨d8, l8⟩ := keepD k8 d7 l7
        have tk8 : TK H5 H8 := (ty1.trans (k7.tk hry1)).trans t8
        have kp8 : Kp H L H8 L8 := ((k5.trans ky1).trans k7).trans k8
        cases b with
        | false =>
          exact (if_neg Bool.false_ne_true).mpr ⟨acc5, vacc5, L8, hr8, tk5.trans tk8, kp8, l8, d8, RepL.tk tk8 _ _ ra5, (if_neg Bool.false_ne_true).mp q8⟩
        | true =>
          refine (if_pos rfl).mpr ?_
          refine liftE_bind hs8 hr8 lp8 ((if_pos rfl).mp q8) fun y L9 v H9 ⟨hlen, q9⟩ r9 hr9 k9 hs9 t9 lp9 => ?_
          obtain ⟨d9, l9⟩ := keepD k9 d8 l8
          have ra9 : RepL M.K H9 acc5 vacc5 := RepL.tk (tk8.trans t9) _ _ ra5
          refine ⟨vacc5, d9, by rw [← ra9.length]; exact line_lt hlen, ?_⟩
          have tkn : TK H9 (L2.upd H9 D (.lst (vacc5 ++ [v]))) := fun a o h im => by
            rw [upd_ne]; exact h
            rintro rfl
            rw [d9] at h; cases h; exact im.elim
          have hrn : HR M.K (L2.upd H9 D (.lst (vacc5 ++ [v]))) L9 := fun a o h => by
            have ne : a ≠ D := by rintro rfl; rw [l9] at h; cases h
            exact (hr9 a o h).tk tkn fun u hu => by rw [upd_ne ne]; exact hu
          refine ⟨acc5 ++ [y], vacc5 ++ [v], L9, hrn, ((tk5.trans tk8).trans t9).trans tkn, fun a o h n => ?_, l9, upd_same, RepL.tk tkn _ _ (ra9.append (.one r9)), q9⟩
          obtain ⟨e1, e2⟩ := (kp8.trans k9) a o h n
          have ne : a ≠ D := by
            rintro rfl
            have := (k1 a o h n).1
            rw [hD] at this; cases this
          exact ⟨by rw [upd_ne ne]; exact e1, e2⟩
      · have ee : j = ds1.length := by omega
        subst ee
        rw [List.drop_length] at q5
        obtain ⟨hok1, q5⟩ := q5
        exact .inl ⟨(ito1 _ H5 L5 tk5 hr5 hok1).1 rfl, acc5, vacc5, L5, hr5, ((tk'.trans tk3).trans t4).trans tk5, k5, l5, d5, ra5, q5⟩
  · have ee : i = ds.length := by omega
    subst ee
    rw [List.drop_length] at q'
    obtain ⟨hok, q'⟩ := q'
    refine .inl ⟨(ito _ H' L' tk' hr' hok).1 rfl, hq (.ref D) _ (.ref D) H' (q' D hL') rfl (fun a o h => ?_) fun a o h n => ?_⟩
    · by_cases ea : a = D
      · subst ea
        rw [updD_same] at h; cases h
        exact ⟨vacc, hH', ra⟩
      · rw [updD_ne ea] at h
        exact hr' a o h
    · obtain ⟨e1, e2⟩ := k' a o h n
      have ne : a ≠ D := by
        rintro rfl
        have := (k1 a o h n).1
        rw [hD] at this; cases this
      exact ⟨e1, by rw [updD_ne ne]; exact e2⟩
section
variable {X : Cx} {W : WX} {pos : Pos}
theorem qe_lc2 {elt tg iter tg1 iter1 : Expr} {ifs ifs1 : List Expr} {scope : Scope} {own : List (Str × Nat)} {vs1 : List Nat} {di di1 : DI} {g g1 : DG} {G G1 : TG} {t t1 : DT} {e : DE} (hc : X.calm = true) (hN : X.N.Nodup) (hi : QI X W tg iter di) (ok : BlkOk X.N X.env.scope scope own) (hv : ∀ i ∈ vs1, i ∈ own.map (·.2))
    (hg : ∀ (s : Shared) (H : Hp) (C : Addr) (cl : List (Str × Addr)) (fp : List Addr), PG (X.blk s H scope (compEnvC scope cl C X.env) fp) tg G) (lG : liftGo X.K (own.map (·.2)) g G)
    (ht : ∀ (s : Shared) (H : Hp) (C : Addr) (cl : List (Str × Addr)) (fp : List Addr), QTs (X.blk s H scope (compEnvC scope cl C X.env) fp) W0 ifs t)
    (hi1 : ∀ (s : Shared) (H : Hp) (C : Addr) (cl : List (Str × Addr)) (fp : List Addr), QI (X.blk s H scope (compEnvC scope cl C X.env) fp) W0 tg1 iter1 di1)
    (hg1 : ∀ (s : Shared) (H : Hp) (C : Addr) (cl : List (Str × Addr)) (fp : List Addr), PG (X.blk s H scope (compEnvC scope cl C X.env) fp) tg1 G1) (lG1 : liftGo X.K vs1 g1 G1)
    (ht1 : ∀ (s : Shared) (H : Hp) (C : Addr) (cl : List (Str × Addr)) (fp : List Addr), QTs (X.blk s H scope (compEnvC scope cl C X.env) fp) W0 ifs1 t1)
    (he : ∀ (s : Shared) (H : Hp) (C : Addr) (cl : List (Str × Addr)) (fp : List Addr), QE (X.blk s H scope (compEnvC scope cl C X.env) fp) W0 elt e)
    (hs : ∀ x, foldedSetIterable iter X.env x = pure x := by intro _; rfl) (hs1 : ∀ env x, foldedSetIterable iter1 env x = pure x := by intro _ _; rfl) :
    QE X W (.ListComp elt [⟨tg, iter, ifs, 0⟩, ⟨tg1, iter1, ifs1, 0⟩] scope pos) (dLc2 di g t di1 g1 t1 e (own.map (·.2)) vs1) :=
  ⟨PE_mono (pe_lc2 hc hN hi.pi ok hv hg (fun s H C cl fp => (ht s H C cl fp).pt) (fun s H C cl fp => (hi1 s H C cl fp).pi) hg1 (fun s H C cl fp => (ht1 s H C cl fp).pt) (fun s H C cl fp => (he s H C cl fp).pe) hs hs1) fun _ _ _ q => lift_lc2 lG lG1 q⟩
theorem qs_setLc2 {i : Nat} {y : Str} {py spos : Pos} {elt tg iter tg1 iter1 : Expr} {ifs ifs1 : List Expr} {scope : Scope} {own : List (Str × Nat)} {vs1 : List Nat} {di di1 : DI} {g g1 : DG} {G G1 : TG} {t t1 : DT} {e : DE} (hc : X.calm = true) (hN : X.N.Nodup) (hi : QI X W tg iter di) (ok : BlkOk X.N X.env.scope scope own) (hv : ∀ i ∈ vs1, i ∈ own.map (·.2))
    (hg : ∀ (s : Shared) (H : Hp) (C : Addr) (cl : List (Str × Addr)) (fp : List Addr), PG (X.blk s H scope (compEnvC scope cl C X.env) fp) tg G) (lG : liftGo X.K (own.map (·.2)) g G)
    (ht : ∀ (s : Shared) (H : Hp) (C : Addr) (cl : List (Str × Addr)) (fp : List Addr), QTs (X.blk s H scope (compEnvC scope cl C X.env) fp) W0 ifs t)
    (hi1 : ∀ (s : Shared) (H : Hp) (C : Addr) (cl : List (Str × Addr)) (fp : List Addr), QI (X.blk s H scope (compEnvC scope cl C X.env) fp) W0 tg1 iter1 di1)
    (hg1 : ∀ (s : Shared) (H : Hp) (C : Addr) (cl : List (Str × Addr)) (fp : List Addr), PG (X.blk s H scope (compEnvC scope cl C X.env) fp) tg1 G1) (lG1 : liftGo X.K vs1 g1 G1)
    (ht1 : ∀ (s : Shared) (H : Hp) (C : Addr) (cl : List (Str × Addr)) (fp : List Addr), QTs (X.blk s H scope (compEnvC scope cl C X.env) fp) W0 ifs1 t1)
    (he : ∀ (s : Shared) (H : Hp) (C : Addr) (cl : List (Str × Addr)) (fp : List Addr), QE (X.blk s H scope (compEnvC scope cl C X.env) fp) W0 elt e)
    (hsw : swapsWith (.ListComp elt [⟨tg, iter, ifs, 0⟩, ⟨tg1, iter1, ifs1, 0⟩] scope pos) (some (.Name y py)) spos.line X.env = pure true)
    (hy : X.N[i]? = some y := by rfl) (hyl : X.env.scope.names.lookup y = some .local := by rfl) (hs : ∀ x, foldedSetIterable iter X.env x = pure x := by intro _; rfl) (hs1 : ∀ env x, foldedSetIterable iter1 env x = pure x := by intro _ _; rfl) :
    QS X W (.Assign [.Name y py] (.ListComp elt [⟨tg, iter, ifs, 0⟩, ⟨tg1, iter1, ifs1, 0⟩] scope pos) spos) (sAsg (dLc2 di g t di1 g1 t1 e (own.map (·.2)) vs1) (gdName i)) :=
  ⟨PS_mono (ps_setLc2 hc hN hy hyl hsw hi.pi ok hv hg (fun s H C cl fp => (ht s H C cl fp).pt) (fun s H C cl fp => (hi1 s H C cl fp).pi) hg1 (fun s H C cl fp => (ht1 s H C cl fp).pt) (fun s H C cl fp => (he s H C cl fp).pe) hs hs1) fun Dn σ H ⟨s, L, dn, hs, hr, h, p⟩ =>
    lift_lc2 lG lG1 (Q := fun x H1 => gName i x σ H1 Dn.nx) (liftE_bind hs hr (p.lp hs hr) h fun d L1 x H1 q1 r1 hr1 k1 hs1 t1 lp1 => p.nx _ L1 _ H1 q1 (hs1.set r1 i) hr1 k1)⟩
/-! ### ranges as lists, tuples -/
def dListRg1 (da : DE) : DE := fun s L Q E => da s L (fun d L1 => match d with | .int n => RgOk 0 n ∧ ∀ p, L1 p = none → Q (.ref p) (upd L1 p (.lst (rngD 0 n.toNat))) | _ => False) E
def dListRg2 (da db : DE) : DE := fun s L Q E => da s L (fun d L1 => db s L1 (fun e L2 => match d, e with | .int a, .int b => RgOk a b ∧ ∀ p, L2 p = none → Q (.ref p) (upd L2 p (.lst (rngD a (b - a).toNat))) | _, _ => False) E) E
def dTupRg1 (da : DE) : DE := fun s L Q E => da s L (fun d L1 => match d with | .int n => RgOk 0 n ∧ Q (.tup (rngD 0 n.toNat)) L1 | _ => False) E
def dTupRg2 (da db : DE) : DE := fun s L Q E => da s L (fun d L1 => db s L1 (fun e L2 => match d, e with | .int a, .int b => RgOk a b ∧ Q (.tup (rngD a (b - a).toNat)) L2 | _, _ => False) E) E
theorem repL_rg {K : PySem.W.Frag} {H : Hp} (a b : Int) : RepL K H (rngD a (b - a).toNat) (rgV a b) := by
  have e1 : rngD a (b - a).toNat = ((List.range (b - a).toNat).map fun (i : Nat) => a + (i : Int)).map D.int := by unfold rngD; rw [List.map_map]; rfl
  have e2 : rgV a b = ((List.range (b - a).toNat).map fun (i : Nat) => a + (i : Int)).map V.int := by unfold rgV; rw [List.map_map]; rfl
  rw [e1, e2]; exact repL_of_ints _
theorem q_listRg1 {a : Expr} {da : DE} {p pos : Pos} {p2 pos2 : Pos} (hm : X.mg "list" = none) (hm2 : X.mg "range" = none) (ha : QE X W a da) (hc : X.calm = true := by rfl) (hg : Gl X "list" := by rfl) (hg2 : Gl X "range" := by rfl)
    (n1 : starEach [.Call (.Name "range" p2) [a] [] pos2] X.env = (false, eval (.Call (.Name "range" p2) [a] [] pos2) X.env) :: starEach [] X.env := by rfl) (n2 : starEach [a] X.env = (false, eval a X.env) :: starEach [] X.env := by rfl) :
    QE X W (.Call (.Name "list" p) [.Call (.Name "range" p2) [a] [] pos2] [] pos) (dListRg1 da) :=
  ⟨PE_mono (pe_listRg hc hg hm (prg_1 hg2 hm2 ha.pe n2) n1) fun σ H Q ⟨s, L, Qd, Ed, hs, hr, q, hq, lp⟩ => liftE_bind hs hr lp q fun d L1 x H1 q1 r1 hr1 k1 hs1 t1 lp1 => by
    cases d with
    | int n =>
      refine ⟨n, r1, q1.1, fun p hp => ?_⟩
      have rl : RepL X.K H1 (rngD 0 n.toNat) (rgV 0 n) := by have := repL_rg (K := X.K) (H := H1) 0 n; simpa using this
      exact hq _ _ _ _ (q1.2 p (hr1.free hp)) rfl (hr1.new hp rl).1 (k1.trans (hr1.new hp rl).2)
    | _ => exact False.elim q1⟩
theorem q_listRg2 {a b : Expr} {da db : DE} {p pos : Pos} {p2 pos2 : Pos} (hm : X.mg "list" = none) (hm2 : X.mg "range" = none) (ha : QE X W a da) (hb : QE X W b db) (hc : X.calm = true := by rfl) (hg : Gl X "list" := by rfl) (hg2 : Gl X "range" := by rfl)
    (n1 : starEach [.Call (.Name "range" p2) [a, b] [] pos2] X.env = (false, eval (.Call (.Name "range" p2) [a, b] [] pos2) X.env) :: starEach [] X.env := by rfl) (n2 : starEach [a, b] X.env = (false, eval a X.env) :: starEach [b] X.env := by rfl) (n3 : starEach [b] X.env = (false, eval b X.env) :: starEach [] X.env := by rfl) (n4 : (backTo pos2 (starEach [b] X.env)).any (·.1) = false := by rfl) :
    QE X W (.Call (.Name "list" p) [.Call (.Name "range" p2) [a, b] [] pos2] [] pos) (dListRg2 da db) :=
  ⟨PE_mono (pe_listRg hc hg hm (prg_2 hg2 hm2 ha.pe hb.pe n2 n3 n4) n1) fun σ H Q ⟨s, L, Qd, Ed, hs, hr, q, hq, lp⟩ => liftE_bind hs hr lp q fun d L1 x H1 q1 r1 hr1 k1 hs1 t1 lp1 => liftE_bind hs1 hr1 lp1 q1 fun e LB y H2 q2 r2 hr2 k2 hs2 t2 lp2 => by
    cases d with
    | int n =>
      cases e with
      | int m =>
        refine ⟨n, m, r1, r2, q2.1, fun p hp => ?_⟩
        have rl : RepL X.K H2 (rngD n (m - n).toNat) (rgV n m) := repL_rg n m
        exact hq _ _ _ _ (q2.2 p (hr2.free hp)) rfl (hr2.new hp rl).1 ((k1.trans k2).trans (hr2.new hp rl).2)
      | _ => exact False.elim q2
    | _ => exact False.elim q2⟩
theorem q_tupRg1 {a : Expr} {da : DE} {p pos : Pos} {p2 pos2 : Pos} (hm : X.mg "tuple" = none) (hm2 : X.mg "range" = none) (ha : QE X W a da) (hc : X.calm = true := by rfl) (hg : Gl X "tuple" := by rfl) (hg2 : Gl X "range" := by rfl)
    (n1 : starEach [.Call (.Name "range" p2) [a] [] pos2] X.env = (false, eval (.Call (.Name "range" p2) [a] [] pos2) X.env) :: starEach [] X.env := by rfl) (n2 : starEach [a] X.env = (false, eval a X.env) :: starEach [] X.env := by rfl) :
    QE X W (.Call (.Name "tuple" p) [.Call (.Name "range" p2) [a] [] pos2] [] pos) (dTupRg1 da) :=
  ⟨PE_mono (pe_tupRg hc hg hm (prg_1 hg2 hm2 ha.pe n2) n1) fun σ H Q ⟨s, L, Qd, Ed, hs, hr, q, hq, lp⟩ => liftE_bind hs hr lp q fun d L1 x H1 q1 r1 hr1 k1 hs1 t1 lp1 => by
    cases d with
    | int n =>
      refine ⟨n, r1, q1.1, fun p hp => ?_⟩
      have rl : RepL X.K H1 (rngD 0 n.toNat) (rgV 0 n) := by have := repL_rg (K := X.K) (H := H1) 0 n; simpa using this
      exact hq _ L1 _ _ q1.2 ⟨p, _, rfl, .inl (.inl upd_same), RepL.tk (HR.tk_new hp) _ _ rl⟩ (hr1.laid hp).1 (k1.trans (hr1.laid hp).2)
    | _ => exact False.elim q1⟩
end
/-! ### times -/
abbrev rRepAll (K : PySem.W.Frag) : R2 := fun x y H Q => rRep x y H Q ∨ rRepT K x y H Q
theorem op_repAll {X : Cx} : OpR X (binaryOp .Mult) (rRepAll X.K) := op_rep.or op_repT
def dRep : RD2 := fun x y L Q => match x, y with
  | .ref a, .int k => ∃ xs, L a = some (.lst xs) ∧ -(2 ^ 63) ≤ k ∧ k < 2 ^ 63 ∧ xs.length * k.toNat ≤ 16777216 ∧ ∀ p, L p = none → Q (.ref p) (upd L p (.lst (List.replicate k.toNat xs).flatten))
  | .tup xs, .int k => xs ≠ [] ∧ 2 ≤ k ∧ k ≤ 1000 ∧ xs.length ≤ 1000 ∧ Q (.tup (List.replicate k.toNat xs).flatten) L
  | _, _ => False
theorem opd_rep {K : PySem.W.Frag} : OpD K (rRepAll K) dRep := fun H L d e x y Qd Q rx ry hr q k => by
  cases e with
  | int n =>
    cases d with
    | ref a =>
      obtain ⟨xs, h1, b1, b2, hl, q⟩ := q
      obtain ⟨vs, g1, r1⟩ := hr a _ h1
      exact .inl ⟨a, n, vs, rx, ry, g1, b1, b2, by rw [← r1.length]; exact line_of hl, fun p hp => k _ _ _ _ (q p (hr.free hp)) rfl (hr.new hp (r1.rep _)).1 (hr.new hp (r1.rep _)).2⟩
    | tup xs =>
      obtain ⟨hne, b1, b2, hl, q⟩ := q
      obtain ⟨a, vs, e1, s1, r1⟩ := rx
      have hl2 := r1.length
      exact .inr ⟨a, n, vs, e1, ry, s1, by rintro rfl; exact hne (List.length_eq_zero_iff.mp hl2), b1, b2, by omega, fun p hp => k _ L _ _ q ⟨p, _, rfl, .inl (.inl upd_same), RepL.tk (HR.tk_new hp) _ _ (r1.rep _)⟩ (hr.laid hp).1 (hr.laid hp).2⟩
    | _ => exact False.elim q
  | _ => cases d <;> exact False.elim q
/-! ### str of an int -/
theorem strOk_ofString (s : String) : PyData.strOk (Str.ofString s) = true := by
  rw [Str.ofString_eq_toList]
  unfold PyData.strOk
  rw [Array.all_eq_true']
  intro c hc
  have hc : c ∈ (s.toList.map Char.toNat) := by simpa using hc
  obtain ⟨x, _, rfl⟩ := List.mem_map.mp hc
  have := x.valid
  have h : x.toNat < 0x110000 := by
    rcases this with h | ⟨_, h⟩
    · have : x.toNat < 0xd800 := h
      omega
    · exact h
  simpa using h
def dStrOf1 : D → DH → DK → Prop := fun d L Q => match d with
  | .int i => i.natAbs.log2 < 1920 ∧ Q (.str (Str.ofString (toString i))) L
  | _ => False
abbrev dStrOf : RDA := one dStrOf1
theorem cd_str {K : PySem.W.Frag} : CallD K (fun xs H Q => ∃ i : Int, xs = [.int i] ∧ i.natAbs.log2 < 1920 ∧ Q (.str (toString i)) H) dStrOf := cd_one fun H L d x Qd Q r hr q k => by
  cases d with
  | int i => cases (show x = _ from r); exact ⟨i, rfl, q.1, k _ L _ H q.2 ⟨rfl, strOk_ofString _⟩ hr .refl⟩
  | _ => exact False.elim q
end D2

set_option Elab.async false
set_option linter.all false
set_option maxRecDepth 100000
set_option maxHeartbeats 1000000
namespace D2
open PySem PySem.Spec PyProof.Rows L2
/-! ### the signs of a text -/
def signs (z : Str) : List D := z.cps.toList.map fun c => .str ⟨#[c]⟩
def dSgn (de : DE) : DI := fun s L Q E => de s L (fun d L1 => match d with
  | .str z => Q (signs z) (fun _ => True) L1
  | _ => False) E
theorem itOk_S {K : PySem.W.Frag} {z : Str} {ok : DH → Prop} {H0 : Hp} (hz : PyData.strOk z = true) : ItOk K (Its z) (signs z) ok H0 := fun i H L tk hr hok => by
  have hl : (signs z).length = z.cps.size := by simp [signs]
  refine ⟨fun e => by show z.cps.size ≤ i; omega, fun d e => ?_⟩
  have hi : i < z.cps.size := by
    have := (List.getElem?_eq_some_iff.mp e).1
    omega
  refine ⟨hi, fun x H' ⟨e3, c, hc, y⟩ => ?_⟩
  subst e3 y
  have e2 : d = .str ⟨#[c]⟩ := by
    unfold signs at e
    rw [List.getElem?_map] at e
    obtain ⟨c', h1, h2⟩ := Option.map_eq_some_iff.mp e
    have : c' = c := by
      rw [Array.getElem?_toList] at h1
      rw [hc] at h1
      exact (Option.some.inj h1).symm
    rw [← h2, this]
  subst e2
  refine ⟨⟨rfl, ?_⟩, hr, .refl, .refl _⟩
  unfold PyData.strOk at hz ⊢
  rw [Array.all_eq_true'] at *
  intro w hw
  have : w = c := by simpa using hw
  subst this
  exact hz w (Array.mem_of_getElem? hc)
theorem qi_sgn {X : Cx} {W : WX} {tg e : Expr} {de : DE} (h : QE X W e de) : QI X W tg e (dSgn de) :=
  ⟨PI_mono (pi_str h.pe) fun σ H R ⟨s, L, Qd, Ed, hs, hr, q, hq, lp⟩ => liftE_bind hs hr lp q fun d L1 x H1 q1 r1 hr1 k1 hs1 t1 lp1 => by
    cases d with
    | str z => exact ⟨z, r1.1, hq _ _ L1 H1 _ q1 hr1 k1 (itOk_S r1.2)⟩
    | _ => exact False.elim q1⟩
/-! ### a written tuple -/
theorem cst_tup {K : PySem.W.Frag} {mg : Str → Option Value} {h : Heap} {nm : Str} {A : Addr} {od : Option Addr} {its : Array Value} {n : Nat} {sl : Array (Option Value)} {xs : List V} {ds : List D} (X : K.In h) (G : h.Ns mainGlobals mg) (a : PySem.W.nsIn K mainGlobals nm = some (some (.ref A)))
    (l : K.lookup A = some ⟨.type "tuple", od, .seq its n, sl⟩) (hs : its.size ≤ sizeLine) (hv : Vals xs its.toList) (r : ∀ H, RepL K H ds xs) : ConstOk K mg nm (.tup ds) :=
  ⟨.ref A, _, PySem.W.mg_of X G a, rfl, fun H => ⟨A, xs, rfl, .inr ⟨_, its, n, l, rfl, rfl, hs, hv⟩, r H⟩⟩
theorem repL_cons {K : PySem.W.Frag} {H : Hp} {d : D} {ds : List D} {v : V} {vs : List V} (a : Rep K H d v) (b : RepL K H ds vs) : RepL K H (d :: ds) (v :: vs) := ⟨v, vs, rfl, a, b⟩
theorem repL_nil {K : PySem.W.Frag} {H : Hp} : RepL K H [] [] := rfl
/-! ### comprehensions that change nothing -/
theorem lcD_map {g : DG} {t : DT} {e : DE} {ok : DH → Prop} {s : DSt} {Q : List D → DH → Prop} (f : D → D) (L : DH) (hok : ok L) (ds : List D)
    (h : ∀ d, d ∈ ds → ∀ (Kt : D → DH → Prop), Kt (f d) L → ∀ Kf : DH → Prop, g d s L (fun s1 L1 => t s1 L1 (fun b L2 => if b = true then e s1 L2 Kt (fun _ _ _ => False) else Kf L2) (fun _ _ _ => False)) (fun _ _ _ => False))
    (acc : List D) (hl : acc.length + ds.length ≤ 16777216) (q : Q (acc ++ ds.map f) L) : lcD g t e ok s Q ds acc L :=
  lcD_pure (fun _ => true) f L hok ds (fun d hd Kt Kf h1 _ => h d hd Kt (h1 rfl) Kf) acc hl (by rw [List.filter_eq_self.mpr (fun _ _ => rfl)]; exact q)
theorem lc2D_map {g : DG} {t : DT} {di1 : DI} {g1 : DG} {t1 : DT} {e : DE} {vs1 : List Nat} {ok : DH → Prop} {s : DSt} {Q : List D → DH → Prop} (F : D → List D) (L : DH) (hok : ok L) : ∀ (ds : List D),
    (∀ d, d ∈ ds → ∀ (acc : List D) (Kt : List D → DH → Prop), (acc.length + (F d).length ≤ 16777216) → Kt (acc ++ F d) L → ∀ Kf : DH → Prop, g d s L (fun s1 L1 => t s1 L1 (fun b L2 => if b = true then di1 s1 L2 (fun ds1 ok1 L3 => lcD g1 t1 e ok1 (dwipe s1 vs1) Kt ds1 acc L3) (fun _ _ _ => False) else Kf L2) (fun _ _ _ => False)) (fun _ _ _ => False)) →
    ∀ acc, acc.length + (ds.flatMap F).length ≤ 16777216 → Q (acc ++ ds.flatMap F) L → lc2D g t di1 g1 t1 e vs1 ok s Q ds acc L
  | [], _, acc, _, q => ⟨hok, by simpa using q⟩
  | d :: ds, h, acc, hl, q => by
    refine ⟨hok, h d List.mem_cons_self acc _ (by simp at hl; omega) ?_ _⟩
    exact lc2D_map F L hok ds (fun d' hd => h d' (List.mem_cons_of_mem _ hd)) (acc ++ F d) (by simp at hl ⊢; omega) (by simpa [List.append_assoc] using q)
/-! ### data that can be compared -/
theorem pyL_succ {L : DH} : ∀ (n : Nat) (d : D) (p : PyData), pyL L n d = some p → pyL L (n + 1) d = some p := by
  have all : ∀ n, (∀ (d : D) (p : PyData), pyL L n d = some p → pyL L (n + 1) d = some p) → ∀ (ds : List D) (ps : List PyData), optAll (pyL L n) ds = some ps → optAll (pyL L (n + 1)) ds = some ps := by
    intro n ih ds
    induction ds with
    | nil => intro ps h; exact h
    | cons d ds ih2 =>
      intro ps h
      obtain ⟨y, ys, h1, h2, rfl⟩ := optAll_cons h
      rw [optAll_cons', ih d y h1, ih2 ys h2]; rfl
  intro n
  induction n with
  | zero =>
    intro d p h
    cases d with
    | tup ds => cases h
    | lro ds => cases h
    | ref a => cases h
    | _ => simpa using h
  | succ n ih =>
    intro d p h
    cases d with
    | tup ds =>
      rw [pyL_tup] at h ⊢
      obtain ⟨ps, h1, rfl⟩ := Option.map_eq_some_iff.mp h
      rw [all n ih ds ps h1]; rfl
    | lro ds =>
      rw [pyL_lro] at h ⊢
      obtain ⟨ps, h1, rfl⟩ := Option.map_eq_some_iff.mp h
      rw [all n ih ds ps h1]; rfl
    | ref a =>
      cases e : L a with
      | none =>
        have : (match L a with | some (.lst ds) => (optAll (pyL L n) ds).map PyData.list | none => none) = some p := h
        rw [e] at this; cases this
      | some o =>
        cases o with | lst ds =>
        rw [pyL_ref n e] at h
        rw [pyL_ref (n + 1) e]
        obtain ⟨ps, h1, rfl⟩ := Option.map_eq_some_iff.mp h
        rw [all n ih ds ps h1]; rfl
    | _ => simpa using h
theorem pyL_mono {L : DH} {n m : Nat} (h : n ≤ m) {d : D} {p : PyData} (e : pyL L n d = some p) : pyL L m d = some p := by
  induction m with
  | zero => cases Nat.le_zero.mp h; exact e
  | succ m ih =>
    rcases Nat.lt_or_ge n (m + 1) with g | g
    · exact pyL_succ m d p (ih (by omega))
    · have : n = m + 1 := by omega
      subst this; exact e
theorem pyL_le {L L' : DH} (l : Le L L') : ∀ (n : Nat) (d : D) (p : PyData), pyL L n d = some p → pyL L' n d = some p := by
  have all : ∀ n, (∀ (d : D) (p : PyData), pyL L n d = some p → pyL L' n d = some p) → ∀ (ds : List D) (ps : List PyData), optAll (pyL L n) ds = some ps → optAll (pyL L' n) ds = some ps := by
    intro n ih ds
    induction ds with
    | nil => intro ps h; exact h
    | cons d ds ih2 =>
      intro ps h
      obtain ⟨y, ys, h1, h2, rfl⟩ := optAll_cons h
      rw [optAll_cons', ih d y h1, ih2 ys h2]; rfl
  intro n
  induction n with
  | zero =>
    intro d p h
    cases d with
    | tup ds => cases h
    | lro ds => cases h
    | ref a => cases h
    | _ => simpa using h
  | succ n ih =>
    intro d p h
    cases d with
    | tup ds =>
      rw [pyL_tup] at h ⊢
      obtain ⟨ps, h1, rfl⟩ := Option.map_eq_some_iff.mp h
      rw [all n ih ds ps h1]; rfl
    | lro ds =>
      rw [pyL_lro] at h ⊢
      obtain ⟨ps, h1, rfl⟩ := Option.map_eq_some_iff.mp h
      rw [all n ih ds ps h1]; rfl
    | ref a =>
      cases e : L a with
      | none =>
        have : (match L a with | some (.lst ds) => (optAll (pyL L n) ds).map PyData.list | none => none) = some p := h
        rw [e] at this; cases this
      | some o =>
        cases o with | lst ds =>
        rw [pyL_ref n e] at h
        rw [pyL_ref n (l a _ e)]
        obtain ⟨ps, h1, rfl⟩ := Option.map_eq_some_iff.mp h
        rw [all n ih ds ps h1]; rfl
    | _ => simpa using h
/-- a thing as the program's tests may meet it: n tuples deep, texts not too long, lists that are known -/
def Tame (L : DH) : Nat → D → Prop
  | _, .str z => z.length ≤ 16777216
  | 0, .tup _ => False
  | n + 1, .tup ds => ds.length ≤ 16777216 ∧ ∀ d, d ∈ ds → Tame L n d
  | _, .ref a => ∃ p, pyL L 30 (.ref a) = some p
  | _, .lro _ => False
  | _, _ => True
theorem Tame.le {L L' : DH} (l : Le L L') : ∀ {n : Nat} {d : D}, Tame L n d → Tame L' n d := by
  intro n
  induction n with
  | zero =>
    intro d h
    cases d with
    | ref a => obtain ⟨p, e⟩ := h; exact ⟨p, pyL_le l _ _ _ e⟩
    | lro a => exact h.elim
    | tup _ => exact h.elim
    | str z => exact h
    | _ => trivial
  | succ n ih =>
    intro d h
    cases d with
    | ref a => obtain ⟨p, e⟩ := h; exact ⟨p, pyL_le l _ _ _ e⟩
    | lro a => exact h.elim
    | tup ds => exact ⟨h.1, fun d hd => ih (h.2 d hd)⟩
    | str z => exact h
    | _ => trivial
theorem Tame.py {L : DH} : ∀ {n : Nat} {d : D}, Tame L n d → ∃ p, pyL L (30 + n) d = some p := by
  intro n
  induction n with
  | zero =>
    intro d h
    cases d with
    | ref a => exact h
    | lro a => exact h.elim
    | tup _ => exact h.elim
    | str z => exact ⟨_, pyL_str _ _⟩
    | non => exact ⟨_, pyL_non _⟩
    | bl b => exact ⟨_, pyL_bl _ _⟩
    | int i => exact ⟨_, pyL_int _ _⟩
  | succ n ih =>
    intro d h
    cases d with
    | ref a => obtain ⟨p, e⟩ := h; exact ⟨p, pyL_mono (by omega) e⟩
    | lro a => exact h.elim
    | tup ds =>
      obtain ⟨_, h⟩ := h
      have : ∀ ds : List D, (∀ d, d ∈ ds → Tame L n d) → ∃ ps, optAll (pyL L (30 + n)) ds = some ps := by
        intro ds
        induction ds with
        | nil => exact fun _ => ⟨[], rfl⟩
        | cons d ds ih2 =>
          intro h
          obtain ⟨p, e⟩ := ih (h d List.mem_cons_self)
          obtain ⟨ps, e2⟩ := ih2 fun d' hd => h d' (List.mem_cons_of_mem _ hd)
          exact ⟨p :: ps, by rw [optAll_cons', e, e2]; rfl⟩
      obtain ⟨ps, e⟩ := this ds h
      exact ⟨_, by rw [show 30 + (n + 1) = (30 + n) + 1 from rfl, pyL_tup, e]; rfl⟩
    | str z => exact ⟨_, pyL_str _ _⟩
    | non => exact ⟨_, pyL_non _⟩
    | bl b => exact ⟨_, pyL_bl _ _⟩
    | int i => exact ⟨_, pyL_int _ _⟩
theorem Tame.py60 {L : DH} {n : Nat} {d : D} (h : Tame L n d) (hn : n ≤ 30) : ∃ p, pyL L 60 d = some p := by
  obtain ⟨p, e⟩ := h.py
  exact ⟨p, pyL_mono (by omega) e⟩
theorem Tame.known {L : DH} {n : Nat} {d : D} (h : Tame L n d) : Known L d := by
  cases d with
  | ref a =>
    have h : ∃ p, pyL L 30 (.ref a) = some p := by cases n <;> exact h
    obtain ⟨p, e⟩ := h
    cases q : L a with
    | none =>
      have : (match L a with | some (.lst ds) => (optAll (pyL L 29) ds).map PyData.list | none => none) = some p := e
      rw [q] at this; cases this
    | some o => cases o with | lst xs => exact ⟨xs, q⟩
  | _ => trivial
theorem Tame.mem {L : DH} {n : Nat} {ds : List D} (h : Tame L (n + 1) (.tup ds)) {d : D} (hd : d ∈ ds) : Tame L n d := h.2 d hd
theorem Tame.up {L : DH} : ∀ {n : Nat} {d : D}, Tame L n d → Tame L (n + 1) d := by
  intro n
  induction n with
  | zero =>
    intro d h
    cases d with
    | tup _ => exact h.elim
    | _ => exact h
  | succ n ih =>
    intro d h
    cases d with
    | tup ds => exact ⟨h.1, fun d hd => ih (h.2 d hd)⟩
    | _ => exact h
def isStr (d : D) (z : Str) : Bool := match d with
  | .str x => x == z
  | _ => false
theorem eqD_tame {L : DH} {n : Nat} {d : D} (h : Tame L n d) (hn : n ≤ 30) (z : Str) : eqD L d (.str z) = some (isStr d z) := by
  obtain ⟨p, e⟩ := h.py60 hn
  rw [eqD_of e (pyL_str _ _)]
  cases d with
  | str x => rw [pyL_str] at e; cases e; rfl
  | non => rw [pyL_non] at e; cases e; rfl
  | bl b => rw [pyL_bl] at e; cases e; rfl
  | int i => rw [pyL_int] at e; cases e; rfl
  | tup ds =>
    rw [show (60 : Nat) = 59 + 1 from rfl, pyL_tup] at e
    obtain ⟨ps, _, rfl⟩ := Option.map_eq_some_iff.mp e
    rfl
  | lro ds => cases n <;> exact h.elim
  | ref a =>
    obtain ⟨xs, hx⟩ := h.known
    rw [show (60 : Nat) = 59 + 1 from rfl, pyL_ref 59 hx] at e
    obtain ⟨ps, _, rfl⟩ := Option.map_eq_some_iff.mp e
    rfl
end D2

set_option Elab.async false
set_option linter.all false
set_option maxRecDepth 100000
set_option maxHeartbeats 3200000
namespace D2
open PySem PySem.Spec PyProof.Rows L2
/-! ### the different ones of a row, in order -/
def memB {α : Type} [DecidableEq α] (l : List α) (x : α) : Bool := l.any fun y => decide (y = x)
theorem memB_iff {α : Type} [DecidableEq α] {l : List α} {x : α} : memB l x = true ↔ x ∈ l := by
  unfold memB
  rw [List.any_eq_true]
  constructor
  · rintro ⟨y, h1, h2⟩
    rw [← of_decide_eq_true h2]; exact h1
  · intro h
    exact ⟨x, h, decide_eq_true rfl⟩
theorem memB_no {α : Type} [DecidableEq α] {l : List α} {x : α} (h : ¬ memB l x = true) : x ∉ l := fun z => h (memB_iff.mpr z)
def ddA {α : Type} [DecidableEq α] (acc : List α) : List α → List α
  | [] => acc
  | x :: xs => if memB acc x = true then ddA acc xs else ddA (acc ++ [x]) xs
def dd {α : Type} [DecidableEq α] (xs : List α) : List α := ddA [] xs
section
variable {α : Type} [DecidableEq α]
theorem ddA_append (acc xs ys : List α) : ddA acc (xs ++ ys) = ddA (ddA acc xs) ys := by
  induction xs generalizing acc with
  | nil => rfl
  | cons x xs ih =>
    simp only [List.cons_append, ddA]
    split <;> exact ih _
theorem ddA_mem (acc xs : List α) (y : α) : y ∈ ddA acc xs ↔ y ∈ acc ∨ y ∈ xs := by
  induction xs generalizing acc with
  | nil => simp [ddA]
  | cons x xs ih =>
    simp only [ddA]
    split
    · rename_i h
      have h := memB_iff.mp h
      rw [ih]
      simp only [List.mem_cons]
      constructor
      · rintro (h1 | h1)
        · exact .inl h1
        · exact .inr (.inr h1)
      · rintro (h1 | h1 | h1)
        · exact .inl h1
        · subst h1; exact .inl h
        · exact .inr h1
    · rw [ih]
      simp only [List.mem_append, List.mem_cons, List.not_mem_nil, or_false]
      constructor
      · rintro ((h1 | h1) | h1)
        · exact .inl h1
        · exact .inr (.inl h1)
        · exact .inr (.inr h1)
      · rintro (h1 | h1 | h1)
        · exact .inl (.inl h1)
        · exact .inl (.inr h1)
        · exact .inr h1
theorem dd_mem (xs : List α) (y : α) : y ∈ dd xs ↔ y ∈ xs := by unfold dd; rw [ddA_mem]; simp
theorem ddA_len (acc xs : List α) : (ddA acc xs).length ≤ acc.length + xs.length := by
  induction xs generalizing acc with
  | nil => simp [ddA]
  | cons x xs ih =>
    simp only [ddA]
    split
    · have := ih acc; simp; omega
    · have := ih (acc ++ [x]); simp at this ⊢; omega
theorem dd_len (xs : List α) : (dd xs).length ≤ xs.length := by have := ddA_len [] xs; unfold dd; simpa using this
theorem ddA_eq (acc xs : List α) : (ddA acc xs).length = acc.length + xs.length ↔ xs.Nodup ∧ ∀ x, x ∈ xs → x ∉ acc := by
  induction xs generalizing acc with
  | nil => simp [ddA]
  | cons x xs ih =>
    simp only [ddA]
    split
    · rename_i h
      have h := memB_iff.mp h
      have := ddA_len acc xs
      constructor
      · intro e; simp at e; omega
      · rintro ⟨_, h2⟩; exact absurd h (h2 x List.mem_cons_self)
    · rename_i h
      have h := memB_no h
      have e1 : (ddA (acc ++ [x]) xs).length = acc.length + (x :: xs).length ↔ (ddA (acc ++ [x]) xs).length = (acc ++ [x]).length + xs.length := by simp; omega
      rw [e1, ih]
      simp only [List.nodup_cons, List.mem_cons, List.mem_append, List.not_mem_nil, or_false]
      constructor
      · rintro ⟨h1, h2⟩
        refine ⟨⟨fun hx => h2 x hx (.inr rfl), h1⟩, fun y hy => ?_⟩
        rcases hy with rfl | hy
        · exact h
        · exact fun z => h2 y hy (.inl z)
      · rintro ⟨⟨h1, h2⟩, h3⟩
        refine ⟨h2, fun y hy => ?_⟩
        rintro (z | z)
        · exact h3 y (.inr hy) z
        · subst z; exact h1 hy
theorem dd_eq (xs : List α) : (dd xs).length = xs.length ↔ xs.Nodup := by
  have := ddA_eq [] xs
  unfold dd
  simpa using this
theorem dd_snoc (xs : List α) (x : α) : dd (xs ++ [x]) = if memB (dd xs) x = true then dd xs else dd xs ++ [x] := by
  unfold dd; rw [ddA_append]; simp only [ddA]
end
theorem key_beq : ∀ (a b : Key), (a == b) = decide (a = b)
  | .inl i, .inl j => by
    show (i == j) = _
    rw [key_ll]
  | .inr i, .inr j => by
    show (i == j) = _
    rw [key_rr, Bool.eq_iff_iff]
    simp
  | .inl i, .inr j => by rw [key_lr]; rfl
  | .inr i, .inl j => by rw [key_rl]; rfl
instance keyLawful : LawfulBEq Key where
  eq_of_beq {a b} h := by rw [key_beq] at h; exact of_decide_eq_true h
  rfl {a} := by rw [key_beq]; exact decide_eq_true rfl
section
variable {prog : Program} {w : World} {A : Around} {R : Result → Shared → Prop} {I : Addr} {fp wr : List Addr} {G : Array GenState → Array GenState → Prop} {n : Nat} {P : Nat → Value → Prop} {Sx : Nat → Shared → Prop}
/-- the loop that puts key after key into the set at B -/
theorem keysLoop (W : WalksS prog w A.in1 I fp wr G n P Sx) (B : Addr) (nB : B ∉ fp) (ks : List Key) (lk : ks.length = n) (room : n + 1 < scanBound) (val : ∀ i v, P i v → ∃ k, ks[i]? = some k ∧ keyIs k v = true) :
    ∀ (d i : Nat) (s : Shared), n - i = d → i ≤ n → Sx i s → s.heap.SetOf (mixKind prog w) B (memB (dd (ks.take i))) (dd (ks.take i)).length →
      (∀ z, Moved (B :: wr) G s z → z.heap.SetOf (mixKind prog w) B (memB (dd (ks.take n))) (dd (ks.take n)).length → R (.ok (.ret .none)) z) → codeAny (model prog w) A (.builtin "set.update.loop" ⟨[.ref B, .ref I], []⟩) R s := by
  have nw : B ∉ wr := fun h => nB (W.sub _ h)
  have more : ∀ b ∈ wr, b ∈ B :: wr := fun b hb => List.mem_cons_of_mem _ hb
  intro d
  induction d with
  | zero =>
    intro i s hd hi st hS fin
    obtain rfl : i = n := by omega
    refine (codeAny_builtin PyProof.Rows.F.entry_set_update_loop ?_)
    rw [Around.under_plainId PyProof.Rows.F.plain_set_update_loop (_)]
    show wpAny (_) A.in1 (pyNext (.ref I) >>= _) _ _ s
    refine wpAny_bind (W.done s _ _ st fun z mv => ?_)
    show wpAny (_) A.in1 (ret Value.none) _ _ z
    refine wpAny_pure (fin z (mv.mono more) ?_)
    obtain ⟨o, es, ep, t, ho, r⟩ := hS
    exact ⟨o, es, ep, t, mv.heap B _ nw ho, r⟩
  | succ d ih =>
    intro i s hd hi st hS fin
    have lt : i < n := by omega
    refine (codeAny_builtin PyProof.Rows.F.entry_set_update_loop ?_)
    rw [Around.under_plainId PyProof.Rows.F.plain_set_update_loop (_)]
    show wpAny (_) A.in1 (pyNext (.ref I) >>= _) _ _ s
    refine wpAny_bind (W.item i s _ _ lt st fun v z pv st2 mv => ?_)
    obtain ⟨k, hk, kv⟩ := val i v pv
    have hz : z.heap.SetOf (mixKind prog w) B (memB (dd (ks.take i))) (dd (ks.take i)).length := by
      obtain ⟨o, es, ep, t, ho, r⟩ := hS
      exact ⟨o, es, ep, t, mv.heap B _ nw ho, r⟩
    have few : (dd (ks.take i)).length ≤ i := Nat.le_trans (dd_len _) (by rw [List.length_take]; exact Nat.min_le_left _ _)
    have ki : (mixKind prog w).is k v = true := kv
    show wpAny (_) A.in1 (holding [v] (setAdd B v) >>= _) _ _ z
    refine wpAny_bind (wpAny_holding ?_)
    unfold setAdd
    refine (wpAny_holding ?_)
    refine wpAny_bind ((mixKind prog w).pyHash ki ?_)
    refine wpAny_setAddHashed_of (knd := mixKind prog w) (s := { z with toks := z.toks + 1 }) ki (by rcases keyIs_shape kv with ⟨i, t, rfl, rfl⟩ | ⟨x, t, rfl, rfl⟩ <;> rfl) hz (by omega) fun h2 sb S2 => ?_
    have tk : ks.take (i + 1) = ks.take i ++ [k] := by rw [List.take_succ, hk]; rfl
    have S3 : h2.SetOf (mixKind prog w) B (memB (dd (ks.take (i + 1)))) (dd (ks.take (i + 1))).length := by
      refine SetOf_congr S2 (fun j => ?_) ?_
      · rw [tk, dd_snoc]
        by_cases m : memB (dd (ks.take i)) k = true
        · rw [if_pos m]
          by_cases e : j = k
          · subst e; rw [m]; rfl
          · rw [decide_eq_false e, Bool.or_false]
        · rw [if_neg m]
          unfold memB
          rw [List.any_append]
          simp [eq_comm]
      · rw [tk, dd_snoc]
        by_cases m : memB (dd (ks.take i)) k = true
        · rw [if_pos m, if_pos m]
        · rw [if_neg m, if_neg m, List.length_append]; rfl
    refine wpAny_pure ⟨plainId_quiet PyProof.Rows.F.plain_set_update_loop (_), ih (i + 1) _ (by omega) lt (W.frame _ z _ _ st2 (Nat.le_succ _) fun b hb o e => ?_) S3 fun y my hy => ?_⟩
    · rw [sb.2 b (fun h : b = B => nB (by rw [← h]; exact hb))]; exact e
    · refine fin y (Moved.trans W.gtrans ((mv.mono more).then_heap (Nat.le_succ _) fun b o hb e => ?_) my) hy
      rw [sb.2 b (fun h : b = B => hb (by rw [h]; exact List.mem_cons_self))]; exact e
end
section
variable {prog : Program} {w : World} {A : Around} {E : Value → Shared → Prop} {s : Shared}
/-- set(a list) -/
theorem set_of_list {l : Addr} {items : Array Value} {ks : List Key} {Q : Value → Shared → Prop} (hh : A.handled = none) (src : s.heap.IsList l items) (val : ∀ (i : Nat) (v : Value), items[i]? = some v → ∃ k, ks[i]? = some k ∧ keyIs k v = true) (lk : ks.length = items.size) (room : ks.length + 1 < scanBound)
    (h : ∀ (hp : Heap) (tk : Nat), hp.SetOf (mixKind prog w) s.heap.objs.size (memB (dd ks)) (dd ks).length → (∀ b o, b < s.heap.objs.size → s.heap.get? b = some o → hp.get? b = some o) → Q (.ref s.heap.objs.size) { s with heap := hp, toks := tk }) :
    wpAny (model prog w) A (call (.type "set") [.ref l]) Q E s := by
  obtain ⟨cc, tl, mro⟩ := PySem.F.called_set.mro
  have made := PySem.F.called_set.made
  have subc := PySem.F.called_set.sub
  refine (wpAny_call (codeAny_of_tree ?_))
  show wpAny (_) _ (callAny (.type "set") _) _ _ _
  refine (wpAny_pure ⟨Code.quiet_builtin _ (by decide +kernel), codeAny_builtin PySem.F.entry_type_call ?_⟩)
  rw [(Around.under_plain (weight_type_call_type "set" [.ref l] []) rfl)]
  have f1 := PySem.F.called_set.notType
  have f2 := PySem.F.called_set.canCreate
  have f3 := PySem.F.typeCall_set_1 (.ref l)
  repeat (any_goals (first | assumption | wp_step))
  refine codeAny_mono (code_set_new_1 (.ref l) (E := E) (Q₁ := fun ob z => ∃ fl : Bool, ob = .ref s.heap.objs.size ∧ z = { s with heap := s.heap.push { cls := .type "set", dict := none, data := .set #[] 0 (.fresh 0 0 fl) } }) fun fl => ⟨fl, rfl, rfl⟩) fun r z hr => ?_
  cases r with
  | error e => exact hr
  | ok flow =>
    cases flow with
    | ret ob =>
      obtain ⟨fl, rfl, rfl⟩ := hr
      have gS : (s.heap.push { cls := .type "set", dict := none, data := .set #[] 0 (.fresh 0 0 fl) }).get? s.heap.objs.size = some { cls := .type "set", dict := none, data := .set #[] 0 (.fresh 0 0 fl) } := Heap.get?_push_size _ rfl
      have tS : Shared.TypeIs { s with heap := s.heap.push { cls := .type "set", dict := none, data := .set #[] 0 (.fresh 0 0 fl) } } (.ref s.heap.objs.size) "set" := ⟨_, gS, rfl⟩
      have i1 := PySem.F.called_set.init.lookup
      have i2 := PySem.F.called_set.init.bind (.ref s.heap.objs.size)
      repeat (any_goals (first | assumption | wp_step))
      refine codeAny_mono (codeAny_call_builtin (R := wants (fun r z => r = .none ∧ ∃ hp tk, z = { s with heap := hp, toks := tk } ∧ hp.SetOf (mixKind prog w) s.heap.objs.size (memB (dd ks)) (dd ks).length ∧
          (∀ b o, b < s.heap.objs.size → s.heap.get? b = some o → hp.get? b = some o)) E) PySem.F.called_set.init.plain PySem.F.entry_set_init (check_set_init_1 tS ?_)) fun r z hr => ?_
      · obtain ⟨oz, hoz, hcl, nl, hdl⟩ := src
        obtain ⟨c0, d0, dt, sl⟩ := oz
        simp only at hcl hdl
        subst hcl; subst hdl
        have hoz2 : (s.heap.push { cls := .type "set", dict := none, data := .set #[] 0 (.fresh 0 0 fl) }).get? l = some { cls := .type "list", dict := d0, data := .seq items nl, slots := sl } := Heap.get?_push_of_some _ hoz
        have g1 := PySem.F.sub_list_set
        have g2 := PySem.F.sub_list_frozenset
        have g3 : (Value.type "list" == Value.type "dict") = false := by decide
        have sz1 : (s.heap.push { cls := .type "set", dict := none, data := .set #[] 0 (.fresh 0 0 fl) }).IsList l items := ⟨_, hoz2, rfl, nl, rfl⟩
        unfold Builtin.«set.__init__» noKeywords Builtin.Frozenset.updateFrom
        generalize hPI : pyIter = PI
        wp_walk
        subst hPI
        refine wpAny_pyIter_list sz1 ?_
        refine wpAny_bind (wpAny_runValue ?_)
        have lS : l < s.heap.objs.size := Heap.lt_size hoz
        have h3 : A.in1.in1.in1.handled = none := by simp [hh]
        have lne : l ≠ (s.heap.push { cls := .type "set", dict := none, data := .set #[] 0 (.fresh 0 0 fl) }).objs.size := by rw [Heap.size_push]; exact Nat.ne_of_lt (Nat.lt_succ_of_lt lS)
        have nf : s.heap.objs.size ∉ [(s.heap.push { cls := .type "set", dict := none, data := .set #[] 0 (.fresh 0 0 fl) }).objs.size, l] := by
          rw [Heap.size_push]; simp only [List.mem_cons, List.mem_singleton, List.not_mem_nil, or_false, not_or]
          exact ⟨Nat.ne_of_lt (Nat.lt_succ_self _), Nat.ne_of_gt lS⟩
        refine keysLoop ((Walks.list h3 _ l lne items).toS) s.heap.objs.size nf ks lk (by rw [← lk]; exact room) val (items.size - 0) 0 _ (by omega) (Nat.zero_le _) ⟨⟨_, Heap.get?_push_size _ rfl, rfl, rfl⟩, (sz1.push _)⟩ ?hS0 ?hR
        case hS0 =>
          have gg : ((s.heap.push { cls := .type "set", dict := none, data := .set #[] 0 (.fresh 0 0 fl) }).push { cls := .type "list_iterator", data := .fields #[.ref l, .int 0 0] }).get? s.heap.objs.size = some { cls := .type "set", dict := none, data := .set #[] 0 (.fresh 0 0 fl) } := Heap.get?_push_of_some _ gS
          exact PyProof.Rows.SetOf_congr ((PyProof.Rows.setObjOf_fresh (knd := mixKind prog w) fl).setOf gg (by unfold scanBound; omega)) (fun _ => rfl) rfl
        case hR =>
          intro z mv hz
          obtain ⟨hp, g', d', tk, os'⟩ := z
          have e1 : g' = s.gens := mv.gens
          have e2 : d' = s.drawn := mv.drawn
          have e3 : os' = s.os := mv.os
          subst e1; subst e2; subst e3
          show wpAny _ _ _ _ _ _
          refine wpAny_pure ?_
          show wpAny (_) _ (ret Value.none) _ _ _
          rw [← lk, List.take_length] at hz
          refine wpAny_pure ⟨rfl, hp, tk, rfl, hz, fun b o hb e => ?_⟩
          have b1 : b ≠ s.heap.objs.size := Nat.ne_of_lt hb
          have b2 : b ≠ (s.heap.push { cls := .type "set", dict := none, data := .set #[] 0 (.fresh 0 0 fl) }).objs.size := by rw [Heap.size_push]; exact Nat.ne_of_lt (Nat.lt_succ_of_lt hb)
          exact mv.heap b o (by simp only [List.mem_cons, List.mem_singleton, List.not_mem_nil, or_false, not_or]; exact ⟨b1, b2⟩) (Heap.get?_push_of_some _ (Heap.get?_push_of_some _ e))
      · cases r with
        | error e => exact hr
        | ok flow =>
          cases flow with
          | ret r =>
            obtain ⟨rfl, hp, tk, rfl, hz, kk⟩ := hr
            repeat (any_goals (first | assumption | wp_step))
            exact h _ _ hz kk
          | _ => exact hr.elim
    | _ => exact hr.elim
end
section
variable {prog : Program} {w : World} {A : Around} {E : Value → Shared → Prop} {s : Shared}
/-- set(a tuple) -/
theorem set_of_tuple {l : Addr} {items : Array Value} {ks : List Key} {Q : Value → Shared → Prop} (hh : A.handled = none) (src : s.heap.IsTuple l items) (val : ∀ (i : Nat) (v : Value), items[i]? = some v → ∃ k, ks[i]? = some k ∧ keyIs k v = true) (lk : ks.length = items.size) (room : ks.length + 1 < scanBound)
    (h : ∀ (hp : Heap) (tk : Nat), hp.SetOf (mixKind prog w) s.heap.objs.size (memB (dd ks)) (dd ks).length → (∀ b o, b < s.heap.objs.size → s.heap.get? b = some o → hp.get? b = some o) → Q (.ref s.heap.objs.size) { s with heap := hp, toks := tk }) :
    wpAny (model prog w) A (call (.type "set") [.ref l]) Q E s := by
  obtain ⟨cc, tl, mro⟩ := PySem.F.called_set.mro
  have made := PySem.F.called_set.made
  have subc := PySem.F.called_set.sub
  refine (wpAny_call (codeAny_of_tree ?_))
  show wpAny (_) _ (callAny (.type "set") _) _ _ _
  refine (wpAny_pure ⟨Code.quiet_builtin _ (by decide +kernel), codeAny_builtin PySem.F.entry_type_call ?_⟩)
  rw [(Around.under_plain (weight_type_call_type "set" [.ref l] []) rfl)]
  have f1 := PySem.F.called_set.notType
  have f2 := PySem.F.called_set.canCreate
  have f3 := PySem.F.typeCall_set_1 (.ref l)
  repeat (any_goals (first | assumption | wp_step))
  refine codeAny_mono (code_set_new_1 (.ref l) (E := E) (Q₁ := fun ob z => ∃ fl : Bool, ob = .ref s.heap.objs.size ∧ z = { s with heap := s.heap.push { cls := .type "set", dict := none, data := .set #[] 0 (.fresh 0 0 fl) } }) fun fl => ⟨fl, rfl, rfl⟩) fun r z hr => ?_
  cases r with
  | error e => exact hr
  | ok flow =>
    cases flow with
    | ret ob =>
      obtain ⟨fl, rfl, rfl⟩ := hr
      have gS : (s.heap.push { cls := .type "set", dict := none, data := .set #[] 0 (.fresh 0 0 fl) }).get? s.heap.objs.size = some { cls := .type "set", dict := none, data := .set #[] 0 (.fresh 0 0 fl) } := Heap.get?_push_size _ rfl
      have tS : Shared.TypeIs { s with heap := s.heap.push { cls := .type "set", dict := none, data := .set #[] 0 (.fresh 0 0 fl) } } (.ref s.heap.objs.size) "set" := ⟨_, gS, rfl⟩
      have i1 := PySem.F.called_set.init.lookup
      have i2 := PySem.F.called_set.init.bind (.ref s.heap.objs.size)
      repeat (any_goals (first | assumption | wp_step))
      refine codeAny_mono (codeAny_call_builtin (R := wants (fun r z => r = .none ∧ ∃ hp tk, z = { s with heap := hp, toks := tk } ∧ hp.SetOf (mixKind prog w) s.heap.objs.size (memB (dd ks)) (dd ks).length ∧
          (∀ b o, b < s.heap.objs.size → s.heap.get? b = some o → hp.get? b = some o)) E) PySem.F.called_set.init.plain PySem.F.entry_set_init (check_set_init_1 tS ?_)) fun r z hr => ?_
      · obtain ⟨oz, hoz, hcl, nl, hdl⟩ := src
        obtain ⟨c0, d0, dt, sl⟩ := oz
        simp only at hcl hdl
        subst hcl; subst hdl
        have hoz2 : (s.heap.push { cls := .type "set", dict := none, data := .set #[] 0 (.fresh 0 0 fl) }).get? l = some { cls := .type "tuple", dict := d0, data := .seq items nl, slots := sl } := Heap.get?_push_of_some _ hoz
        have g1 := PySem.F.sub_tuple_set
        have g2 := PySem.F.sub_tuple_frozenset
        have g3 : (Value.type "tuple" == Value.type "dict") = false := by decide
        have sz1 : (s.heap.push { cls := .type "set", dict := none, data := .set #[] 0 (.fresh 0 0 fl) }).IsTuple l items := ⟨_, hoz2, rfl, nl, rfl⟩
        unfold Builtin.«set.__init__» noKeywords Builtin.Frozenset.updateFrom
        generalize hPI : pyIter = PI
        wp_walk
        subst hPI
        refine wpAny_pyIter_tuple sz1 ?_
        refine wpAny_bind (wpAny_runValue ?_)
        have lS : l < s.heap.objs.size := Heap.lt_size hoz
        have h3 : A.in1.in1.in1.handled = none := by simp [hh]
        have lne : l ≠ (s.heap.push { cls := .type "set", dict := none, data := .set #[] 0 (.fresh 0 0 fl) }).objs.size := by rw [Heap.size_push]; exact Nat.ne_of_lt (Nat.lt_succ_of_lt lS)
        have nf : s.heap.objs.size ∉ [(s.heap.push { cls := .type "set", dict := none, data := .set #[] 0 (.fresh 0 0 fl) }).objs.size, l] := by
          rw [Heap.size_push]; simp only [List.mem_cons, List.mem_singleton, List.not_mem_nil, or_false, not_or]
          exact ⟨Nat.ne_of_lt (Nat.lt_succ_self _), Nat.ne_of_gt lS⟩
        refine keysLoop ((Walks.tuple h3 _ l lne items).toS) s.heap.objs.size nf ks lk (by rw [← lk]; exact room) val (items.size - 0) 0 _ (by omega) (Nat.zero_le _) ⟨⟨_, Heap.get?_push_size _ rfl, rfl, rfl⟩, (sz1.push _)⟩ ?hS0 ?hR
        case hS0 =>
          have gg : ((s.heap.push { cls := .type "set", dict := none, data := .set #[] 0 (.fresh 0 0 fl) }).push { cls := .type "tuple_iterator", data := .fields #[.ref l, .int 0 0] }).get? s.heap.objs.size = some { cls := .type "set", dict := none, data := .set #[] 0 (.fresh 0 0 fl) } := Heap.get?_push_of_some _ gS
          exact PyProof.Rows.SetOf_congr ((PyProof.Rows.setObjOf_fresh (knd := mixKind prog w) fl).setOf gg (by unfold scanBound; omega)) (fun _ => rfl) rfl
        case hR =>
          intro z mv hz
          obtain ⟨hp, g', d', tk, os'⟩ := z
          have e1 : g' = s.gens := mv.gens
          have e2 : d' = s.drawn := mv.drawn
          have e3 : os' = s.os := mv.os
          subst e1; subst e2; subst e3
          show wpAny _ _ _ _ _ _
          refine wpAny_pure ?_
          show wpAny (_) _ (ret Value.none) _ _ _
          rw [← lk, List.take_length] at hz
          refine wpAny_pure ⟨rfl, hp, tk, rfl, hz, fun b o hb e => ?_⟩
          have b1 : b ≠ s.heap.objs.size := Nat.ne_of_lt hb
          have b2 : b ≠ (s.heap.push { cls := .type "set", dict := none, data := .set #[] 0 (.fresh 0 0 fl) }).objs.size := by rw [Heap.size_push]; exact Nat.ne_of_lt (Nat.lt_succ_of_lt hb)
          exact mv.heap b o (by simp only [List.mem_cons, List.mem_singleton, List.not_mem_nil, or_false, not_or]; exact ⟨b1, b2⟩) (Heap.get?_push_of_some _ (Heap.get?_push_of_some _ e))
      · cases r with
        | error e => exact hr
        | ok flow =>
          cases flow with
          | ret r =>
            obtain ⟨rfl, hp, tk, rfl, hz, kk⟩ := hr
            repeat (any_goals (first | assumption | wp_step))
            exact h _ _ hz kk
          | _ => exact hr.elim
    | _ => exact hr.elim
end
/-! ### len(set(x)) -/
def keyD : D → Option Key
  | .int i => some (.inl i)
  | .str x => some (.inr x)
  | _ => none
def dLenSet (da : DE) : DE := fun s L Q E => da s L (fun d L1 => ∃ ds ks, itemsOf L1 d = some ds ∧ optAll keyD ds = some ks ∧ ks.length ≤ 4000 ∧ Q (.int (dd ks).length) L1) E
section
variable {K : PySem.W.Frag} {H : Hp}
theorem keys_of : ∀ {ds : List D} {ks : List Key} {vs : List V} {us : List Value}, optAll keyD ds = some ks → RepL K H ds vs → Vals vs us → ks.length = us.length ∧ ∀ (i : Nat) v, us[i]? = some v → ∃ k, ks[i]? = some k ∧ keyIs k v = true
  | [], _, _, _, e, r, rv => by
    cases e
    cases (show _ = [] from r)
    cases rv
    exact ⟨rfl, fun i v h => by simp at h⟩
  | d :: ds, _, _, _, e, ⟨v, vr, ev, rd, rr⟩, rv => by
    subst ev
    obtain ⟨k, kr, h1, h2, e2⟩ := optAll_cons e
    subst e2
    cases rv with
    | cons ru rt =>
      rename_i u ut
      obtain ⟨hl, hv⟩ := keys_of h2 rr rt
      refine ⟨by simp [hl], fun i x hx => ?_⟩
      cases i with
      | zero =>
        have ex : u = x := by simpa using hx
        subst ex
        refine ⟨k, rfl, ?_⟩
        cases d with
        | int j =>
          cases h1
          cases (show v = _ from rd)
          obtain ⟨t, rfl⟩ := ru
          exact keyIs_int j t
        | str j =>
          cases h1
          cases (show v = _ from rd.1)
          obtain ⟨t, rfl⟩ := ru
          exact keyIs_str j t
        | _ => cases h1
      | succ i => exact hv i x (by simpa using hx)
theorem itemsOf_rep {L : DH} (hr : HR K H L) {d : D} {ds : List D} {v : V} (e : itemsOf L d = some ds) (r : Rep K H d v) : ∃ a vs, v = .ref a ∧ (SqL K H a vs ∨ SqT K H a vs) ∧ RepL K H ds vs := by
  cases d with
  | tup xs => cases e; obtain ⟨a, vs, e1, s1, r1⟩ := r; exact ⟨a, vs, e1, .inr s1, r1⟩
  | lro xs => cases e; obtain ⟨a, vs, e1, s1, r1⟩ := r; exact ⟨a, vs, e1, .inl s1.sq, r1⟩
  | ref a =>
    have e : (match L a with | some (.lst xs) => some xs | none => none) = some ds := e
    cases q : L a with
    | none => rw [q] at e; cases e
    | some o =>
      cases o with | lst xs =>
      rw [q] at e; cases e
      obtain ⟨vs, g1, r1⟩ := hr a _ q
      exact ⟨a, vs, r, .inl (SqL.of g1), r1⟩
  | _ => cases e
end
theorem q_lenSet {X : Cx} {W : WX} {a : Expr} {da : DE} {p p2 q pos : Pos} (hm : X.mg "len" = none) (hm2 : X.mg "set" = none) (ha : QE X W a da) (hc : X.calm = true := by rfl) (hg : Gl X "len" := by rfl) (hg2 : Gl X "set" := by rfl)
    (na : starEach [a] X.env = (false, eval a X.env) :: starEach [] X.env := by rfl) : QE X W (.Call (.Name "len" p) [.Call (.Name "set" p2) [a] [] q] [] pos) (dLenSet da) := by
  refine ⟨⟨fun pins s σ H Q I ⟨s0, L, Qd, Ed, hs, hr, q0, hq, lp⟩ => ?_⟩⟩
  have q0 : da s0 L (fun d L1 => ∃ ds ks, itemsOf L1 d = some ds ∧ optAll keyD ds = some ks ∧ ks.length ≤ 4000 ∧ Qd (.int (dd ks).length) L1) Ed := q0
  have h := liftE_bind (R := fun x H1 => ∃ b vs ds ks L1, x = .ref b ∧ (SqL X.K H1 b vs ∨ SqT X.K H1 b vs) ∧ RepL X.K H1 ds vs ∧ optAll keyD ds = some ks ∧ ks.length ≤ 4000 ∧ Q (.int (dd ks).length) H1) hs hr lp q0 fun d L1 x H1 z r1 hr1 k1 _ _ _ => by
    obtain ⟨ds, ks, e1, e2, e3, q1⟩ := z
    obtain ⟨b, vs, e, sq, rl⟩ := itemsOf_rep hr1 e1 r1
    exact ⟨b, vs, ds, ks, L1, e, sq, rl, e2, e3, hq _ L1 _ H1 q1 rfl hr1 k1⟩
  refine Call_ (ld_blt I hg hm PySem.boot_len ?_)
  refine PyProof.Rows.callWith_builtin1 (PyProof.Rows.args_cons ?_ rfl) rfl rfl
  refine Call_ (ld_blt I hg2 hm2 PyProof.Rows.boot_set ?_)
  refine PyProof.Rows.callWith_type1 (PyProof.Rows.args_cons (thn (ha.pe.run pins s σ H _ I h) fun v s1 ⟨x, H1, I1, r1, q1⟩ => PyProof.Rows.args_nil ?_) na) na rfl
  obtain ⟨b, vs, ds, ks, L1, rfl, sq, rl, e2, e3, q1⟩ := q1
  cases r1
  have fin : ∀ (hp : Heap) (tk : Nat), hp.SetOf (mixKind X.prog X.w) s1.heap.objs.size (memB (dd ks)) (dd ks).length → (∀ b o, b < s1.heap.objs.size → s1.heap.get? b = some o → hp.get? b = some o) →
      wpAny (model X.prog X.w) X.A (call (.builtin "len") [.ref s1.heap.objs.size]) (EP X pins σ Q) X.xe { s1 with heap := hp, toks := tk } := fun hp tk hS hk => by
    obtain ⟨o, es, ep, t, ho, hex, hd, _, _, _, hf, hn⟩ := hS
    have I2 : Inv X pins σ H1 { s1 with heap := hp, toks := tk } := I1.kept fun b o e => hk b o (Heap.lt_size e) e
    have few := dd_len ks
    exact call_len_set ho hex hd hf (by rw [hn] <;> omega) ⟨.int (dd ks).length, H1, I2.tok _, ⟨_, by rw [hn]⟩, q1⟩
  have sc : ks.length + 1 < scanBound := by unfold scanBound; omega
  rcases sq with sq | sq
  · obtain ⟨its, rv, pl, hz⟩ := I1.list sq
    obtain ⟨hl, hv⟩ := keys_of e2 rl rv
    exact set_of_list (I1.ok.hd hc) pl.isList (fun i v hi => hv i v (by simpa using hi)) (by simpa using hl) sc fun hp tk hS hk => PyProof.Rows.args_nil (fin hp tk hS hk)
  · obtain ⟨its, rv, pl, hz⟩ := I1.tuple sq
    obtain ⟨hl, hv⟩ := keys_of e2 rl rv
    exact set_of_tuple (I1.ok.hd hc) (show s1.heap.IsTuple b its.toArray from pl) (fun i v hi => hv i v (by simpa using hi)) (by simpa using hl) sc fun hp tk hS hk => PyProof.Rows.args_nil (fin hp tk hS hk)
end D2

set_option Elab.async false
set_option linter.all false
set_option maxRecDepth 100000
set_option maxHeartbeats 1000000
namespace D2
open PySem PySem.Spec PyProof.Rows L2
/-! ### what a program is -/
def isInt : D → Bool
  | .int _ => true
  | _ => false
def wthn (d : D) (i j : Int) : Bool := match d with
  | .int x => decide (i ≤ x ∧ x ≤ j)
  | _ => false
theorem lstOf_ref {L : DH} {a : Addr} {xs : List D} (h : L a = some (.lst xs)) : lstOf L (.ref a) = some xs := by
  show (match L a with | some (.lst xs) => some xs | none => none) = _
  rw [h]
theorem itemsOf_ref {L : DH} {a : Addr} {xs : List D} (h : L a = some (.lst xs)) : itemsOf L (.ref a) = some xs := by
  show (match L a with | some (.lst xs) => some xs | none => none) = _
  rw [h]
theorem isSeq_ref {L : DH} {a : Addr} {xs : List D} (h : L a = some (.lst xs)) : isSeq L (.ref a) = some (xs, fun L' => L' a = some (DO.lst xs)) := by
  show (match L a with | some (DO.lst ds) => some (ds, fun L' : DH => L' a = some (DO.lst ds)) | none => none) = _
  rw [h]
theorem all_end {L : DH} {p : Addr} {acc : List D} {bs : List Bool} {Q : DK} {E : XD} (hp : L p = none) (e : acc = bs.map D.bl) (q : Q (.bl (bs.all id)) L) : dAll [.ref p] (upd L p (.lst acc)) (fnEnds Q E).rt :=
  ⟨.ref p, bs, rfl, by rw [lstOf_ref updD_same, e], L, Le.upd hp, q⟩
theorem all_in {L : DH} {p : Addr} {acc : List D} {bs : List Bool} {K : DK} (e : acc = bs.map D.bl) (q : K (.bl (bs.all id)) (upd L p (.lst acc))) : dAll [.ref p] (upd L p (.lst acc)) K :=
  ⟨.ref p, bs, rfl, by rw [lstOf_ref updD_same, e], q⟩
def Tm (L : DH) (d : D) : Prop := ∃ n, n ≤ 30 ∧ Tame L n d
theorem Tm.known {L : DH} {d : D} (h : Tm L d) : Known L d := let ⟨_, _, h⟩ := h; h.known
theorem Tm.le {L L' : DH} (l : Le L L') {d : D} (h : Tm L d) : Tm L' d := let ⟨n, a, h⟩ := h; ⟨n, a, h.le l⟩
theorem Tm.mem {L : DH} {ds : List D} (h : Tm L (.tup ds)) {d : D} (hd : d ∈ ds) : Tm L d := by
  obtain ⟨n, a, h⟩ := h
  cases n with
  | zero => exact h.elim
  | succ n => exact ⟨n, by omega, h.2 d hd⟩
theorem Tm.len {L : DH} {ds : List D} (h : Tm L (.tup ds)) : ds.length ≤ 16777216 := by
  obtain ⟨n, a, h⟩ := h
  cases n with
  | zero => exact h.elim
  | succ n => exact h.1
theorem Tm.str {L : DH} {z : Str} (h : Tm L (.str z)) : z.length ≤ 16777216 := by
  obtain ⟨n, a, h⟩ := h
  cases n <;> exact h
theorem Tm.eqs {L : DH} {d : D} (h : Tm L d) (z : Str) : eqD L d (.str z) = some (isStr d z) := let ⟨_, a, h⟩ := h; eqD_tame h a z
theorem Known.le {L L' : DH} (l : Le L L') {d : D} (h : Known L d) : Known L' d := by
  cases d with
  | ref a => obtain ⟨xs, e⟩ := h; exact ⟨xs, l _ _ e⟩
  | _ => trivial
def sp_is_int : SpD := fun ds L Q _ => ∃ d, ds = [d] ∧ Known L d ∧ Q (.bl (isInt d)) L
theorem len_is_int : ∀ as L Q E, sp_is_int as L Q E → as.length = 1 := by rintro _ L Q E ⟨d, rfl, _⟩; rfl
def d_is_int : DS :=
  (sRet (dAndV (dIsi .int (dVar 0)) (dNotV (dIsi .bool (dVar 0)))))

theorem pure_is_int : ∀ as L Q E, sp_is_int as L Q E → d_is_int (fnEnds Q E) (dstart 1 as) L := by
  rintro as L Q E ⟨d, rfl, hk, q⟩
  have q' := endOf q
  cases d with
  | ref a =>
    obtain ⟨xs, hk⟩ := hk
    simp only [d_is_int, hk, dVar, dC, dOp, dUn, dNil, dCons, dTup, dLst, dCB, dTest, dAnd, dOr, dNot, dAndV, dOrV, dNotV, dIfE, dChain, sNext, sSeq, sBreak, sCont, sDrop, sRet, sRetN, sIf, gdName, gdNil, gdCons, gdTup, gdSub, sAsg, dCall, xOf, sFor, dSeq, dRng1, dRng2, dI, dI0, dB0, dAdd, dIsN, dNotN, isNon, dIx, dSetL, dNeg, one, two, dLen1, dListOf1, dTupOf1, dAbs1, dIntOf1, dII, marg, dAppend1, dExtend1, dIsi, isA, dSl, dPart, dNoPart, dCut, dLc, dYes, sRaise, sTry, exBy, sPar2, sPar3, dIsBl, dNotBl, dBM, dBM0, dEq, dNe, dIn, dSgn, dLc2, dEnum, dListRg1, dListRg2, dTupRg1, dTupRg2, dStrOf1, dRep, dLenSet, dstart, fnE_nx, fnE_rt, fnE_ex, Nat.zero_le, Nat.reduceLeDiff, decide_true, decide_false, true_or, or_true, false_or, or_false, decide_eq_true_eq, exists_eq_left', exists_eq_left, exists_eq_right, exists_eq_right', Option.some.injEq, List.cons.injEq, D.int.injEq, D.bl.injEq, D.str.injEq, D.tup.injEq, D.lro.injEq, D.ref.injEq, DO.lst.injEq, and_true, true_and, and_false, false_and, exists_false, exists_const, List.getElem?_cons_zero, List.getElem?_cons_succ, List.map_cons, List.map_nil, List.length_cons, List.length_nil, List.replicate_zero, List.replicate_succ, List.append_nil, List.cons_append, List.nil_append, List.set_cons_zero, List.set_cons_succ, Nat.reduceAdd, Nat.reduceSub, Nat.zero_add, reduceIte, Bool.false_eq_true, reduceCtorEq, if_true, if_false, Bool.not_true, Bool.not_false, exists_and_left]
    exact q'
  | _ =>
    simp only [d_is_int, dVar, dC, dOp, dUn, dNil, dCons, dTup, dLst, dCB, dTest, dAnd, dOr, dNot, dAndV, dOrV, dNotV, dIfE, dChain, sNext, sSeq, sBreak, sCont, sDrop, sRet, sRetN, sIf, gdName, gdNil, gdCons, gdTup, gdSub, sAsg, dCall, xOf, sFor, dSeq, dRng1, dRng2, dI, dI0, dB0, dAdd, dIsN, dNotN, isNon, dIx, dSetL, dNeg, one, two, dLen1, dListOf1, dTupOf1, dAbs1, dIntOf1, dII, marg, dAppend1, dExtend1, dIsi, isA, dSl, dPart, dNoPart, dCut, dLc, dYes, sRaise, sTry, exBy, sPar2, sPar3, dIsBl, dNotBl, dBM, dBM0, dEq, dNe, dIn, dSgn, dLc2, dEnum, dListRg1, dListRg2, dTupRg1, dTupRg2, dStrOf1, dRep, dLenSet, dstart, fnE_nx, fnE_rt, fnE_ex, Nat.zero_le, Nat.reduceLeDiff, decide_true, decide_false, true_or, or_true, false_or, or_false, decide_eq_true_eq, exists_eq_left', exists_eq_left, exists_eq_right, exists_eq_right', Option.some.injEq, List.cons.injEq, D.int.injEq, D.bl.injEq, D.str.injEq, D.tup.injEq, D.lro.injEq, D.ref.injEq, DO.lst.injEq, and_true, true_and, and_false, false_and, exists_false, exists_const, List.getElem?_cons_zero, List.getElem?_cons_succ, List.map_cons, List.map_nil, List.length_cons, List.length_nil, List.replicate_zero, List.replicate_succ, List.append_nil, List.cons_append, List.nil_append, List.set_cons_zero, List.set_cons_succ, Nat.reduceAdd, Nat.reduceSub, Nat.zero_add, reduceIte, Bool.false_eq_true, reduceCtorEq, if_true, if_false, Bool.not_true, Bool.not_false, exists_and_left]
    exact q'
def sp_within : SpD := fun ds L Q _ => ∃ d i j, ds = [d, .int i, .int j] ∧ Known L d ∧ Q (.bl (wthn d i j)) L
theorem len_within : ∀ as L Q E, sp_within as L Q E → as.length = 3 := by rintro _ L Q E ⟨d, i, j, rfl, _⟩; rfl
def d_within : DS :=
  (sRet (dAndV (dCall sp_is_int (dCons (dVar 0) dNil)) (dChain dLe dLe (dVar 1) (dVar 0) (dVar 2))))

theorem pure_within : ∀ as L Q E, sp_within as L Q E → d_within (fnEnds Q E) (dstart 3 as) L := by
  rintro as L Q E ⟨d, i, j, rfl, hk, q⟩
  have q' := endOf q
  simp only [d_within, sp_is_int, dVar, dC, dOp, dUn, dNil, dCons, dTup, dLst, dCB, dTest, dAnd, dOr, dNot, dAndV, dOrV, dNotV, dIfE, dChain, sNext, sSeq, sBreak, sCont, sDrop, sRet, sRetN, sIf, gdName, gdNil, gdCons, gdTup, gdSub, sAsg, dCall, xOf, sFor, dSeq, dRng1, dRng2, dI, dI0, dB0, dAdd, dIsN, dNotN, isNon, dIx, dSetL, dNeg, one, two, dLen1, dListOf1, dTupOf1, dAbs1, dIntOf1, dII, marg, dAppend1, dExtend1, dIsi, isA, dSl, dPart, dNoPart, dCut, dLc, dYes, sRaise, sTry, exBy, sPar2, sPar3, dIsBl, dNotBl, dBM, dBM0, dEq, dNe, dIn, dSgn, dLc2, dEnum, dListRg1, dListRg2, dTupRg1, dTupRg2, dStrOf1, dRep, dLenSet, dstart, fnE_nx, fnE_rt, fnE_ex, Nat.zero_le, Nat.reduceLeDiff, decide_true, decide_false, true_or, or_true, false_or, or_false, decide_eq_true_eq, exists_eq_left', exists_eq_left, exists_eq_right, exists_eq_right', Option.some.injEq, List.cons.injEq, D.int.injEq, D.bl.injEq, D.str.injEq, D.tup.injEq, D.lro.injEq, D.ref.injEq, DO.lst.injEq, and_true, true_and, and_false, false_and, exists_false, exists_const, List.getElem?_cons_zero, List.getElem?_cons_succ, List.map_cons, List.map_nil, List.length_cons, List.length_nil, List.replicate_zero, List.replicate_succ, List.append_nil, List.cons_append, List.nil_append, List.set_cons_zero, List.set_cons_succ, Nat.reduceAdd, Nat.reduceSub, Nat.zero_add, reduceIte, Bool.false_eq_true, reduceCtorEq, if_true, if_false, Bool.not_true, Bool.not_false, exists_and_left]
  refine ⟨hk, ?_⟩
  cases d with
  | int x =>
    simp only [isInt, dVar, dC, dOp, dUn, dNil, dCons, dTup, dLst, dCB, dTest, dAnd, dOr, dNot, dAndV, dOrV, dNotV, dIfE, dChain, sNext, sSeq, sBreak, sCont, sDrop, sRet, sRetN, sIf, gdName, gdNil, gdCons, gdTup, gdSub, sAsg, dCall, xOf, sFor, dSeq, dRng1, dRng2, dI, dI0, dB0, dAdd, dIsN, dNotN, isNon, dIx, dSetL, dNeg, one, two, dLen1, dListOf1, dTupOf1, dAbs1, dIntOf1, dII, marg, dAppend1, dExtend1, dIsi, isA, dSl, dPart, dNoPart, dCut, dLc, dYes, sRaise, sTry, exBy, sPar2, sPar3, dIsBl, dNotBl, dBM, dBM0, dEq, dNe, dIn, dSgn, dLc2, dEnum, dListRg1, dListRg2, dTupRg1, dTupRg2, dStrOf1, dRep, dLenSet, dstart, fnE_nx, fnE_rt, fnE_ex, Nat.zero_le, Nat.reduceLeDiff, decide_true, decide_false, true_or, or_true, false_or, or_false, decide_eq_true_eq, exists_eq_left', exists_eq_left, exists_eq_right, exists_eq_right', Option.some.injEq, List.cons.injEq, D.int.injEq, D.bl.injEq, D.str.injEq, D.tup.injEq, D.lro.injEq, D.ref.injEq, DO.lst.injEq, and_true, true_and, and_false, false_and, exists_false, exists_const, List.getElem?_cons_zero, List.getElem?_cons_succ, List.map_cons, List.map_nil, List.length_cons, List.length_nil, List.replicate_zero, List.replicate_succ, List.append_nil, List.cons_append, List.nil_append, List.set_cons_zero, List.set_cons_succ, Nat.reduceAdd, Nat.reduceSub, Nat.zero_add, reduceIte, Bool.false_eq_true, reduceCtorEq, if_true, if_false, Bool.not_true, Bool.not_false, exists_and_left]
    by_cases h : i ≤ x
    · rw [if_pos h]
      simpa [wthn, h] using q'
    · rw [if_neg h]
      simpa [wthn, h] using q'
  | _ => simpa [isInt, wthn] using q'
theorem wthn_int {d : D} {i j : Int} (h : wthn d i j = true) : ∃ x, d = .int x ∧ i ≤ x ∧ x ≤ j := by
  cases d with
  | int x => exact ⟨x, rfl, of_decide_eq_true h⟩
  | _ => cases h
def isRow (d : D) (i j : Int) : Bool := match d with
  | .tup xs => decide (i ≤ xs.length ∧ xs.length ≤ j)
  | _ => false
theorem isRow_tup {d : D} {i j : Int} (h : isRow d i j = true) : ∃ xs, d = .tup xs ∧ i ≤ xs.length ∧ xs.length ≤ j := by
  cases d with
  | tup xs => exact ⟨xs, rfl, of_decide_eq_true h⟩
  | _ => cases h
def sp_is_row : SpD := fun ds L Q _ => ∃ d i j, ds = [d, .int i, .int j] ∧ Known L d ∧ Q (.bl (isRow d i j)) L
theorem len_is_row : ∀ as L Q E, sp_is_row as L Q E → as.length = 3 := by rintro _ L Q E ⟨d, i, j, rfl, _⟩; rfl
def d_is_row : DS :=
  (sRet (dAndV (dIsi .tup (dVar 0)) (dChain dLe dLe (dVar 1) (dCB dLen (dCons (dVar 0) dNil)) (dVar 2))))

theorem pure_is_row : ∀ as L Q E, sp_is_row as L Q E → d_is_row (fnEnds Q E) (dstart 3 as) L := by
  rintro as L Q E ⟨d, i, j, rfl, hk, q⟩
  have q' := endOf q
  cases d with
  | ref a =>
    obtain ⟨xs, hk⟩ := hk
    simp only [d_is_row, hk, dVar, dC, dOp, dUn, dNil, dCons, dTup, dLst, dCB, dTest, dAnd, dOr, dNot, dAndV, dOrV, dNotV, dIfE, dChain, sNext, sSeq, sBreak, sCont, sDrop, sRet, sRetN, sIf, gdName, gdNil, gdCons, gdTup, gdSub, sAsg, dCall, xOf, sFor, dSeq, dRng1, dRng2, dI, dI0, dB0, dAdd, dIsN, dNotN, isNon, dIx, dSetL, dNeg, one, two, dLen1, dListOf1, dTupOf1, dAbs1, dIntOf1, dII, marg, dAppend1, dExtend1, dIsi, isA, dSl, dPart, dNoPart, dCut, dLc, dYes, sRaise, sTry, exBy, sPar2, sPar3, dIsBl, dNotBl, dBM, dBM0, dEq, dNe, dIn, dSgn, dLc2, dEnum, dListRg1, dListRg2, dTupRg1, dTupRg2, dStrOf1, dRep, dLenSet, dstart, fnE_nx, fnE_rt, fnE_ex, Nat.zero_le, Nat.reduceLeDiff, decide_true, decide_false, true_or, or_true, false_or, or_false, decide_eq_true_eq, exists_eq_left', exists_eq_left, exists_eq_right, exists_eq_right', Option.some.injEq, List.cons.injEq, D.int.injEq, D.bl.injEq, D.str.injEq, D.tup.injEq, D.lro.injEq, D.ref.injEq, DO.lst.injEq, and_true, true_and, and_false, false_and, exists_false, exists_const, List.getElem?_cons_zero, List.getElem?_cons_succ, List.map_cons, List.map_nil, List.length_cons, List.length_nil, List.replicate_zero, List.replicate_succ, List.append_nil, List.cons_append, List.nil_append, List.set_cons_zero, List.set_cons_succ, Nat.reduceAdd, Nat.reduceSub, Nat.zero_add, reduceIte, Bool.false_eq_true, reduceCtorEq, if_true, if_false, Bool.not_true, Bool.not_false, exists_and_left]
    exact q'
  | tup xs =>
    simp only [d_is_row, dVar, dC, dOp, dUn, dNil, dCons, dTup, dLst, dCB, dTest, dAnd, dOr, dNot, dAndV, dOrV, dNotV, dIfE, dChain, sNext, sSeq, sBreak, sCont, sDrop, sRet, sRetN, sIf, gdName, gdNil, gdCons, gdTup, gdSub, sAsg, dCall, xOf, sFor, dSeq, dRng1, dRng2, dI, dI0, dB0, dAdd, dIsN, dNotN, isNon, dIx, dSetL, dNeg, one, two, dLen1, dListOf1, dTupOf1, dAbs1, dIntOf1, dII, marg, dAppend1, dExtend1, dIsi, isA, dSl, dPart, dNoPart, dCut, dLc, dYes, sRaise, sTry, exBy, sPar2, sPar3, dIsBl, dNotBl, dBM, dBM0, dEq, dNe, dIn, dSgn, dLc2, dEnum, dListRg1, dListRg2, dTupRg1, dTupRg2, dStrOf1, dRep, dLenSet, dstart, fnE_nx, fnE_rt, fnE_ex, Nat.zero_le, Nat.reduceLeDiff, decide_true, decide_false, true_or, or_true, false_or, or_false, decide_eq_true_eq, exists_eq_left', exists_eq_left, exists_eq_right, exists_eq_right', Option.some.injEq, List.cons.injEq, D.int.injEq, D.bl.injEq, D.str.injEq, D.tup.injEq, D.lro.injEq, D.ref.injEq, DO.lst.injEq, and_true, true_and, and_false, false_and, exists_false, exists_const, List.getElem?_cons_zero, List.getElem?_cons_succ, List.map_cons, List.map_nil, List.length_cons, List.length_nil, List.replicate_zero, List.replicate_succ, List.append_nil, List.cons_append, List.nil_append, List.set_cons_zero, List.set_cons_succ, Nat.reduceAdd, Nat.reduceSub, Nat.zero_add, reduceIte, Bool.false_eq_true, reduceCtorEq, if_true, if_false, Bool.not_true, Bool.not_false, exists_and_left]
    by_cases h : i ≤ xs.length
    · rw [if_pos h]
      simpa [isRow, h] using q'
    · rw [if_neg h]
      simpa [isRow, h] using q'
  | _ =>
    simp only [d_is_row, dVar, dC, dOp, dUn, dNil, dCons, dTup, dLst, dCB, dTest, dAnd, dOr, dNot, dAndV, dOrV, dNotV, dIfE, dChain, sNext, sSeq, sBreak, sCont, sDrop, sRet, sRetN, sIf, gdName, gdNil, gdCons, gdTup, gdSub, sAsg, dCall, xOf, sFor, dSeq, dRng1, dRng2, dI, dI0, dB0, dAdd, dIsN, dNotN, isNon, dIx, dSetL, dNeg, one, two, dLen1, dListOf1, dTupOf1, dAbs1, dIntOf1, dII, marg, dAppend1, dExtend1, dIsi, isA, dSl, dPart, dNoPart, dCut, dLc, dYes, sRaise, sTry, exBy, sPar2, sPar3, dIsBl, dNotBl, dBM, dBM0, dEq, dNe, dIn, dSgn, dLc2, dEnum, dListRg1, dListRg2, dTupRg1, dTupRg2, dStrOf1, dRep, dLenSet, dstart, fnE_nx, fnE_rt, fnE_ex, Nat.zero_le, Nat.reduceLeDiff, decide_true, decide_false, true_or, or_true, false_or, or_false, decide_eq_true_eq, exists_eq_left', exists_eq_left, exists_eq_right, exists_eq_right', Option.some.injEq, List.cons.injEq, D.int.injEq, D.bl.injEq, D.str.injEq, D.tup.injEq, D.lro.injEq, D.ref.injEq, DO.lst.injEq, and_true, true_and, and_false, false_and, exists_false, exists_const, List.getElem?_cons_zero, List.getElem?_cons_succ, List.map_cons, List.map_nil, List.length_cons, List.length_nil, List.replicate_zero, List.replicate_succ, List.append_nil, List.cons_append, List.nil_append, List.set_cons_zero, List.set_cons_succ, Nat.reduceAdd, Nat.reduceSub, Nat.zero_add, reduceIte, Bool.false_eq_true, reduceCtorEq, if_true, if_false, Bool.not_true, Bool.not_false, exists_and_left]
    exact q'
def smallC (c : Nat) : Bool := decide (c ∈ ("abcdefghijklmnopqrstuvwxyz" : Str).cps.toList)
def digitC (c : Nat) : Bool := decide (c ∈ ("0123456789" : Str).cps.toList)
def wordS (z : Str) : Bool := [("call" : Str), "exit", "move", "proc"].any fun q => q == z
def lowName (z : Str) : Bool := decide (1 ≤ (z.length : Int) ∧ (z.length : Int) ≤ 10) && !wordS z && z.cps.toList.head?.any smallC && z.cps.toList.all fun c => smallC c || digitC c
def isLow (d : D) : Bool := match d with
  | .str z => lowName z
  | _ => false
def sp_is_low_name : SpD := fun ds L Q _ => ∃ d, ds = [d] ∧ Known L d ∧ (∀ z, d = .str z → z.length ≤ 16777216) ∧ Q (.bl (isLow d)) L
theorem len_is_low_name : ∀ as L Q E, sp_is_low_name as L Q E → as.length = 1 := by rintro _ L Q E ⟨d, rfl, _⟩; rfl
def d_is_low_name_t1 : DS :=
  (sRet (dAndV (dOp (dIn false) (dOp dIx (dVar 0) (dC (.int 0))) (dC (.str "abcdefghijklmnopqrstuvwxyz"))) (dCB dAll (dCons (dLc (dSgn (dVar 0)) (gdName 1) dYes (dOrV (dOp (dIn false) (dVar 1) (dC (.str "abcdefghijklmnopqrstuvwxyz"))) (dOp (dIn false) (dVar 1) (dC (.str "0123456789")))) [1]) dNil))))
def d_is_low_name : DS :=
  (sSeq (sIf (dOr (dNot (dTest (dIsi .str (dVar 0)))) (dOr (dNot (dTest (dChain dLe dLe (dC (.int 1)) (dCB dLen (dCons (dVar 0) dNil)) (dC (.int 10))))) (dTest (dOp (dIn false) (dVar 0) (dC (.tup [(.str "call"), (.str "exit"), (.str "move"), (.str "proc")])))))) (sRet (dC (.bl false))) sNext) d_is_low_name_t1)

theorem in_words (L : DH) (z : Str) : inD L (.str z) (.tup [.str "call", .str "exit", .str "move", .str "proc"]) = some (wordS z) := by
  rw [inD_of (ys := [.str "call", .str "exit", .str "move", .str "proc"]) rfl (ps := [.str "call", .str "exit", .str "move", .str "proc"]) (by simp [optAll_cons']) (pyL_str _ _)]
  rfl
theorem in_sign (L : DH) (c : Nat) (z : Str) : inD L (.str ⟨#[c]⟩) (.str z) = some (decide (c ∈ z.cps.toList)) := rfl
theorem pure_is_low_name : ∀ as L Q E, sp_is_low_name as L Q E → d_is_low_name (fnEnds Q E) (dstart 2 as) L := by
  rintro as L Q E ⟨d, rfl, hk, hz, q⟩
  have q' := endOf q
  cases d with
  | ref a =>
    obtain ⟨xs, hk⟩ := hk
    simp only [d_is_low_name, d_is_low_name_t1, hk, dVar, dC, dOp, dUn, dNil, dCons, dTup, dLst, dCB, dTest, dAnd, dOr, dNot, dAndV, dOrV, dNotV, dIfE, dChain, sNext, sSeq, sBreak, sCont, sDrop, sRet, sRetN, sIf, gdName, gdNil, gdCons, gdTup, gdSub, sAsg, dCall, xOf, sFor, dSeq, dRng1, dRng2, dI, dI0, dB0, dAdd, dIsN, dNotN, isNon, dIx, dSetL, dNeg, one, two, dLen1, dListOf1, dTupOf1, dAbs1, dIntOf1, dII, marg, dAppend1, dExtend1, dIsi, isA, dSl, dPart, dNoPart, dCut, dLc, dYes, sRaise, sTry, exBy, sPar2, sPar3, dIsBl, dNotBl, dBM, dBM0, dEq, dNe, dIn, dSgn, dLc2, dEnum, dListRg1, dListRg2, dTupRg1, dTupRg2, dStrOf1, dRep, dLenSet, dstart, fnE_nx, fnE_rt, fnE_ex, Nat.zero_le, Nat.reduceLeDiff, decide_true, decide_false, true_or, or_true, false_or, or_false, decide_eq_true_eq, exists_eq_left', exists_eq_left, exists_eq_right, exists_eq_right', Option.some.injEq, List.cons.injEq, D.int.injEq, D.bl.injEq, D.str.injEq, D.tup.injEq, D.lro.injEq, D.ref.injEq, DO.lst.injEq, and_true, true_and, and_false, false_and, exists_false, exists_const, List.getElem?_cons_zero, List.getElem?_cons_succ, List.map_cons, List.map_nil, List.length_cons, List.length_nil, List.replicate_zero, List.replicate_succ, List.append_nil, List.cons_append, List.nil_append, List.set_cons_zero, List.set_cons_succ, Nat.reduceAdd, Nat.reduceSub, Nat.zero_add, reduceIte, Bool.false_eq_true, reduceCtorEq, if_true, if_false, Bool.not_true, Bool.not_false, exists_and_left]
    exact q'
  | str z =>
    have hz := hz z rfl
    simp only [d_is_low_name, d_is_low_name_t1, dVar, dC, dOp, dUn, dNil, dCons, dTup, dLst, dCB, dTest, dAnd, dOr, dNot, dAndV, dOrV, dNotV, dIfE, dChain, sNext, sSeq, sBreak, sCont, sDrop, sRet, sRetN, sIf, gdName, gdNil, gdCons, gdTup, gdSub, sAsg, dCall, xOf, sFor, dSeq, dRng1, dRng2, dI, dI0, dB0, dAdd, dIsN, dNotN, isNon, dIx, dSetL, dNeg, one, two, dLen1, dListOf1, dTupOf1, dAbs1, dIntOf1, dII, marg, dAppend1, dExtend1, dIsi, isA, dSl, dPart, dNoPart, dCut, dLc, dYes, sRaise, sTry, exBy, sPar2, sPar3, dIsBl, dNotBl, dBM, dBM0, dEq, dNe, dIn, dSgn, dLc2, dEnum, dListRg1, dListRg2, dTupRg1, dTupRg2, dStrOf1, dRep, dLenSet, dstart, fnE_nx, fnE_rt, fnE_ex, Nat.zero_le, Nat.reduceLeDiff, decide_true, decide_false, true_or, or_true, false_or, or_false, decide_eq_true_eq, exists_eq_left', exists_eq_left, exists_eq_right, exists_eq_right', Option.some.injEq, List.cons.injEq, D.int.injEq, D.bl.injEq, D.str.injEq, D.tup.injEq, D.lro.injEq, D.ref.injEq, DO.lst.injEq, and_true, true_and, and_false, false_and, exists_false, exists_const, List.getElem?_cons_zero, List.getElem?_cons_succ, List.map_cons, List.map_nil, List.length_cons, List.length_nil, List.replicate_zero, List.replicate_succ, List.append_nil, List.cons_append, List.nil_append, List.set_cons_zero, List.set_cons_succ, Nat.reduceAdd, Nat.reduceSub, Nat.zero_add, reduceIte, Bool.false_eq_true, reduceCtorEq, if_true, if_false, Bool.not_true, Bool.not_false, exists_and_left]
    refine ⟨hz, ?_⟩
    have hlen : z.cps.toList.length = z.length := rfl
    simp only [in_words, in_sign, dVar, dC, dOp, dUn, dNil, dCons, dTup, dLst, dCB, dTest, dAnd, dOr, dNot, dAndV, dOrV, dNotV, dIfE, dChain, sNext, sSeq, sBreak, sCont, sDrop, sRet, sRetN, sIf, gdName, gdNil, gdCons, gdTup, gdSub, sAsg, dCall, xOf, sFor, dSeq, dRng1, dRng2, dI, dI0, dB0, dAdd, dIsN, dNotN, isNon, dIx, dSetL, dNeg, one, two, dLen1, dListOf1, dTupOf1, dAbs1, dIntOf1, dII, marg, dAppend1, dExtend1, dIsi, isA, dSl, dPart, dNoPart, dCut, dLc, dYes, sRaise, sTry, exBy, sPar2, sPar3, dIsBl, dNotBl, dBM, dBM0, dEq, dNe, dIn, dSgn, dLc2, dEnum, dListRg1, dListRg2, dTupRg1, dTupRg2, dStrOf1, dRep, dLenSet, dstart, fnE_nx, fnE_rt, fnE_ex, Nat.zero_le, Nat.reduceLeDiff, decide_true, decide_false, true_or, or_true, false_or, or_false, decide_eq_true_eq, exists_eq_left', exists_eq_left, exists_eq_right, exists_eq_right', Option.some.injEq, List.cons.injEq, D.int.injEq, D.bl.injEq, D.str.injEq, D.tup.injEq, D.lro.injEq, D.ref.injEq, DO.lst.injEq, and_true, true_and, and_false, false_and, exists_false, exists_const, List.getElem?_cons_zero, List.getElem?_cons_succ, List.map_cons, List.map_nil, List.length_cons, List.length_nil, List.replicate_zero, List.replicate_succ, List.append_nil, List.cons_append, List.nil_append, List.set_cons_zero, List.set_cons_succ, Nat.reduceAdd, Nat.reduceSub, Nat.zero_add, reduceIte, Bool.false_eq_true, reduceCtorEq, if_true, if_false, Bool.not_true, Bool.not_false, exists_and_left, Bool.false_xor]
    by_cases h1 : 1 ≤ (z.length : Int)
    · rw [if_pos h1]
      by_cases h2 : (z.length : Int) ≤ 10
      · simp only [h2, dVar, dC, dOp, dUn, dNil, dCons, dTup, dLst, dCB, dTest, dAnd, dOr, dNot, dAndV, dOrV, dNotV, dIfE, dChain, sNext, sSeq, sBreak, sCont, sDrop, sRet, sRetN, sIf, gdName, gdNil, gdCons, gdTup, gdSub, sAsg, dCall, xOf, sFor, dSeq, dRng1, dRng2, dI, dI0, dB0, dAdd, dIsN, dNotN, isNon, dIx, dSetL, dNeg, one, two, dLen1, dListOf1, dTupOf1, dAbs1, dIntOf1, dII, marg, dAppend1, dExtend1, dIsi, isA, dSl, dPart, dNoPart, dCut, dLc, dYes, sRaise, sTry, exBy, sPar2, sPar3, dIsBl, dNotBl, dBM, dBM0, dEq, dNe, dIn, dSgn, dLc2, dEnum, dListRg1, dListRg2, dTupRg1, dTupRg2, dStrOf1, dRep, dLenSet, dstart, fnE_nx, fnE_rt, fnE_ex, Nat.zero_le, Nat.reduceLeDiff, decide_true, decide_false, true_or, or_true, false_or, or_false, decide_eq_true_eq, exists_eq_left', exists_eq_left, exists_eq_right, exists_eq_right', Option.some.injEq, List.cons.injEq, D.int.injEq, D.bl.injEq, D.str.injEq, D.tup.injEq, D.lro.injEq, D.ref.injEq, DO.lst.injEq, and_true, true_and, and_false, false_and, exists_false, exists_const, List.getElem?_cons_zero, List.getElem?_cons_succ, List.map_cons, List.map_nil, List.length_cons, List.length_nil, List.replicate_zero, List.replicate_succ, List.append_nil, List.cons_append, List.nil_append, List.set_cons_zero, List.set_cons_succ, Nat.reduceAdd, Nat.reduceSub, Nat.zero_add, reduceIte, Bool.false_eq_true, reduceCtorEq, if_true, if_false, Bool.not_true, Bool.not_false, exists_and_left]
        cases hw : wordS z with
        | true =>
          have e : isLow (.str z) = false := by simp [isLow, lowName, hw]
          rw [e] at q'
          simpa using q'
        | false =>
          simp only [dVar, dC, dOp, dUn, dNil, dCons, dTup, dLst, dCB, dTest, dAnd, dOr, dNot, dAndV, dOrV, dNotV, dIfE, dChain, sNext, sSeq, sBreak, sCont, sDrop, sRet, sRetN, sIf, gdName, gdNil, gdCons, gdTup, gdSub, sAsg, dCall, xOf, sFor, dSeq, dRng1, dRng2, dI, dI0, dB0, dAdd, dIsN, dNotN, isNon, dIx, dSetL, dNeg, one, two, dLen1, dListOf1, dTupOf1, dAbs1, dIntOf1, dII, marg, dAppend1, dExtend1, dIsi, isA, dSl, dPart, dNoPart, dCut, dLc, dYes, sRaise, sTry, exBy, sPar2, sPar3, dIsBl, dNotBl, dBM, dBM0, dEq, dNe, dIn, dSgn, dLc2, dEnum, dListRg1, dListRg2, dTupRg1, dTupRg2, dStrOf1, dRep, dLenSet, dstart, fnE_nx, fnE_rt, fnE_ex, Nat.zero_le, Nat.reduceLeDiff, decide_true, decide_false, true_or, or_true, false_or, or_false, decide_eq_true_eq, exists_eq_left', exists_eq_left, exists_eq_right, exists_eq_right', Option.some.injEq, List.cons.injEq, D.int.injEq, D.bl.injEq, D.str.injEq, D.tup.injEq, D.lro.injEq, D.ref.injEq, DO.lst.injEq, and_true, true_and, and_false, false_and, exists_false, exists_const, List.getElem?_cons_zero, List.getElem?_cons_succ, List.map_cons, List.map_nil, List.length_cons, List.length_nil, List.replicate_zero, List.replicate_succ, List.append_nil, List.cons_append, List.nil_append, List.set_cons_zero, List.set_cons_succ, Nat.reduceAdd, Nat.reduceSub, Nat.zero_add, reduceIte, Bool.false_eq_true, reduceCtorEq, if_true, if_false, Bool.not_true, Bool.not_false, exists_and_left]
          refine ⟨hz, ?_⟩
          cases hc : z.cps.toList with
          | nil => rw [hc] at hlen; simp at hlen; omega
          | cons c cs =>
            refine ⟨c, atI0, ?_⟩
            cases hs : smallC c with
            | false =>
              have e : isLow (.str z) = false := by simp [isLow, lowName, hc, hs]
              have hs' : ¬ c ∈ ("abcdefghijklmnopqrstuvwxyz" : Str).cps.toList := of_decide_eq_false hs
              rw [e] at q'
              rw [if_neg hs']
              exact q'
            | true =>
              have hs' : c ∈ ("abcdefghijklmnopqrstuvwxyz" : Str).cps.toList := of_decide_eq_true hs
              rw [if_pos hs']
              simp only [dVar, dC, dOp, dUn, dNil, dCons, dTup, dLst, dCB, dTest, dAnd, dOr, dNot, dAndV, dOrV, dNotV, dIfE, dChain, sNext, sSeq, sBreak, sCont, sDrop, sRet, sRetN, sIf, gdName, gdNil, gdCons, gdTup, gdSub, sAsg, dCall, xOf, sFor, dSeq, dRng1, dRng2, dI, dI0, dB0, dAdd, dIsN, dNotN, isNon, dIx, dSetL, dNeg, one, two, dLen1, dListOf1, dTupOf1, dAbs1, dIntOf1, dII, marg, dAppend1, dExtend1, dIsi, isA, dSl, dPart, dNoPart, dCut, dLc, dYes, sRaise, sTry, exBy, sPar2, sPar3, dIsBl, dNotBl, dBM, dBM0, dEq, dNe, dIn, dSgn, dLc2, dEnum, dListRg1, dListRg2, dTupRg1, dTupRg2, dStrOf1, dRep, dLenSet, dstart, fnE_nx, fnE_rt, fnE_ex, Nat.zero_le, Nat.reduceLeDiff, decide_true, decide_false, true_or, or_true, false_or, or_false, decide_eq_true_eq, exists_eq_left', exists_eq_left, exists_eq_right, exists_eq_right', Option.some.injEq, List.cons.injEq, D.int.injEq, D.bl.injEq, D.str.injEq, D.tup.injEq, D.lro.injEq, D.ref.injEq, DO.lst.injEq, and_true, true_and, and_false, false_and, exists_false, exists_const, List.getElem?_cons_zero, List.getElem?_cons_succ, List.map_cons, List.map_nil, List.length_cons, List.length_nil, List.replicate_zero, List.replicate_succ, List.append_nil, List.cons_append, List.nil_append, List.set_cons_zero, List.set_cons_succ, Nat.reduceAdd, Nat.reduceSub, Nat.zero_add, reduceIte, Bool.false_eq_true, reduceCtorEq, if_true, if_false, Bool.not_true, Bool.not_false, exists_and_left, dwipe]
              let f : D → D := fun d => match d with
                | .str y => .bl (y.cps.toList.all fun c => smallC c || digitC c)
                | d => d
              refine lcD_map f L trivial _ (fun d hd Kt hK Kf => ?_) [] (by simp [signs]; rw [Array.length_toList] at hlen; omega) fun p hp => ?_
              · obtain ⟨c, hc, rfl⟩ := List.mem_map.mp hd
                simp only [dVar, dC, dOp, dUn, dNil, dCons, dTup, dLst, dCB, dTest, dAnd, dOr, dNot, dAndV, dOrV, dNotV, dIfE, dChain, sNext, sSeq, sBreak, sCont, sDrop, sRet, sRetN, sIf, gdName, gdNil, gdCons, gdTup, gdSub, sAsg, dCall, xOf, sFor, dSeq, dRng1, dRng2, dI, dI0, dB0, dAdd, dIsN, dNotN, isNon, dIx, dSetL, dNeg, one, two, dLen1, dListOf1, dTupOf1, dAbs1, dIntOf1, dII, marg, dAppend1, dExtend1, dIsi, isA, dSl, dPart, dNoPart, dCut, dLc, dYes, sRaise, sTry, exBy, sPar2, sPar3, dIsBl, dNotBl, dBM, dBM0, dEq, dNe, dIn, dSgn, dLc2, dEnum, dListRg1, dListRg2, dTupRg1, dTupRg2, dStrOf1, dRep, dLenSet, dstart, fnE_nx, fnE_rt, fnE_ex, Nat.zero_le, Nat.reduceLeDiff, decide_true, decide_false, true_or, or_true, false_or, or_false, decide_eq_true_eq, exists_eq_left', exists_eq_left, exists_eq_right, exists_eq_right', Option.some.injEq, List.cons.injEq, D.int.injEq, D.bl.injEq, D.str.injEq, D.tup.injEq, D.lro.injEq, D.ref.injEq, DO.lst.injEq, and_true, true_and, and_false, false_and, exists_false, exists_const, List.getElem?_cons_zero, List.getElem?_cons_succ, List.map_cons, List.map_nil, List.length_cons, List.length_nil, List.replicate_zero, List.replicate_succ, List.append_nil, List.cons_append, List.nil_append, List.set_cons_zero, List.set_cons_succ, Nat.reduceAdd, Nat.reduceSub, Nat.zero_add, reduceIte, Bool.false_eq_true, reduceCtorEq, if_true, if_false, Bool.not_true, Bool.not_false, exists_and_left, in_sign, Bool.false_xor]
                have hK : Kt (.bl ((smallC c || digitC c))) L := by
                  have : ((#[c] : Array Nat).toList.all fun c => smallC c || digitC c) = (smallC c || digitC c) := by simp
                  rw [← this]
                  exact hK
                cases a : smallC c with
                | true =>
                  have a' : c ∈ ("abcdefghijklmnopqrstuvwxyz" : Str).cps.toList := of_decide_eq_true a
                  rw [a] at hK
                  simp only [a', dVar, dC, dOp, dUn, dNil, dCons, dTup, dLst, dCB, dTest, dAnd, dOr, dNot, dAndV, dOrV, dNotV, dIfE, dChain, sNext, sSeq, sBreak, sCont, sDrop, sRet, sRetN, sIf, gdName, gdNil, gdCons, gdTup, gdSub, sAsg, dCall, xOf, sFor, dSeq, dRng1, dRng2, dI, dI0, dB0, dAdd, dIsN, dNotN, isNon, dIx, dSetL, dNeg, one, two, dLen1, dListOf1, dTupOf1, dAbs1, dIntOf1, dII, marg, dAppend1, dExtend1, dIsi, isA, dSl, dPart, dNoPart, dCut, dLc, dYes, sRaise, sTry, exBy, sPar2, sPar3, dIsBl, dNotBl, dBM, dBM0, dEq, dNe, dIn, dSgn, dLc2, dEnum, dListRg1, dListRg2, dTupRg1, dTupRg2, dStrOf1, dRep, dLenSet, dstart, fnE_nx, fnE_rt, fnE_ex, Nat.zero_le, Nat.reduceLeDiff, decide_true, decide_false, true_or, or_true, false_or, or_false, decide_eq_true_eq, exists_eq_left', exists_eq_left, exists_eq_right, exists_eq_right', Option.some.injEq, List.cons.injEq, D.int.injEq, D.bl.injEq, D.str.injEq, D.tup.injEq, D.lro.injEq, D.ref.injEq, DO.lst.injEq, and_true, true_and, and_false, false_and, exists_false, exists_const, List.getElem?_cons_zero, List.getElem?_cons_succ, List.map_cons, List.map_nil, List.length_cons, List.length_nil, List.replicate_zero, List.replicate_succ, List.append_nil, List.cons_append, List.nil_append, List.set_cons_zero, List.set_cons_succ, Nat.reduceAdd, Nat.reduceSub, Nat.zero_add, reduceIte, Bool.false_eq_true, reduceCtorEq, if_true, if_false, Bool.not_true, Bool.not_false, exists_and_left]
                  exact hK
                | false =>
                  have a' : ¬ c ∈ ("abcdefghijklmnopqrstuvwxyz" : Str).cps.toList := of_decide_eq_false a
                  rw [a] at hK
                  simp only [a', dVar, dC, dOp, dUn, dNil, dCons, dTup, dLst, dCB, dTest, dAnd, dOr, dNot, dAndV, dOrV, dNotV, dIfE, dChain, sNext, sSeq, sBreak, sCont, sDrop, sRet, sRetN, sIf, gdName, gdNil, gdCons, gdTup, gdSub, sAsg, dCall, xOf, sFor, dSeq, dRng1, dRng2, dI, dI0, dB0, dAdd, dIsN, dNotN, isNon, dIx, dSetL, dNeg, one, two, dLen1, dListOf1, dTupOf1, dAbs1, dIntOf1, dII, marg, dAppend1, dExtend1, dIsi, isA, dSl, dPart, dNoPart, dCut, dLc, dYes, sRaise, sTry, exBy, sPar2, sPar3, dIsBl, dNotBl, dBM, dBM0, dEq, dNe, dIn, dSgn, dLc2, dEnum, dListRg1, dListRg2, dTupRg1, dTupRg2, dStrOf1, dRep, dLenSet, dstart, fnE_nx, fnE_rt, fnE_ex, Nat.zero_le, Nat.reduceLeDiff, decide_true, decide_false, true_or, or_true, false_or, or_false, decide_eq_true_eq, exists_eq_left', exists_eq_left, exists_eq_right, exists_eq_right', Option.some.injEq, List.cons.injEq, D.int.injEq, D.bl.injEq, D.str.injEq, D.tup.injEq, D.lro.injEq, D.ref.injEq, DO.lst.injEq, and_true, true_and, and_false, false_and, exists_false, exists_const, List.getElem?_cons_zero, List.getElem?_cons_succ, List.map_cons, List.map_nil, List.length_cons, List.length_nil, List.replicate_zero, List.replicate_succ, List.append_nil, List.cons_append, List.nil_append, List.set_cons_zero, List.set_cons_succ, Nat.reduceAdd, Nat.reduceSub, Nat.zero_add, reduceIte, Bool.false_eq_true, reduceCtorEq, if_true, if_false, Bool.not_true, Bool.not_false, exists_and_left]
                  exact hK
              · have ef : (signs z).map f = (z.cps.toList.map fun c => smallC c || digitC c).map D.bl := by
                  unfold signs
                  rw [List.map_map, List.map_map]
                  refine List.map_congr_left fun c _ => ?_
                  show D.bl ((#[c] : Array Nat).toList.all fun c => smallC c || digitC c) = _
                  simp
                refine all_end hp (by rw [List.nil_append, ef]) ?_
                · have : isLow (.str z) = ((z.cps.toList.map fun c => smallC c || digitC c).all id) := by
                    rw [List.all_map]
                    have h10 : decide (1 ≤ (z.length : Int) ∧ (z.length : Int) ≤ 10) = true := decide_eq_true ⟨h1, h2⟩
                    show (decide (1 ≤ (z.length : Int) ∧ (z.length : Int) ≤ 10) && !wordS z && z.cps.toList.head?.any smallC && z.cps.toList.all fun c => smallC c || digitC c) = _
                    rw [h10, hw, hc]
                    simp [hs, Function.comp_def]
                  rw [← this]
                  exact q
      · have e : isLow (.str z) = false := by simp only [isLow, lowName, h2]; simp
        rw [e] at q'
        simpa [h2] using q'
    · rw [if_neg h1]
      have e : isLow (.str z) = false := by simp only [isLow, lowName, h1]; simp
      rw [e] at q'
      exact q'
  | _ =>
    simp only [d_is_low_name, d_is_low_name_t1, dVar, dC, dOp, dUn, dNil, dCons, dTup, dLst, dCB, dTest, dAnd, dOr, dNot, dAndV, dOrV, dNotV, dIfE, dChain, sNext, sSeq, sBreak, sCont, sDrop, sRet, sRetN, sIf, gdName, gdNil, gdCons, gdTup, gdSub, sAsg, dCall, xOf, sFor, dSeq, dRng1, dRng2, dI, dI0, dB0, dAdd, dIsN, dNotN, isNon, dIx, dSetL, dNeg, one, two, dLen1, dListOf1, dTupOf1, dAbs1, dIntOf1, dII, marg, dAppend1, dExtend1, dIsi, isA, dSl, dPart, dNoPart, dCut, dLc, dYes, sRaise, sTry, exBy, sPar2, sPar3, dIsBl, dNotBl, dBM, dBM0, dEq, dNe, dIn, dSgn, dLc2, dEnum, dListRg1, dListRg2, dTupRg1, dTupRg2, dStrOf1, dRep, dLenSet, dstart, fnE_nx, fnE_rt, fnE_ex, Nat.zero_le, Nat.reduceLeDiff, decide_true, decide_false, true_or, or_true, false_or, or_false, decide_eq_true_eq, exists_eq_left', exists_eq_left, exists_eq_right, exists_eq_right', Option.some.injEq, List.cons.injEq, D.int.injEq, D.bl.injEq, D.str.injEq, D.tup.injEq, D.lro.injEq, D.ref.injEq, DO.lst.injEq, and_true, true_and, and_false, false_and, exists_false, exists_const, List.getElem?_cons_zero, List.getElem?_cons_succ, List.map_cons, List.map_nil, List.length_cons, List.length_nil, List.replicate_zero, List.replicate_succ, List.append_nil, List.cons_append, List.nil_append, List.set_cons_zero, List.set_cons_succ, Nat.reduceAdd, Nat.reduceSub, Nat.zero_add, reduceIte, Bool.false_eq_true, reduceCtorEq, if_true, if_false, Bool.not_true, Bool.not_false, exists_and_left]
    exact q'
/-! heads -/
def nmD : D → Str
  | .tup (.str z :: _) => z
  | _ => ⟨#[]⟩
def exD : D → Int
  | .tup (_ :: .int x :: _) => x
  | _ => 0
def plD : D → List D
  | .tup (_ :: _ :: .tup ps :: _) => ps
  | _ => []
def isHead : D → Bool
  | .tup [n, x, ps] => isLow n && wthn x 1 24 && isRow ps 1 4000
  | _ => false
theorem isHead_of {d : D} (h : isHead d = true) : d = .tup [.str (nmD d), .int (exD d), .tup (plD d)] ∧ lowName (nmD d) = true ∧ 1 ≤ exD d ∧ exD d ≤ 24 ∧ 1 ≤ (plD d).length ∧ (plD d).length ≤ 4000 := by
  cases d with
  | tup xs =>
    match xs, h with
    | [n, x, ps], h =>
      have h : (isLow n && wthn x 1 24 && isRow ps 1 4000) = true := h
      rw [Bool.and_eq_true, Bool.and_eq_true] at h
      obtain ⟨⟨h1, h2⟩, h3⟩ := h
      cases n with
      | str z =>
        obtain ⟨x, rfl, a, b⟩ := wthn_int h2
        obtain ⟨ps, rfl, c, d⟩ := isRow_tup h3
        exact ⟨rfl, h1, a, b, by show 1 ≤ ps.length; omega, by show ps.length ≤ 4000; omega⟩
      | _ => cases h1
  | _ => cases h
theorem isHead_ex {d : D} (h : isHead d = true) : ∃ z x ps, d = .tup [.str z, .int x, .tup ps] := ⟨_, _, _, (isHead_of h).1⟩
theorem isRow_len {xs : List D} {n : Nat} : isRow (.tup xs) n n = decide (xs.length = n) := by
  show decide ((n : Int) ≤ xs.length ∧ (xs.length : Int) ≤ n) = _
  by_cases h : xs.length = n
  · rw [decide_eq_true h, decide_eq_true (by omega)]
  · rw [decide_eq_false h, decide_eq_false (by omega)]
theorem row3 {d : D} (h : isRow d 3 3 = true) : ∃ a b c, d = .tup [a, b, c] := by
  obtain ⟨xs, rfl, h1, h2⟩ := isRow_tup h
  match xs, h1, h2 with
  | [], h1, _ => simp at h1
  | [a], h1, _ => simp at h1
  | [a, b], h1, _ => simp at h1
  | [a, b, c], _, _ => exact ⟨a, b, c, rfl⟩
  | a :: b :: c :: d :: r, _, h2 => simp at h2; omega
theorem row2 {d : D} (h : isRow d 2 2 = true) : ∃ a b, d = .tup [a, b] := by
  obtain ⟨xs, rfl, h1, h2⟩ := isRow_tup h
  match xs, h1, h2 with
  | [], h1, _ => simp at h1
  | [a], h1, _ => simp at h1
  | [a, b], _, _ => exact ⟨a, b, rfl⟩
  | a :: b :: c :: r, _, h2 => simp at h2; omega
def sp_is_head : SpD := fun ds L Q _ => ∃ d, ds = [d] ∧ Tm L d ∧ Q (.bl (isHead d)) L
theorem len_is_head : ∀ as L Q E, sp_is_head as L Q E → as.length = 1 := by rintro _ L Q E ⟨d, rfl, _⟩; rfl
def d_is_head_t1 : DS :=
  (sRet (dAndV (dCall sp_within (dCons (dOp dIx (dVar 0) (dC (.int 1))) (dCons (dC (.int 1)) (dCons (dC (.int 24)) dNil)))) (dCall sp_is_row (dCons (dOp dIx (dVar 0) (dC (.int 2))) (dCons (dC (.int 1)) (dCons (dC (.int 4000)) dNil))))))
def d_is_head : DS :=
  (sSeq (sIf (dOr (dNot (dTest (dCall sp_is_row (dCons (dVar 0) (dCons (dC (.int 3)) (dCons (dC (.int 3)) dNil)))))) (dNot (dTest (dCall sp_is_low_name (dCons (dOp dIx (dVar 0) (dC (.int 0))) dNil))))) (sRet (dC (.bl false))) sNext) d_is_head_t1)

theorem pure_is_head : ∀ as L Q E, sp_is_head as L Q E → d_is_head (fnEnds Q E) (dstart 1 as) L := by
  rintro as L Q E ⟨d, rfl, hk, q⟩
  have q' := endOf q
  simp only [d_is_head, d_is_head_t1, sp_is_row, sp_is_low_name, sp_within, dVar, dC, dOp, dUn, dNil, dCons, dTup, dLst, dCB, dTest, dAnd, dOr, dNot, dAndV, dOrV, dNotV, dIfE, dChain, sNext, sSeq, sBreak, sCont, sDrop, sRet, sRetN, sIf, gdName, gdNil, gdCons, gdTup, gdSub, sAsg, dCall, xOf, sFor, dSeq, dRng1, dRng2, dI, dI0, dB0, dAdd, dIsN, dNotN, isNon, dIx, dSetL, dNeg, one, two, dLen1, dListOf1, dTupOf1, dAbs1, dIntOf1, dII, marg, dAppend1, dExtend1, dIsi, isA, dSl, dPart, dNoPart, dCut, dLc, dYes, sRaise, sTry, exBy, sPar2, sPar3, dIsBl, dNotBl, dBM, dBM0, dEq, dNe, dIn, dSgn, dLc2, dEnum, dListRg1, dListRg2, dTupRg1, dTupRg2, dStrOf1, dRep, dLenSet, dstart, fnE_nx, fnE_rt, fnE_ex, Nat.zero_le, Nat.reduceLeDiff, decide_true, decide_false, true_or, or_true, false_or, or_false, decide_eq_true_eq, exists_eq_left', exists_eq_left, exists_eq_right, exists_eq_right', Option.some.injEq, List.cons.injEq, D.int.injEq, D.bl.injEq, D.str.injEq, D.tup.injEq, D.lro.injEq, D.ref.injEq, DO.lst.injEq, and_true, true_and, and_false, false_and, exists_false, exists_const, List.getElem?_cons_zero, List.getElem?_cons_succ, List.map_cons, List.map_nil, List.length_cons, List.length_nil, List.replicate_zero, List.replicate_succ, List.append_nil, List.cons_append, List.nil_append, List.set_cons_zero, List.set_cons_succ, Nat.reduceAdd, Nat.reduceSub, Nat.zero_add, reduceIte, Bool.false_eq_true, reduceCtorEq, if_true, if_false, Bool.not_true, Bool.not_false, exists_and_left]
  refine ⟨d, 3, 3, ⟨rfl, rfl, rfl⟩, hk.known, ?_⟩
  cases h : isRow d 3 3 with
  | false =>
    have e : isHead d = false := by
      cases d with
      | tup xs =>
        match xs, h with
        | [], _ => rfl
        | [a], _ => rfl
        | [a, b], _ => rfl
        | a :: b :: c :: e :: r, _ => rfl
      | _ => rfl
    rw [e] at q'
    simpa using q'
  | true =>
    obtain ⟨a, b, c, rfl⟩ := row3 h
    simp only [dVar, dC, dOp, dUn, dNil, dCons, dTup, dLst, dCB, dTest, dAnd, dOr, dNot, dAndV, dOrV, dNotV, dIfE, dChain, sNext, sSeq, sBreak, sCont, sDrop, sRet, sRetN, sIf, gdName, gdNil, gdCons, gdTup, gdSub, sAsg, dCall, xOf, sFor, dSeq, dRng1, dRng2, dI, dI0, dB0, dAdd, dIsN, dNotN, isNon, dIx, dSetL, dNeg, one, two, dLen1, dListOf1, dTupOf1, dAbs1, dIntOf1, dII, marg, dAppend1, dExtend1, dIsi, isA, dSl, dPart, dNoPart, dCut, dLc, dYes, sRaise, sTry, exBy, sPar2, sPar3, dIsBl, dNotBl, dBM, dBM0, dEq, dNe, dIn, dSgn, dLc2, dEnum, dListRg1, dListRg2, dTupRg1, dTupRg2, dStrOf1, dRep, dLenSet, dstart, fnE_nx, fnE_rt, fnE_ex, Nat.zero_le, Nat.reduceLeDiff, decide_true, decide_false, true_or, or_true, false_or, or_false, decide_eq_true_eq, exists_eq_left', exists_eq_left, exists_eq_right, exists_eq_right', Option.some.injEq, List.cons.injEq, D.int.injEq, D.bl.injEq, D.str.injEq, D.tup.injEq, D.lro.injEq, D.ref.injEq, DO.lst.injEq, and_true, true_and, and_false, false_and, exists_false, exists_const, List.getElem?_cons_zero, List.getElem?_cons_succ, List.map_cons, List.map_nil, List.length_cons, List.length_nil, List.replicate_zero, List.replicate_succ, List.append_nil, List.cons_append, List.nil_append, List.set_cons_zero, List.set_cons_succ, Nat.reduceAdd, Nat.reduceSub, Nat.zero_add, reduceIte, Bool.false_eq_true, reduceCtorEq, if_true, if_false, Bool.not_true, Bool.not_false, exists_and_left, atI0, atI1, atI2]
    refine ⟨(hk.mem (by simp)).known, fun z e => ((hk.mem (by simp : a ∈ [a, b, c])) |> fun t => by subst e; exact t.str), ?_⟩
    have e0 : isHead (.tup [a, b, c]) = (isLow a && wthn b 1 24 && isRow c 1 4000) := rfl
    rw [e0] at q'
    cases h1 : isLow a with
    | false => rw [h1] at q'; simpa using q'
    | true =>
      rw [h1] at q'
      simp only [dVar, dC, dOp, dUn, dNil, dCons, dTup, dLst, dCB, dTest, dAnd, dOr, dNot, dAndV, dOrV, dNotV, dIfE, dChain, sNext, sSeq, sBreak, sCont, sDrop, sRet, sRetN, sIf, gdName, gdNil, gdCons, gdTup, gdSub, sAsg, dCall, xOf, sFor, dSeq, dRng1, dRng2, dI, dI0, dB0, dAdd, dIsN, dNotN, isNon, dIx, dSetL, dNeg, one, two, dLen1, dListOf1, dTupOf1, dAbs1, dIntOf1, dII, marg, dAppend1, dExtend1, dIsi, isA, dSl, dPart, dNoPart, dCut, dLc, dYes, sRaise, sTry, exBy, sPar2, sPar3, dIsBl, dNotBl, dBM, dBM0, dEq, dNe, dIn, dSgn, dLc2, dEnum, dListRg1, dListRg2, dTupRg1, dTupRg2, dStrOf1, dRep, dLenSet, dstart, fnE_nx, fnE_rt, fnE_ex, Nat.zero_le, Nat.reduceLeDiff, decide_true, decide_false, true_or, or_true, false_or, or_false, decide_eq_true_eq, exists_eq_left', exists_eq_left, exists_eq_right, exists_eq_right', Option.some.injEq, List.cons.injEq, D.int.injEq, D.bl.injEq, D.str.injEq, D.tup.injEq, D.lro.injEq, D.ref.injEq, DO.lst.injEq, and_true, true_and, and_false, false_and, exists_false, exists_const, List.getElem?_cons_zero, List.getElem?_cons_succ, List.map_cons, List.map_nil, List.length_cons, List.length_nil, List.replicate_zero, List.replicate_succ, List.append_nil, List.cons_append, List.nil_append, List.set_cons_zero, List.set_cons_succ, Nat.reduceAdd, Nat.reduceSub, Nat.zero_add, reduceIte, Bool.false_eq_true, reduceCtorEq, if_true, if_false, Bool.not_true, Bool.not_false, exists_and_left, atI0, atI1, atI2]
      refine ⟨b, 1, 24, ⟨rfl, rfl, rfl⟩, (hk.mem (by simp)).known, ?_⟩
      cases h2 : wthn b 1 24 with
      | false => rw [h2] at q'; simpa using q'
      | true =>
        rw [h2] at q'
        simp only [dVar, dC, dOp, dUn, dNil, dCons, dTup, dLst, dCB, dTest, dAnd, dOr, dNot, dAndV, dOrV, dNotV, dIfE, dChain, sNext, sSeq, sBreak, sCont, sDrop, sRet, sRetN, sIf, gdName, gdNil, gdCons, gdTup, gdSub, sAsg, dCall, xOf, sFor, dSeq, dRng1, dRng2, dI, dI0, dB0, dAdd, dIsN, dNotN, isNon, dIx, dSetL, dNeg, one, two, dLen1, dListOf1, dTupOf1, dAbs1, dIntOf1, dII, marg, dAppend1, dExtend1, dIsi, isA, dSl, dPart, dNoPart, dCut, dLc, dYes, sRaise, sTry, exBy, sPar2, sPar3, dIsBl, dNotBl, dBM, dBM0, dEq, dNe, dIn, dSgn, dLc2, dEnum, dListRg1, dListRg2, dTupRg1, dTupRg2, dStrOf1, dRep, dLenSet, dstart, fnE_nx, fnE_rt, fnE_ex, Nat.zero_le, Nat.reduceLeDiff, decide_true, decide_false, true_or, or_true, false_or, or_false, decide_eq_true_eq, exists_eq_left', exists_eq_left, exists_eq_right, exists_eq_right', Option.some.injEq, List.cons.injEq, D.int.injEq, D.bl.injEq, D.str.injEq, D.tup.injEq, D.lro.injEq, D.ref.injEq, DO.lst.injEq, and_true, true_and, and_false, false_and, exists_false, exists_const, List.getElem?_cons_zero, List.getElem?_cons_succ, List.map_cons, List.map_nil, List.length_cons, List.length_nil, List.replicate_zero, List.replicate_succ, List.append_nil, List.cons_append, List.nil_append, List.set_cons_zero, List.set_cons_succ, Nat.reduceAdd, Nat.reduceSub, Nat.zero_add, reduceIte, Bool.false_eq_true, reduceCtorEq, if_true, if_false, Bool.not_true, Bool.not_false, exists_and_left, atI0, atI1, atI2]
        refine ⟨c, 1, 4000, ⟨rfl, rfl, rfl⟩, (hk.mem (by simp)).known, ?_⟩
        simpa using q'
def areHeads : D → Bool
  | .tup es => decide (1 ≤ (es.length : Int) ∧ (es.length : Int) ≤ 60) && es.all isHead && decide (es.map nmD).Nodup && decide (((es.map fun e => ((plD e).length : Int))).sum ≤ 4000)
  | _ => false
def sp_are_heads : SpD := fun ds L Q _ => ∃ d, ds = [d] ∧ Tm L d ∧ Q (.bl (areHeads d)) L
theorem len_are_heads : ∀ as L Q E, sp_are_heads as L Q E → as.length = 1 := by rintro _ L Q E ⟨d, rfl, _⟩; rfl
def d_are_heads_t2 : DS :=
  (sRet (dOp dLe (dCB dSum (dCons (dLc (dSeq (dVar 0)) (gdName 1) dYes (dCB dLen (dCons (dOp dIx (dVar 1) (dC (.int 2))) dNil)) [1]) dNil)) (dC (.int 4000))))
def d_are_heads_t1 : DS :=
  (sSeq (sIf (dTest (dOp dLt (dLenSet (dLc (dSeq (dVar 0)) (gdName 1) dYes (dOp dIx (dVar 1) (dC (.int 0))) [1])) (dCB dLen (dCons (dVar 0) dNil)))) (sRet (dC (.bl false))) sNext) d_are_heads_t2)
def d_are_heads : DS :=
  (sSeq (sIf (dOr (dNot (dTest (dCall sp_is_row (dCons (dVar 0) (dCons (dC (.int 1)) (dCons (dC (.int 60)) dNil)))))) (dNot (dTest (dCB dAll (dCons (dLc (dSeq (dVar 0)) (gdName 1) dYes (dCall sp_is_head (dCons (dVar 1) dNil)) [1]) dNil))))) (sRet (dC (.bl false))) sNext) d_are_heads_t1)

theorem keys_strs (zs : List Str) : optAll keyD (zs.map D.str) = some (zs.map Sum.inr) := optAll_map (f := keyD) (h := D.str) (k := fun z => (Sum.inr z : Key)) (fun c => rfl) zs
theorem nodup_inr (zs : List Str) : (zs.map (Sum.inr : Str → Key)).Nodup ↔ zs.Nodup := by
  unfold List.Nodup
  rw [List.pairwise_map]
  simp
theorem keys_ints (zs : List Int) : optAll keyD (zs.map D.int) = some (zs.map Sum.inl) := optAll_map (f := keyD) (h := D.int) (k := fun z => (Sum.inl z : Key)) (fun c => rfl) zs
theorem nodup_inl (zs : List Int) : (zs.map (Sum.inl : Int → Key)).Nodup ↔ zs.Nodup := by
  unfold List.Nodup
  rw [List.pairwise_map]
  simp
theorem pure_are_heads : ∀ as L Q E, sp_are_heads as L Q E → d_are_heads (fnEnds Q E) (dstart 2 as) L := by
  rintro as L Q E ⟨d, rfl, hk, q⟩
  have q' := endOf q
  simp only [d_are_heads, d_are_heads_t2, d_are_heads_t1, sp_is_row, sp_is_head, dVar, dC, dOp, dUn, dNil, dCons, dTup, dLst, dCB, dTest, dAnd, dOr, dNot, dAndV, dOrV, dNotV, dIfE, dChain, sNext, sSeq, sBreak, sCont, sDrop, sRet, sRetN, sIf, gdName, gdNil, gdCons, gdTup, gdSub, sAsg, dCall, xOf, sFor, dSeq, dRng1, dRng2, dI, dI0, dB0, dAdd, dIsN, dNotN, isNon, dIx, dSetL, dNeg, one, two, dLen1, dListOf1, dTupOf1, dAbs1, dIntOf1, dII, marg, dAppend1, dExtend1, dIsi, isA, dSl, dPart, dNoPart, dCut, dLc, dYes, sRaise, sTry, exBy, sPar2, sPar3, dIsBl, dNotBl, dBM, dBM0, dEq, dNe, dIn, dSgn, dLc2, dEnum, dListRg1, dListRg2, dTupRg1, dTupRg2, dStrOf1, dRep, dLenSet, dstart, fnE_nx, fnE_rt, fnE_ex, Nat.zero_le, Nat.reduceLeDiff, decide_true, decide_false, true_or, or_true, false_or, or_false, decide_eq_true_eq, exists_eq_left', exists_eq_left, exists_eq_right, exists_eq_right', Option.some.injEq, List.cons.injEq, D.int.injEq, D.bl.injEq, D.str.injEq, D.tup.injEq, D.lro.injEq, D.ref.injEq, DO.lst.injEq, and_true, true_and, and_false, false_and, exists_false, exists_const, List.getElem?_cons_zero, List.getElem?_cons_succ, List.map_cons, List.map_nil, List.length_cons, List.length_nil, List.replicate_zero, List.replicate_succ, List.append_nil, List.cons_append, List.nil_append, List.set_cons_zero, List.set_cons_succ, Nat.reduceAdd, Nat.reduceSub, Nat.zero_add, reduceIte, Bool.false_eq_true, reduceCtorEq, if_true, if_false, Bool.not_true, Bool.not_false, exists_and_left]
  refine ⟨d, 1, 60, ⟨rfl, rfl, rfl⟩, hk.known, ?_⟩
  cases h : isRow d 1 60 with
  | false =>
    have e : areHeads d = false := by
      cases d with
      | tup xs =>
        have h : decide (1 ≤ (xs.length : Int) ∧ (xs.length : Int) ≤ 60) = false := h
        simp only [areHeads, h, Bool.false_and]
      | _ => rfl
    rw [e] at q'
    simpa using q'
  | true =>
    obtain ⟨es, rfl, h1, h2⟩ := isRow_tup h
    have e0 : areHeads (.tup es) = (decide (1 ≤ (es.length : Int) ∧ (es.length : Int) ≤ 60) && es.all isHead && decide (es.map nmD).Nodup && decide (((es.map fun e => ((plD e).length : Int))).sum ≤ 4000)) := rfl
    have h : decide (1 ≤ (es.length : Int) ∧ (es.length : Int) ≤ 60) = true := h
    rw [e0, h] at q q'
    simp only [dVar, dC, dOp, dUn, dNil, dCons, dTup, dLst, dCB, dTest, dAnd, dOr, dNot, dAndV, dOrV, dNotV, dIfE, dChain, sNext, sSeq, sBreak, sCont, sDrop, sRet, sRetN, sIf, gdName, gdNil, gdCons, gdTup, gdSub, sAsg, dCall, xOf, sFor, dSeq, dRng1, dRng2, dI, dI0, dB0, dAdd, dIsN, dNotN, isNon, dIx, dSetL, dNeg, one, two, dLen1, dListOf1, dTupOf1, dAbs1, dIntOf1, dII, marg, dAppend1, dExtend1, dIsi, isA, dSl, dPart, dNoPart, dCut, dLc, dYes, sRaise, sTry, exBy, sPar2, sPar3, dIsBl, dNotBl, dBM, dBM0, dEq, dNe, dIn, dSgn, dLc2, dEnum, dListRg1, dListRg2, dTupRg1, dTupRg2, dStrOf1, dRep, dLenSet, dstart, fnE_nx, fnE_rt, fnE_ex, Nat.zero_le, Nat.reduceLeDiff, decide_true, decide_false, true_or, or_true, false_or, or_false, decide_eq_true_eq, exists_eq_left', exists_eq_left, exists_eq_right, exists_eq_right', Option.some.injEq, List.cons.injEq, D.int.injEq, D.bl.injEq, D.str.injEq, D.tup.injEq, D.lro.injEq, D.ref.injEq, DO.lst.injEq, and_true, true_and, and_false, false_and, exists_false, exists_const, List.getElem?_cons_zero, List.getElem?_cons_succ, List.map_cons, List.map_nil, List.length_cons, List.length_nil, List.replicate_zero, List.replicate_succ, List.append_nil, List.cons_append, List.nil_append, List.set_cons_zero, List.set_cons_succ, Nat.reduceAdd, Nat.reduceSub, Nat.zero_add, reduceIte, Bool.false_eq_true, reduceCtorEq, if_true, if_false, Bool.not_true, Bool.not_false, exists_and_left, dwipe]
    refine ⟨es, _, rfl, ?_⟩
    refine lcD_map (fun d => .bl (isHead d)) L trivial es (fun d hd Kt hK Kf => ?_) [] (by simpa using hk.len) fun p hp => ?_
    · simp only [dVar, dC, dOp, dUn, dNil, dCons, dTup, dLst, dCB, dTest, dAnd, dOr, dNot, dAndV, dOrV, dNotV, dIfE, dChain, sNext, sSeq, sBreak, sCont, sDrop, sRet, sRetN, sIf, gdName, gdNil, gdCons, gdTup, gdSub, sAsg, dCall, xOf, sFor, dSeq, dRng1, dRng2, dI, dI0, dB0, dAdd, dIsN, dNotN, isNon, dIx, dSetL, dNeg, one, two, dLen1, dListOf1, dTupOf1, dAbs1, dIntOf1, dII, marg, dAppend1, dExtend1, dIsi, isA, dSl, dPart, dNoPart, dCut, dLc, dYes, sRaise, sTry, exBy, sPar2, sPar3, dIsBl, dNotBl, dBM, dBM0, dEq, dNe, dIn, dSgn, dLc2, dEnum, dListRg1, dListRg2, dTupRg1, dTupRg2, dStrOf1, dRep, dLenSet, dstart, fnE_nx, fnE_rt, fnE_ex, Nat.zero_le, Nat.reduceLeDiff, decide_true, decide_false, true_or, or_true, false_or, or_false, decide_eq_true_eq, exists_eq_left', exists_eq_left, exists_eq_right, exists_eq_right', Option.some.injEq, List.cons.injEq, D.int.injEq, D.bl.injEq, D.str.injEq, D.tup.injEq, D.lro.injEq, D.ref.injEq, DO.lst.injEq, and_true, true_and, and_false, false_and, exists_false, exists_const, List.getElem?_cons_zero, List.getElem?_cons_succ, List.map_cons, List.map_nil, List.length_cons, List.length_nil, List.replicate_zero, List.replicate_succ, List.append_nil, List.cons_append, List.nil_append, List.set_cons_zero, List.set_cons_succ, Nat.reduceAdd, Nat.reduceSub, Nat.zero_add, reduceIte, Bool.false_eq_true, reduceCtorEq, if_true, if_false, Bool.not_true, Bool.not_false, exists_and_left]
      exact ⟨d, rfl, hk.mem hd, hK⟩
    refine all_in (bs := es.map isHead) (by rw [List.nil_append, List.map_map]; rfl) ?_
    rw [List.all_map]
    cases hh : es.all (id ∘ isHead) with
    | false =>
      have : es.all isHead = false := hh
      rw [this] at q
      simp only [dVar, dC, dOp, dUn, dNil, dCons, dTup, dLst, dCB, dTest, dAnd, dOr, dNot, dAndV, dOrV, dNotV, dIfE, dChain, sNext, sSeq, sBreak, sCont, sDrop, sRet, sRetN, sIf, gdName, gdNil, gdCons, gdTup, gdSub, sAsg, dCall, xOf, sFor, dSeq, dRng1, dRng2, dI, dI0, dB0, dAdd, dIsN, dNotN, isNon, dIx, dSetL, dNeg, one, two, dLen1, dListOf1, dTupOf1, dAbs1, dIntOf1, dII, marg, dAppend1, dExtend1, dIsi, isA, dSl, dPart, dNoPart, dCut, dLc, dYes, sRaise, sTry, exBy, sPar2, sPar3, dIsBl, dNotBl, dBM, dBM0, dEq, dNe, dIn, dSgn, dLc2, dEnum, dListRg1, dListRg2, dTupRg1, dTupRg2, dStrOf1, dRep, dLenSet, dstart, fnE_nx, fnE_rt, fnE_ex, Nat.zero_le, Nat.reduceLeDiff, decide_true, decide_false, true_or, or_true, false_or, or_false, decide_eq_true_eq, exists_eq_left', exists_eq_left, exists_eq_right, exists_eq_right', Option.some.injEq, List.cons.injEq, D.int.injEq, D.bl.injEq, D.str.injEq, D.tup.injEq, D.lro.injEq, D.ref.injEq, DO.lst.injEq, and_true, true_and, and_false, false_and, exists_false, exists_const, List.getElem?_cons_zero, List.getElem?_cons_succ, List.map_cons, List.map_nil, List.length_cons, List.length_nil, List.replicate_zero, List.replicate_succ, List.append_nil, List.cons_append, List.nil_append, List.set_cons_zero, List.set_cons_succ, Nat.reduceAdd, Nat.reduceSub, Nat.zero_add, reduceIte, Bool.false_eq_true, reduceCtorEq, if_true, if_false, Bool.not_true, Bool.not_false, exists_and_left]
      exact ⟨L, Le.upd hp, q⟩
    | true =>
      have hh : es.all isHead = true := hh
      rw [hh] at q q'
      have he := fun d hd => isHead_of (List.all_eq_true.mp hh d hd)
      simp only [dVar, dC, dOp, dUn, dNil, dCons, dTup, dLst, dCB, dTest, dAnd, dOr, dNot, dAndV, dOrV, dNotV, dIfE, dChain, sNext, sSeq, sBreak, sCont, sDrop, sRet, sRetN, sIf, gdName, gdNil, gdCons, gdTup, gdSub, sAsg, dCall, xOf, sFor, dSeq, dRng1, dRng2, dI, dI0, dB0, dAdd, dIsN, dNotN, isNon, dIx, dSetL, dNeg, one, two, dLen1, dListOf1, dTupOf1, dAbs1, dIntOf1, dII, marg, dAppend1, dExtend1, dIsi, isA, dSl, dPart, dNoPart, dCut, dLc, dYes, sRaise, sTry, exBy, sPar2, sPar3, dIsBl, dNotBl, dBM, dBM0, dEq, dNe, dIn, dSgn, dLc2, dEnum, dListRg1, dListRg2, dTupRg1, dTupRg2, dStrOf1, dRep, dLenSet, dstart, fnE_nx, fnE_rt, fnE_ex, Nat.zero_le, Nat.reduceLeDiff, decide_true, decide_false, true_or, or_true, false_or, or_false, decide_eq_true_eq, exists_eq_left', exists_eq_left, exists_eq_right, exists_eq_right', Option.some.injEq, List.cons.injEq, D.int.injEq, D.bl.injEq, D.str.injEq, D.tup.injEq, D.lro.injEq, D.ref.injEq, DO.lst.injEq, and_true, true_and, and_false, false_and, exists_false, exists_const, List.getElem?_cons_zero, List.getElem?_cons_succ, List.map_cons, List.map_nil, List.length_cons, List.length_nil, List.replicate_zero, List.replicate_succ, List.append_nil, List.cons_append, List.nil_append, List.set_cons_zero, List.set_cons_succ, Nat.reduceAdd, Nat.reduceSub, Nat.zero_add, reduceIte, Bool.false_eq_true, reduceCtorEq, if_true, if_false, Bool.not_true, Bool.not_false, exists_and_left, dwipe]
      refine ⟨es, _, rfl, ?_⟩
      refine lcD_map (fun d => .str (nmD d)) _ trivial es (fun d hd Kt hK Kf => ?_) [] (by simpa using hk.len) fun p2 hp2 => ?_
      · simp only [dVar, dC, dOp, dUn, dNil, dCons, dTup, dLst, dCB, dTest, dAnd, dOr, dNot, dAndV, dOrV, dNotV, dIfE, dChain, sNext, sSeq, sBreak, sCont, sDrop, sRet, sRetN, sIf, gdName, gdNil, gdCons, gdTup, gdSub, sAsg, dCall, xOf, sFor, dSeq, dRng1, dRng2, dI, dI0, dB0, dAdd, dIsN, dNotN, isNon, dIx, dSetL, dNeg, one, two, dLen1, dListOf1, dTupOf1, dAbs1, dIntOf1, dII, marg, dAppend1, dExtend1, dIsi, isA, dSl, dPart, dNoPart, dCut, dLc, dYes, sRaise, sTry, exBy, sPar2, sPar3, dIsBl, dNotBl, dBM, dBM0, dEq, dNe, dIn, dSgn, dLc2, dEnum, dListRg1, dListRg2, dTupRg1, dTupRg2, dStrOf1, dRep, dLenSet, dstart, fnE_nx, fnE_rt, fnE_ex, Nat.zero_le, Nat.reduceLeDiff, decide_true, decide_false, true_or, or_true, false_or, or_false, decide_eq_true_eq, exists_eq_left', exists_eq_left, exists_eq_right, exists_eq_right', Option.some.injEq, List.cons.injEq, D.int.injEq, D.bl.injEq, D.str.injEq, D.tup.injEq, D.lro.injEq, D.ref.injEq, DO.lst.injEq, and_true, true_and, and_false, false_and, exists_false, exists_const, List.getElem?_cons_zero, List.getElem?_cons_succ, List.map_cons, List.map_nil, List.length_cons, List.length_nil, List.replicate_zero, List.replicate_succ, List.append_nil, List.cons_append, List.nil_append, List.set_cons_zero, List.set_cons_succ, Nat.reduceAdd, Nat.reduceSub, Nat.zero_add, reduceIte, Bool.false_eq_true, reduceCtorEq, if_true, if_false, Bool.not_true, Bool.not_false, exists_and_left]
        rw [(he d hd).1]
        exact ⟨_, atI0, hK⟩
      refine ⟨_, itemsOf_ref updD_same, (es.map nmD).map Sum.inr, ?_, by simp; omega, ?_⟩
      · rw [List.nil_append, ← keys_strs, List.map_map]; rfl
      have hle : Le L (upd (upd L p (.lst ([] ++ es.map fun d => .bl (isHead d)))) p2 (.lst ([] ++ es.map fun d => .str (nmD d)))) := (Le.upd hp).trans (Le.upd hp2)
      by_cases hn : (es.map nmD).Nodup
      · have hd : (dd ((es.map nmD).map (Sum.inr : Str → Key))).length = es.length := by rw [(dd_eq _).mpr ((nodup_inr _).mpr hn)]; simp
        rw [decide_eq_true hn] at q
        rw [hd, if_neg (by omega)]
        refine ⟨es, _, rfl, ?_⟩
        refine lcD_map (fun d => .int (plD d).length) _ trivial es (fun d hd Kt hK Kf => ?_) [] (by simpa using hk.len) fun p3 hp3 => ?_
        · simp only [dVar, dC, dOp, dUn, dNil, dCons, dTup, dLst, dCB, dTest, dAnd, dOr, dNot, dAndV, dOrV, dNotV, dIfE, dChain, sNext, sSeq, sBreak, sCont, sDrop, sRet, sRetN, sIf, gdName, gdNil, gdCons, gdTup, gdSub, sAsg, dCall, xOf, sFor, dSeq, dRng1, dRng2, dI, dI0, dB0, dAdd, dIsN, dNotN, isNon, dIx, dSetL, dNeg, one, two, dLen1, dListOf1, dTupOf1, dAbs1, dIntOf1, dII, marg, dAppend1, dExtend1, dIsi, isA, dSl, dPart, dNoPart, dCut, dLc, dYes, sRaise, sTry, exBy, sPar2, sPar3, dIsBl, dNotBl, dBM, dBM0, dEq, dNe, dIn, dSgn, dLc2, dEnum, dListRg1, dListRg2, dTupRg1, dTupRg2, dStrOf1, dRep, dLenSet, dstart, fnE_nx, fnE_rt, fnE_ex, Nat.zero_le, Nat.reduceLeDiff, decide_true, decide_false, true_or, or_true, false_or, or_false, decide_eq_true_eq, exists_eq_left', exists_eq_left, exists_eq_right, exists_eq_right', Option.some.injEq, List.cons.injEq, D.int.injEq, D.bl.injEq, D.str.injEq, D.tup.injEq, D.lro.injEq, D.ref.injEq, DO.lst.injEq, and_true, true_and, and_false, false_and, exists_false, exists_const, List.getElem?_cons_zero, List.getElem?_cons_succ, List.map_cons, List.map_nil, List.length_cons, List.length_nil, List.replicate_zero, List.replicate_succ, List.append_nil, List.cons_append, List.nil_append, List.set_cons_zero, List.set_cons_succ, Nat.reduceAdd, Nat.reduceSub, Nat.zero_add, reduceIte, Bool.false_eq_true, reduceCtorEq, if_true, if_false, Bool.not_true, Bool.not_false, exists_and_left]
          rw [(he d hd).1]
          refine ⟨_, atI2, ?_⟩
          simp only [dVar, dC, dOp, dUn, dNil, dCons, dTup, dLst, dCB, dTest, dAnd, dOr, dNot, dAndV, dOrV, dNotV, dIfE, dChain, sNext, sSeq, sBreak, sCont, sDrop, sRet, sRetN, sIf, gdName, gdNil, gdCons, gdTup, gdSub, sAsg, dCall, xOf, sFor, dSeq, dRng1, dRng2, dI, dI0, dB0, dAdd, dIsN, dNotN, isNon, dIx, dSetL, dNeg, one, two, dLen1, dListOf1, dTupOf1, dAbs1, dIntOf1, dII, marg, dAppend1, dExtend1, dIsi, isA, dSl, dPart, dNoPart, dCut, dLc, dYes, sRaise, sTry, exBy, sPar2, sPar3, dIsBl, dNotBl, dBM, dBM0, dEq, dNe, dIn, dSgn, dLc2, dEnum, dListRg1, dListRg2, dTupRg1, dTupRg2, dStrOf1, dRep, dLenSet, dstart, fnE_nx, fnE_rt, fnE_ex, Nat.zero_le, Nat.reduceLeDiff, decide_true, decide_false, true_or, or_true, false_or, or_false, decide_eq_true_eq, exists_eq_left', exists_eq_left, exists_eq_right, exists_eq_right', Option.some.injEq, List.cons.injEq, D.int.injEq, D.bl.injEq, D.str.injEq, D.tup.injEq, D.lro.injEq, D.ref.injEq, DO.lst.injEq, and_true, true_and, and_false, false_and, exists_false, exists_const, List.getElem?_cons_zero, List.getElem?_cons_succ, List.map_cons, List.map_nil, List.length_cons, List.length_nil, List.replicate_zero, List.replicate_succ, List.append_nil, List.cons_append, List.nil_append, List.set_cons_zero, List.set_cons_succ, Nat.reduceAdd, Nat.reduceSub, Nat.zero_add, reduceIte, Bool.false_eq_true, reduceCtorEq, if_true, if_false, Bool.not_true, Bool.not_false, exists_and_left]
          exact hK
        refine ⟨_, es.map fun e => ((plD e).length : Int), rfl, by rw [lstOf_ref updD_same, List.nil_append, List.map_map]; rfl, ?_⟩
        simp only [dVar, dC, dOp, dUn, dNil, dCons, dTup, dLst, dCB, dTest, dAnd, dOr, dNot, dAndV, dOrV, dNotV, dIfE, dChain, sNext, sSeq, sBreak, sCont, sDrop, sRet, sRetN, sIf, gdName, gdNil, gdCons, gdTup, gdSub, sAsg, dCall, xOf, sFor, dSeq, dRng1, dRng2, dI, dI0, dB0, dAdd, dIsN, dNotN, isNon, dIx, dSetL, dNeg, one, two, dLen1, dListOf1, dTupOf1, dAbs1, dIntOf1, dII, marg, dAppend1, dExtend1, dIsi, isA, dSl, dPart, dNoPart, dCut, dLc, dYes, sRaise, sTry, exBy, sPar2, sPar3, dIsBl, dNotBl, dBM, dBM0, dEq, dNe, dIn, dSgn, dLc2, dEnum, dListRg1, dListRg2, dTupRg1, dTupRg2, dStrOf1, dRep, dLenSet, dstart, fnE_nx, fnE_rt, fnE_ex, Nat.zero_le, Nat.reduceLeDiff, decide_true, decide_false, true_or, or_true, false_or, or_false, decide_eq_true_eq, exists_eq_left', exists_eq_left, exists_eq_right, exists_eq_right', Option.some.injEq, List.cons.injEq, D.int.injEq, D.bl.injEq, D.str.injEq, D.tup.injEq, D.lro.injEq, D.ref.injEq, DO.lst.injEq, and_true, true_and, and_false, false_and, exists_false, exists_const, List.getElem?_cons_zero, List.getElem?_cons_succ, List.map_cons, List.map_nil, List.length_cons, List.length_nil, List.replicate_zero, List.replicate_succ, List.append_nil, List.cons_append, List.nil_append, List.set_cons_zero, List.set_cons_succ, Nat.reduceAdd, Nat.reduceSub, Nat.zero_add, reduceIte, Bool.false_eq_true, reduceCtorEq, if_true, if_false, Bool.not_true, Bool.not_false, exists_and_left, dLe]
        refine ⟨L, hle.trans (Le.upd hp3), ?_⟩
        simpa using q
      · have hd : (dd ((es.map nmD).map (Sum.inr : Str → Key))).length < es.length := by
          have a := dd_len ((es.map nmD).map (Sum.inr : Str → Key))
          have b : (dd ((es.map nmD).map (Sum.inr : Str → Key))).length ≠ ((es.map nmD).map (Sum.inr : Str → Key)).length := fun e => hn ((nodup_inr _).mp ((dd_eq _).mp e))
          simp at a b ⊢; omega
        rw [decide_eq_false hn] at q
        rw [if_pos (by omega)]
        exact ⟨L, hle, by simpa using q⟩
def sp_are_places : SpD := fun ds L Q _ => ∃ xs i j, ds = [.tup xs, .int i, .int j] ∧ Tm L (.tup xs) ∧ Q (.bl (xs.all fun x => wthn x i (j - 1))) L
theorem len_are_places : ∀ as L Q E, sp_are_places as L Q E → as.length = 3 := by rintro _ L Q E ⟨d, i, j, rfl, _⟩; rfl
def d_are_places : DS :=
  (sRet (dCB dAll (dCons (dLc (dSeq (dVar 0)) (gdName 3) dYes (dCall sp_within (dCons (dVar 3) (dCons (dVar 1) (dCons (dOp dSub (dVar 2) (dC (.int 1))) dNil)))) [3]) dNil)))

theorem pure_are_places : ∀ as L Q E, sp_are_places as L Q E → d_are_places (fnEnds Q E) (dstart 4 as) L := by
  rintro as L Q E ⟨xs, i, j, rfl, hk, q⟩
  simp only [d_are_places, sp_within, dVar, dC, dOp, dUn, dNil, dCons, dTup, dLst, dCB, dTest, dAnd, dOr, dNot, dAndV, dOrV, dNotV, dIfE, dChain, sNext, sSeq, sBreak, sCont, sDrop, sRet, sRetN, sIf, gdName, gdNil, gdCons, gdTup, gdSub, sAsg, dCall, xOf, sFor, dSeq, dRng1, dRng2, dI, dI0, dB0, dAdd, dIsN, dNotN, isNon, dIx, dSetL, dNeg, one, two, dLen1, dListOf1, dTupOf1, dAbs1, dIntOf1, dII, marg, dAppend1, dExtend1, dIsi, isA, dSl, dPart, dNoPart, dCut, dLc, dYes, sRaise, sTry, exBy, sPar2, sPar3, dIsBl, dNotBl, dBM, dBM0, dEq, dNe, dIn, dSgn, dLc2, dEnum, dListRg1, dListRg2, dTupRg1, dTupRg2, dStrOf1, dRep, dLenSet, dstart, fnE_nx, fnE_rt, fnE_ex, Nat.zero_le, Nat.reduceLeDiff, decide_true, decide_false, true_or, or_true, false_or, or_false, decide_eq_true_eq, exists_eq_left', exists_eq_left, exists_eq_right, exists_eq_right', Option.some.injEq, List.cons.injEq, D.int.injEq, D.bl.injEq, D.str.injEq, D.tup.injEq, D.lro.injEq, D.ref.injEq, DO.lst.injEq, and_true, true_and, and_false, false_and, exists_false, exists_const, List.getElem?_cons_zero, List.getElem?_cons_succ, List.map_cons, List.map_nil, List.length_cons, List.length_nil, List.replicate_zero, List.replicate_succ, List.append_nil, List.cons_append, List.nil_append, List.set_cons_zero, List.set_cons_succ, Nat.reduceAdd, Nat.reduceSub, Nat.zero_add, reduceIte, Bool.false_eq_true, reduceCtorEq, if_true, if_false, Bool.not_true, Bool.not_false, exists_and_left, dwipe]
  refine ⟨xs, _, rfl, ?_⟩
  refine lcD_map (fun d => .bl (wthn d i (j - 1))) L trivial xs (fun d hd Kt hK Kf => ?_) [] (by simpa using hk.len) fun p hp => ?_
  · simp only [dVar, dC, dOp, dUn, dNil, dCons, dTup, dLst, dCB, dTest, dAnd, dOr, dNot, dAndV, dOrV, dNotV, dIfE, dChain, sNext, sSeq, sBreak, sCont, sDrop, sRet, sRetN, sIf, gdName, gdNil, gdCons, gdTup, gdSub, sAsg, dCall, xOf, sFor, dSeq, dRng1, dRng2, dI, dI0, dB0, dAdd, dIsN, dNotN, isNon, dIx, dSetL, dNeg, one, two, dLen1, dListOf1, dTupOf1, dAbs1, dIntOf1, dII, marg, dAppend1, dExtend1, dIsi, isA, dSl, dPart, dNoPart, dCut, dLc, dYes, sRaise, sTry, exBy, sPar2, sPar3, dIsBl, dNotBl, dBM, dBM0, dEq, dNe, dIn, dSgn, dLc2, dEnum, dListRg1, dListRg2, dTupRg1, dTupRg2, dStrOf1, dRep, dLenSet, dstart, fnE_nx, fnE_rt, fnE_ex, Nat.zero_le, Nat.reduceLeDiff, decide_true, decide_false, true_or, or_true, false_or, or_false, decide_eq_true_eq, exists_eq_left', exists_eq_left, exists_eq_right, exists_eq_right', Option.some.injEq, List.cons.injEq, D.int.injEq, D.bl.injEq, D.str.injEq, D.tup.injEq, D.lro.injEq, D.ref.injEq, DO.lst.injEq, and_true, true_and, and_false, false_and, exists_false, exists_const, List.getElem?_cons_zero, List.getElem?_cons_succ, List.map_cons, List.map_nil, List.length_cons, List.length_nil, List.replicate_zero, List.replicate_succ, List.append_nil, List.cons_append, List.nil_append, List.set_cons_zero, List.set_cons_succ, Nat.reduceAdd, Nat.reduceSub, Nat.zero_add, reduceIte, Bool.false_eq_true, reduceCtorEq, if_true, if_false, Bool.not_true, Bool.not_false, exists_and_left]
    exact ⟨d, _, _, rfl, (hk.mem hd).known, hK⟩
  · refine all_end (bs := xs.map fun x => wthn x i (j - 1)) hp (by rw [List.nil_append, List.map_map]; rfl) ?_
    rw [List.all_map]
    exact q
def intV : D → Int
  | .int x => x
  | _ => 0
def tupV : D → List D
  | .tup xs => xs
  | _ => []
def isMove (d : D) (i j : Int) : Bool := match d with
  | .tup [a, b, c] => isStr a "move" && wthn b 0 1 && isRow c 1 8 && ((tupV c).all fun x => wthn x i (j - 1)) && decide ((tupV c).map intV).Nodup
  | _ => false
theorem ints_of {xs : List D} {i j : Int} (h : (xs.all fun x => wthn x i j) = true) : xs = (xs.map intV).map D.int := by
  rw [List.map_map]
  conv => lhs; rw [← List.map_id xs]
  refine List.map_congr_left fun x hx => ?_
  obtain ⟨y, rfl, _⟩ := wthn_int (List.all_eq_true.mp h x hx)
  rfl
def sp_is_move : SpD := fun ds L Q _ => ∃ d i j, ds = [d, .int i, .int j] ∧ Tm L d ∧ Q (.bl (isMove d i j)) L
theorem len_is_move : ∀ as L Q E, sp_is_move as L Q E → as.length = 3 := by rintro _ L Q E ⟨d, i, j, rfl, _⟩; rfl
def d_is_move_t2 : DS :=
  (sRet (dOp dEq (dLenSet (dOp dIx (dVar 0) (dC (.int 2)))) (dCB dLen (dCons (dOp dIx (dVar 0) (dC (.int 2))) dNil))))
def d_is_move_t1 : DS :=
  (sSeq (sIf (dOr (dNot (dTest (dCall sp_is_row (dCons (dOp dIx (dVar 0) (dC (.int 2))) (dCons (dC (.int 1)) (dCons (dC (.int 8)) dNil)))))) (dNot (dTest (dCall sp_are_places (dCons (dOp dIx (dVar 0) (dC (.int 2))) (dCons (dVar 1) (dCons (dVar 2) dNil))))))) (sRet (dC (.bl false))) sNext) d_is_move_t2)
def d_is_move : DS :=
  (sSeq (sIf (dOr (dNot (dTest (dCall sp_is_row (dCons (dVar 0) (dCons (dC (.int 3)) (dCons (dC (.int 3)) dNil)))))) (dOr (dTest (dOp dNe (dOp dIx (dVar 0) (dC (.int 0))) (dC (.str "move")))) (dNot (dTest (dCall sp_within (dCons (dOp dIx (dVar 0) (dC (.int 1))) (dCons (dC (.int 0)) (dCons (dC (.int 1)) dNil)))))))) (sRet (dC (.bl false))) sNext) d_is_move_t1)

theorem row3_no {d : D} (h : isRow d 3 3 = false) {P : D → Bool} (hP : ∀ x, P x = true → ∃ a b c, x = .tup [a, b, c]) : P d = false := by
  cases e : P d with
  | false => rfl
  | true =>
    obtain ⟨a, b, c, rfl⟩ := hP d e
    cases h
theorem isMove_row {d : D} {i j : Int} (h : isMove d i j = true) : ∃ a b c, d = .tup [a, b, c] := by
  unfold isMove at h
  split at h
  · exact ⟨_, _, _, rfl⟩
  · cases h
theorem pure_is_move : ∀ as L Q E, sp_is_move as L Q E → d_is_move (fnEnds Q E) (dstart 3 as) L := by
  rintro as L Q E ⟨d, i, j, rfl, hk, q⟩
  have q' := endOf q
  simp only [d_is_move, d_is_move_t2, d_is_move_t1, sp_is_row, sp_within, sp_are_places, dVar, dC, dOp, dUn, dNil, dCons, dTup, dLst, dCB, dTest, dAnd, dOr, dNot, dAndV, dOrV, dNotV, dIfE, dChain, sNext, sSeq, sBreak, sCont, sDrop, sRet, sRetN, sIf, gdName, gdNil, gdCons, gdTup, gdSub, sAsg, dCall, xOf, sFor, dSeq, dRng1, dRng2, dI, dI0, dB0, dAdd, dIsN, dNotN, isNon, dIx, dSetL, dNeg, one, two, dLen1, dListOf1, dTupOf1, dAbs1, dIntOf1, dII, marg, dAppend1, dExtend1, dIsi, isA, dSl, dPart, dNoPart, dCut, dLc, dYes, sRaise, sTry, exBy, sPar2, sPar3, dIsBl, dNotBl, dBM, dBM0, dEq, dNe, dIn, dSgn, dLc2, dEnum, dListRg1, dListRg2, dTupRg1, dTupRg2, dStrOf1, dRep, dLenSet, dstart, fnE_nx, fnE_rt, fnE_ex, Nat.zero_le, Nat.reduceLeDiff, decide_true, decide_false, true_or, or_true, false_or, or_false, decide_eq_true_eq, exists_eq_left', exists_eq_left, exists_eq_right, exists_eq_right', Option.some.injEq, List.cons.injEq, D.int.injEq, D.bl.injEq, D.str.injEq, D.tup.injEq, D.lro.injEq, D.ref.injEq, DO.lst.injEq, and_true, true_and, and_false, false_and, exists_false, exists_const, List.getElem?_cons_zero, List.getElem?_cons_succ, List.map_cons, List.map_nil, List.length_cons, List.length_nil, List.replicate_zero, List.replicate_succ, List.append_nil, List.cons_append, List.nil_append, List.set_cons_zero, List.set_cons_succ, Nat.reduceAdd, Nat.reduceSub, Nat.zero_add, reduceIte, Bool.false_eq_true, reduceCtorEq, if_true, if_false, Bool.not_true, Bool.not_false, exists_and_left]
  refine ⟨d, 3, 3, ⟨rfl, rfl, rfl⟩, hk.known, ?_⟩
  cases h : isRow d 3 3 with
  | false =>
    rw [row3_no (P := fun d => isMove d i j) h fun x => isMove_row] at q'
    simpa using q'
  | true =>
    obtain ⟨a, b, c, rfl⟩ := row3 h
    have ha : Tm L a := hk.mem (by simp)
    have hb : Tm L b := hk.mem (by simp)
    have hc : Tm L c := hk.mem (by simp)
    have e0 : isMove (.tup [a, b, c]) i j = (isStr a "move" && wthn b 0 1 && isRow c 1 8 && ((tupV c).all fun x => wthn x i (j - 1)) && decide ((tupV c).map intV).Nodup) := rfl
    simp only [dVar, dC, dOp, dUn, dNil, dCons, dTup, dLst, dCB, dTest, dAnd, dOr, dNot, dAndV, dOrV, dNotV, dIfE, dChain, sNext, sSeq, sBreak, sCont, sDrop, sRet, sRetN, sIf, gdName, gdNil, gdCons, gdTup, gdSub, sAsg, dCall, xOf, sFor, dSeq, dRng1, dRng2, dI, dI0, dB0, dAdd, dIsN, dNotN, isNon, dIx, dSetL, dNeg, one, two, dLen1, dListOf1, dTupOf1, dAbs1, dIntOf1, dII, marg, dAppend1, dExtend1, dIsi, isA, dSl, dPart, dNoPart, dCut, dLc, dYes, sRaise, sTry, exBy, sPar2, sPar3, dIsBl, dNotBl, dBM, dBM0, dEq, dNe, dIn, dSgn, dLc2, dEnum, dListRg1, dListRg2, dTupRg1, dTupRg2, dStrOf1, dRep, dLenSet, dstart, fnE_nx, fnE_rt, fnE_ex, Nat.zero_le, Nat.reduceLeDiff, decide_true, decide_false, true_or, or_true, false_or, or_false, decide_eq_true_eq, exists_eq_left', exists_eq_left, exists_eq_right, exists_eq_right', Option.some.injEq, List.cons.injEq, D.int.injEq, D.bl.injEq, D.str.injEq, D.tup.injEq, D.lro.injEq, D.ref.injEq, DO.lst.injEq, and_true, true_and, and_false, false_and, exists_false, exists_const, List.getElem?_cons_zero, List.getElem?_cons_succ, List.map_cons, List.map_nil, List.length_cons, List.length_nil, List.replicate_zero, List.replicate_succ, List.append_nil, List.cons_append, List.nil_append, List.set_cons_zero, List.set_cons_succ, Nat.reduceAdd, Nat.reduceSub, Nat.zero_add, reduceIte, Bool.false_eq_true, reduceCtorEq, if_true, if_false, Bool.not_true, Bool.not_false, exists_and_left, atI0, atI1, atI2, ha.eqs]
    rw [e0] at q'
    cases h1 : isStr a "move" with
    | false => rw [h1] at q'; simpa using q'
    | true =>
    rw [h1] at q'
    simp only [dVar, dC, dOp, dUn, dNil, dCons, dTup, dLst, dCB, dTest, dAnd, dOr, dNot, dAndV, dOrV, dNotV, dIfE, dChain, sNext, sSeq, sBreak, sCont, sDrop, sRet, sRetN, sIf, gdName, gdNil, gdCons, gdTup, gdSub, sAsg, dCall, xOf, sFor, dSeq, dRng1, dRng2, dI, dI0, dB0, dAdd, dIsN, dNotN, isNon, dIx, dSetL, dNeg, one, two, dLen1, dListOf1, dTupOf1, dAbs1, dIntOf1, dII, marg, dAppend1, dExtend1, dIsi, isA, dSl, dPart, dNoPart, dCut, dLc, dYes, sRaise, sTry, exBy, sPar2, sPar3, dIsBl, dNotBl, dBM, dBM0, dEq, dNe, dIn, dSgn, dLc2, dEnum, dListRg1, dListRg2, dTupRg1, dTupRg2, dStrOf1, dRep, dLenSet, dstart, fnE_nx, fnE_rt, fnE_ex, Nat.zero_le, Nat.reduceLeDiff, decide_true, decide_false, true_or, or_true, false_or, or_false, decide_eq_true_eq, exists_eq_left', exists_eq_left, exists_eq_right, exists_eq_right', Option.some.injEq, List.cons.injEq, D.int.injEq, D.bl.injEq, D.str.injEq, D.tup.injEq, D.lro.injEq, D.ref.injEq, DO.lst.injEq, and_true, true_and, and_false, false_and, exists_false, exists_const, List.getElem?_cons_zero, List.getElem?_cons_succ, List.map_cons, List.map_nil, List.length_cons, List.length_nil, List.replicate_zero, List.replicate_succ, List.append_nil, List.cons_append, List.nil_append, List.set_cons_zero, List.set_cons_succ, Nat.reduceAdd, Nat.reduceSub, Nat.zero_add, reduceIte, Bool.false_eq_true, reduceCtorEq, if_true, if_false, Bool.not_true, Bool.not_false, exists_and_left]
    refine ⟨b, 0, 1, ⟨rfl, rfl, rfl⟩, hb.known, ?_⟩
    cases h2 : wthn b 0 1 with
    | false => rw [h2] at q'; simpa using q'
    | true =>
    rw [h2] at q'
    simp only [dVar, dC, dOp, dUn, dNil, dCons, dTup, dLst, dCB, dTest, dAnd, dOr, dNot, dAndV, dOrV, dNotV, dIfE, dChain, sNext, sSeq, sBreak, sCont, sDrop, sRet, sRetN, sIf, gdName, gdNil, gdCons, gdTup, gdSub, sAsg, dCall, xOf, sFor, dSeq, dRng1, dRng2, dI, dI0, dB0, dAdd, dIsN, dNotN, isNon, dIx, dSetL, dNeg, one, two, dLen1, dListOf1, dTupOf1, dAbs1, dIntOf1, dII, marg, dAppend1, dExtend1, dIsi, isA, dSl, dPart, dNoPart, dCut, dLc, dYes, sRaise, sTry, exBy, sPar2, sPar3, dIsBl, dNotBl, dBM, dBM0, dEq, dNe, dIn, dSgn, dLc2, dEnum, dListRg1, dListRg2, dTupRg1, dTupRg2, dStrOf1, dRep, dLenSet, dstart, fnE_nx, fnE_rt, fnE_ex, Nat.zero_le, Nat.reduceLeDiff, decide_true, decide_false, true_or, or_true, false_or, or_false, decide_eq_true_eq, exists_eq_left', exists_eq_left, exists_eq_right, exists_eq_right', Option.some.injEq, List.cons.injEq, D.int.injEq, D.bl.injEq, D.str.injEq, D.tup.injEq, D.lro.injEq, D.ref.injEq, DO.lst.injEq, and_true, true_and, and_false, false_and, exists_false, exists_const, List.getElem?_cons_zero, List.getElem?_cons_succ, List.map_cons, List.map_nil, List.length_cons, List.length_nil, List.replicate_zero, List.replicate_succ, List.append_nil, List.cons_append, List.nil_append, List.set_cons_zero, List.set_cons_succ, Nat.reduceAdd, Nat.reduceSub, Nat.zero_add, reduceIte, Bool.false_eq_true, reduceCtorEq, if_true, if_false, Bool.not_true, Bool.not_false, exists_and_left]
    refine ⟨c, 1, 8, ⟨rfl, rfl, rfl⟩, hc.known, ?_⟩
    cases h3 : isRow c 1 8 with
    | false => rw [h3] at q'; simpa using q'
    | true =>
    rw [h3] at q'
    obtain ⟨cs, rfl, c1, c2⟩ := isRow_tup h3
    simp only [dVar, dC, dOp, dUn, dNil, dCons, dTup, dLst, dCB, dTest, dAnd, dOr, dNot, dAndV, dOrV, dNotV, dIfE, dChain, sNext, sSeq, sBreak, sCont, sDrop, sRet, sRetN, sIf, gdName, gdNil, gdCons, gdTup, gdSub, sAsg, dCall, xOf, sFor, dSeq, dRng1, dRng2, dI, dI0, dB0, dAdd, dIsN, dNotN, isNon, dIx, dSetL, dNeg, one, two, dLen1, dListOf1, dTupOf1, dAbs1, dIntOf1, dII, marg, dAppend1, dExtend1, dIsi, isA, dSl, dPart, dNoPart, dCut, dLc, dYes, sRaise, sTry, exBy, sPar2, sPar3, dIsBl, dNotBl, dBM, dBM0, dEq, dNe, dIn, dSgn, dLc2, dEnum, dListRg1, dListRg2, dTupRg1, dTupRg2, dStrOf1, dRep, dLenSet, dstart, fnE_nx, fnE_rt, fnE_ex, Nat.zero_le, Nat.reduceLeDiff, decide_true, decide_false, true_or, or_true, false_or, or_false, decide_eq_true_eq, exists_eq_left', exists_eq_left, exists_eq_right, exists_eq_right', Option.some.injEq, List.cons.injEq, D.int.injEq, D.bl.injEq, D.str.injEq, D.tup.injEq, D.lro.injEq, D.ref.injEq, DO.lst.injEq, and_true, true_and, and_false, false_and, exists_false, exists_const, List.getElem?_cons_zero, List.getElem?_cons_succ, List.map_cons, List.map_nil, List.length_cons, List.length_nil, List.replicate_zero, List.replicate_succ, List.append_nil, List.cons_append, List.nil_append, List.set_cons_zero, List.set_cons_succ, Nat.reduceAdd, Nat.reduceSub, Nat.zero_add, reduceIte, Bool.false_eq_true, reduceCtorEq, if_true, if_false, Bool.not_true, Bool.not_false, exists_and_left]
    refine ⟨cs, i, j, ⟨rfl, rfl, rfl⟩, hc, ?_⟩
    have e1 : tupV (.tup cs) = cs := rfl
    rw [e1] at q'
    cases h4 : cs.all fun x => wthn x i (j - 1) with
    | false => rw [h4] at q'; simpa using q'
    | true =>
    rw [h4] at q'
    have h5 := ints_of h4
    simp only [dVar, dC, dOp, dUn, dNil, dCons, dTup, dLst, dCB, dTest, dAnd, dOr, dNot, dAndV, dOrV, dNotV, dIfE, dChain, sNext, sSeq, sBreak, sCont, sDrop, sRet, sRetN, sIf, gdName, gdNil, gdCons, gdTup, gdSub, sAsg, dCall, xOf, sFor, dSeq, dRng1, dRng2, dI, dI0, dB0, dAdd, dIsN, dNotN, isNon, dIx, dSetL, dNeg, one, two, dLen1, dListOf1, dTupOf1, dAbs1, dIntOf1, dII, marg, dAppend1, dExtend1, dIsi, isA, dSl, dPart, dNoPart, dCut, dLc, dYes, sRaise, sTry, exBy, sPar2, sPar3, dIsBl, dNotBl, dBM, dBM0, dEq, dNe, dIn, dSgn, dLc2, dEnum, dListRg1, dListRg2, dTupRg1, dTupRg2, dStrOf1, dRep, dLenSet, dstart, fnE_nx, fnE_rt, fnE_ex, Nat.zero_le, Nat.reduceLeDiff, decide_true, decide_false, true_or, or_true, false_or, or_false, decide_eq_true_eq, exists_eq_left', exists_eq_left, exists_eq_right, exists_eq_right', Option.some.injEq, List.cons.injEq, D.int.injEq, D.bl.injEq, D.str.injEq, D.tup.injEq, D.lro.injEq, D.ref.injEq, DO.lst.injEq, and_true, true_and, and_false, false_and, exists_false, exists_const, List.getElem?_cons_zero, List.getElem?_cons_succ, List.map_cons, List.map_nil, List.length_cons, List.length_nil, List.replicate_zero, List.replicate_succ, List.append_nil, List.cons_append, List.nil_append, List.set_cons_zero, List.set_cons_succ, Nat.reduceAdd, Nat.reduceSub, Nat.zero_add, reduceIte, Bool.false_eq_true, reduceCtorEq, if_true, if_false, Bool.not_true, Bool.not_false, exists_and_left]
    refine ⟨cs, rfl, (cs.map intV).map Sum.inl, by rw [← keys_ints, ← h5], by simp; omega, ?_⟩
    simp only [eqD_int, dVar, dC, dOp, dUn, dNil, dCons, dTup, dLst, dCB, dTest, dAnd, dOr, dNot, dAndV, dOrV, dNotV, dIfE, dChain, sNext, sSeq, sBreak, sCont, sDrop, sRet, sRetN, sIf, gdName, gdNil, gdCons, gdTup, gdSub, sAsg, dCall, xOf, sFor, dSeq, dRng1, dRng2, dI, dI0, dB0, dAdd, dIsN, dNotN, isNon, dIx, dSetL, dNeg, one, two, dLen1, dListOf1, dTupOf1, dAbs1, dIntOf1, dII, marg, dAppend1, dExtend1, dIsi, isA, dSl, dPart, dNoPart, dCut, dLc, dYes, sRaise, sTry, exBy, sPar2, sPar3, dIsBl, dNotBl, dBM, dBM0, dEq, dNe, dIn, dSgn, dLc2, dEnum, dListRg1, dListRg2, dTupRg1, dTupRg2, dStrOf1, dRep, dLenSet, dstart, fnE_nx, fnE_rt, fnE_ex, Nat.zero_le, Nat.reduceLeDiff, decide_true, decide_false, true_or, or_true, false_or, or_false, decide_eq_true_eq, exists_eq_left', exists_eq_left, exists_eq_right, exists_eq_right', Option.some.injEq, List.cons.injEq, D.int.injEq, D.bl.injEq, D.str.injEq, D.tup.injEq, D.lro.injEq, D.ref.injEq, DO.lst.injEq, and_true, true_and, and_false, false_and, exists_false, exists_const, List.getElem?_cons_zero, List.getElem?_cons_succ, List.map_cons, List.map_nil, List.length_cons, List.length_nil, List.replicate_zero, List.replicate_succ, List.append_nil, List.cons_append, List.nil_append, List.set_cons_zero, List.set_cons_succ, Nat.reduceAdd, Nat.reduceSub, Nat.zero_add, reduceIte, Bool.false_eq_true, reduceCtorEq, if_true, if_false, Bool.not_true, Bool.not_false, exists_and_left]
    by_cases hn : (cs.map intV).Nodup
    · have hd : (dd ((cs.map intV).map (Sum.inl : Int → Key))).length = cs.length := by rw [(dd_eq _).mpr ((nodup_inl _).mpr hn)]; simp
      rw [hd]
      simpa [hn] using q'
    · have hd : (dd ((cs.map intV).map (Sum.inl : Int → Key))).length ≠ cs.length := fun e => hn ((nodup_inl _).mp ((dd_eq _).mp (by rw [e]; simp)))
      have : (((dd ((cs.map intV).map (Sum.inl : Int → Key))).length : Int) == (cs.length : Int)) = false := beq_eq_false_iff_ne.mpr (by omega)
      rw [this]
      simpa [hn] using q'
def isCall (d : D) (i j : Int) (exits : List Int) : Bool := match d with
  | .tup [a, b, c] => isStr a "call" && wthn b 0 ((exits.length : Int) - 1) && isRow c (exits.getD (intV b).toNat 0) (exits.getD (intV b).toNat 0) && ((tupV c).all fun x => wthn x i (j - 1))
  | _ => false
theorem isCall_row {d : D} {i j : Int} {ex : List Int} (h : isCall d i j ex = true) : ∃ a b c, d = .tup [a, b, c] := by
  unfold isCall at h
  split at h
  · exact ⟨_, _, _, rfl⟩
  · cases h
theorem atI_ints' {ns : List Int} {i : Int} (h0 : 0 ≤ i) (h1 : i < ns.length) : atI (ns.map D.int) i = some (.int (ns.getD i.toNat 0)) := by
  have h : i.toNat < ns.length := by omega
  have q := atI_nat (xs := ns.map D.int) (j := i.toNat) (v := .int (ns.getD i.toNat 0)) (by
    rw [List.getElem?_map, List.getElem?_eq_getElem h, List.getD_eq_getElem?_getD, List.getElem?_eq_getElem h]; rfl)
  rwa [show ((i.toNat : Nat) : Int) = i by omega] at q
def sp_is_call : SpD := fun ds L Q _ => ∃ d i j a exits, ds = [d, .int i, .int j, .ref a] ∧ Tm L d ∧ L a = some (.lst (exits.map .int)) ∧ Q (.bl (isCall d i j exits)) L
theorem len_is_call : ∀ as L Q E, sp_is_call as L Q E → as.length = 4 := by rintro _ L Q E ⟨d, i, j, a, ex, rfl, _⟩; rfl
def d_is_call_t1 : DS :=
  (sRet (dAndV (dCall sp_is_row (dCons (dOp dIx (dVar 0) (dC (.int 2))) (dCons (dOp dIx (dVar 3) (dOp dIx (dVar 0) (dC (.int 1)))) (dCons (dOp dIx (dVar 3) (dOp dIx (dVar 0) (dC (.int 1)))) dNil)))) (dCall sp_are_places (dCons (dOp dIx (dVar 0) (dC (.int 2))) (dCons (dVar 1) (dCons (dVar 2) dNil))))))
def d_is_call : DS :=
  (sSeq (sIf (dOr (dNot (dTest (dCall sp_is_row (dCons (dVar 0) (dCons (dC (.int 3)) (dCons (dC (.int 3)) dNil)))))) (dOr (dTest (dOp dNe (dOp dIx (dVar 0) (dC (.int 0))) (dC (.str "call")))) (dNot (dTest (dCall sp_within (dCons (dOp dIx (dVar 0) (dC (.int 1))) (dCons (dC (.int 0)) (dCons (dOp dSub (dCB dLen (dCons (dVar 3) dNil)) (dC (.int 1))) dNil)))))))) (sRet (dC (.bl false))) sNext) d_is_call_t1)

theorem pure_is_call : ∀ as L Q E, sp_is_call as L Q E → d_is_call (fnEnds Q E) (dstart 4 as) L := by
  rintro as L Q E ⟨d, i, j, p, exits, rfl, hk, hp, q⟩
  have q' := endOf q
  simp only [d_is_call, d_is_call_t1, sp_is_row, sp_within, sp_are_places, dVar, dC, dOp, dUn, dNil, dCons, dTup, dLst, dCB, dTest, dAnd, dOr, dNot, dAndV, dOrV, dNotV, dIfE, dChain, sNext, sSeq, sBreak, sCont, sDrop, sRet, sRetN, sIf, gdName, gdNil, gdCons, gdTup, gdSub, sAsg, dCall, xOf, sFor, dSeq, dRng1, dRng2, dI, dI0, dB0, dAdd, dIsN, dNotN, isNon, dIx, dSetL, dNeg, one, two, dLen1, dListOf1, dTupOf1, dAbs1, dIntOf1, dII, marg, dAppend1, dExtend1, dIsi, isA, dSl, dPart, dNoPart, dCut, dLc, dYes, sRaise, sTry, exBy, sPar2, sPar3, dIsBl, dNotBl, dBM, dBM0, dEq, dNe, dIn, dSgn, dLc2, dEnum, dListRg1, dListRg2, dTupRg1, dTupRg2, dStrOf1, dRep, dLenSet, dstart, fnE_nx, fnE_rt, fnE_ex, Nat.zero_le, Nat.reduceLeDiff, decide_true, decide_false, true_or, or_true, false_or, or_false, decide_eq_true_eq, exists_eq_left', exists_eq_left, exists_eq_right, exists_eq_right', Option.some.injEq, List.cons.injEq, D.int.injEq, D.bl.injEq, D.str.injEq, D.tup.injEq, D.lro.injEq, D.ref.injEq, DO.lst.injEq, and_true, true_and, and_false, false_and, exists_false, exists_const, List.getElem?_cons_zero, List.getElem?_cons_succ, List.map_cons, List.map_nil, List.length_cons, List.length_nil, List.replicate_zero, List.replicate_succ, List.append_nil, List.cons_append, List.nil_append, List.set_cons_zero, List.set_cons_succ, Nat.reduceAdd, Nat.reduceSub, Nat.zero_add, reduceIte, Bool.false_eq_true, reduceCtorEq, if_true, if_false, Bool.not_true, Bool.not_false, exists_and_left, hp]
  refine ⟨d, 3, 3, ⟨rfl, rfl, rfl⟩, hk.known, ?_⟩
  cases h : isRow d 3 3 with
  | false =>
    rw [row3_no (P := fun d => isCall d i j exits) h fun x => isCall_row] at q'
    simpa using q'
  | true =>
    obtain ⟨a, b, c, rfl⟩ := row3 h
    have ha : Tm L a := hk.mem (by simp)
    have hb : Tm L b := hk.mem (by simp)
    have hc : Tm L c := hk.mem (by simp)
    have e0 : isCall (.tup [a, b, c]) i j exits = (isStr a "call" && wthn b 0 ((exits.length : Int) - 1) && isRow c (exits.getD (intV b).toNat 0) (exits.getD (intV b).toNat 0) && ((tupV c).all fun x => wthn x i (j - 1))) := rfl
    simp only [dVar, dC, dOp, dUn, dNil, dCons, dTup, dLst, dCB, dTest, dAnd, dOr, dNot, dAndV, dOrV, dNotV, dIfE, dChain, sNext, sSeq, sBreak, sCont, sDrop, sRet, sRetN, sIf, gdName, gdNil, gdCons, gdTup, gdSub, sAsg, dCall, xOf, sFor, dSeq, dRng1, dRng2, dI, dI0, dB0, dAdd, dIsN, dNotN, isNon, dIx, dSetL, dNeg, one, two, dLen1, dListOf1, dTupOf1, dAbs1, dIntOf1, dII, marg, dAppend1, dExtend1, dIsi, isA, dSl, dPart, dNoPart, dCut, dLc, dYes, sRaise, sTry, exBy, sPar2, sPar3, dIsBl, dNotBl, dBM, dBM0, dEq, dNe, dIn, dSgn, dLc2, dEnum, dListRg1, dListRg2, dTupRg1, dTupRg2, dStrOf1, dRep, dLenSet, dstart, fnE_nx, fnE_rt, fnE_ex, Nat.zero_le, Nat.reduceLeDiff, decide_true, decide_false, true_or, or_true, false_or, or_false, decide_eq_true_eq, exists_eq_left', exists_eq_left, exists_eq_right, exists_eq_right', Option.some.injEq, List.cons.injEq, D.int.injEq, D.bl.injEq, D.str.injEq, D.tup.injEq, D.lro.injEq, D.ref.injEq, DO.lst.injEq, and_true, true_and, and_false, false_and, exists_false, exists_const, List.getElem?_cons_zero, List.getElem?_cons_succ, List.map_cons, List.map_nil, List.length_cons, List.length_nil, List.replicate_zero, List.replicate_succ, List.append_nil, List.cons_append, List.nil_append, List.set_cons_zero, List.set_cons_succ, Nat.reduceAdd, Nat.reduceSub, Nat.zero_add, reduceIte, Bool.false_eq_true, reduceCtorEq, if_true, if_false, Bool.not_true, Bool.not_false, exists_and_left, atI0, atI1, atI2, ha.eqs, hp]
    rw [e0] at q'
    cases h1 : isStr a "call" with
    | false => rw [h1] at q'; simpa using q'
    | true =>
    rw [h1] at q'
    simp only [dVar, dC, dOp, dUn, dNil, dCons, dTup, dLst, dCB, dTest, dAnd, dOr, dNot, dAndV, dOrV, dNotV, dIfE, dChain, sNext, sSeq, sBreak, sCont, sDrop, sRet, sRetN, sIf, gdName, gdNil, gdCons, gdTup, gdSub, sAsg, dCall, xOf, sFor, dSeq, dRng1, dRng2, dI, dI0, dB0, dAdd, dIsN, dNotN, isNon, dIx, dSetL, dNeg, one, two, dLen1, dListOf1, dTupOf1, dAbs1, dIntOf1, dII, marg, dAppend1, dExtend1, dIsi, isA, dSl, dPart, dNoPart, dCut, dLc, dYes, sRaise, sTry, exBy, sPar2, sPar3, dIsBl, dNotBl, dBM, dBM0, dEq, dNe, dIn, dSgn, dLc2, dEnum, dListRg1, dListRg2, dTupRg1, dTupRg2, dStrOf1, dRep, dLenSet, dstart, fnE_nx, fnE_rt, fnE_ex, Nat.zero_le, Nat.reduceLeDiff, decide_true, decide_false, true_or, or_true, false_or, or_false, decide_eq_true_eq, exists_eq_left', exists_eq_left, exists_eq_right, exists_eq_right', Option.some.injEq, List.cons.injEq, D.int.injEq, D.bl.injEq, D.str.injEq, D.tup.injEq, D.lro.injEq, D.ref.injEq, DO.lst.injEq, and_true, true_and, and_false, false_and, exists_false, exists_const, List.getElem?_cons_zero, List.getElem?_cons_succ, List.map_cons, List.map_nil, List.length_cons, List.length_nil, List.replicate_zero, List.replicate_succ, List.append_nil, List.cons_append, List.nil_append, List.set_cons_zero, List.set_cons_succ, Nat.reduceAdd, Nat.reduceSub, Nat.zero_add, reduceIte, Bool.false_eq_true, reduceCtorEq, if_true, if_false, Bool.not_true, Bool.not_false, exists_and_left, hp]
    refine ⟨b, _, _, ⟨rfl, rfl, rfl⟩, hb.known, ?_⟩
    rw [List.length_map]
    cases h2 : wthn b 0 ((exits.length : Int) - 1) with
    | false => rw [h2] at q'; simpa using q'
    | true =>
    rw [h2] at q'
    obtain ⟨x, rfl, x1, x2⟩ := wthn_int h2
    simp only [dVar, dC, dOp, dUn, dNil, dCons, dTup, dLst, dCB, dTest, dAnd, dOr, dNot, dAndV, dOrV, dNotV, dIfE, dChain, sNext, sSeq, sBreak, sCont, sDrop, sRet, sRetN, sIf, gdName, gdNil, gdCons, gdTup, gdSub, sAsg, dCall, xOf, sFor, dSeq, dRng1, dRng2, dI, dI0, dB0, dAdd, dIsN, dNotN, isNon, dIx, dSetL, dNeg, one, two, dLen1, dListOf1, dTupOf1, dAbs1, dIntOf1, dII, marg, dAppend1, dExtend1, dIsi, isA, dSl, dPart, dNoPart, dCut, dLc, dYes, sRaise, sTry, exBy, sPar2, sPar3, dIsBl, dNotBl, dBM, dBM0, dEq, dNe, dIn, dSgn, dLc2, dEnum, dListRg1, dListRg2, dTupRg1, dTupRg2, dStrOf1, dRep, dLenSet, dstart, fnE_nx, fnE_rt, fnE_ex, Nat.zero_le, Nat.reduceLeDiff, decide_true, decide_false, true_or, or_true, false_or, or_false, decide_eq_true_eq, exists_eq_left', exists_eq_left, exists_eq_right, exists_eq_right', Option.some.injEq, List.cons.injEq, D.int.injEq, D.bl.injEq, D.str.injEq, D.tup.injEq, D.lro.injEq, D.ref.injEq, DO.lst.injEq, and_true, true_and, and_false, false_and, exists_false, exists_const, List.getElem?_cons_zero, List.getElem?_cons_succ, List.map_cons, List.map_nil, List.length_cons, List.length_nil, List.replicate_zero, List.replicate_succ, List.append_nil, List.cons_append, List.nil_append, List.set_cons_zero, List.set_cons_succ, Nat.reduceAdd, Nat.reduceSub, Nat.zero_add, reduceIte, Bool.false_eq_true, reduceCtorEq, if_true, if_false, Bool.not_true, Bool.not_false, exists_and_left, hp, atI_ints' x1 (by omega : x < exits.length)]
    have ex : intV (.int x) = x := rfl
    rw [ex] at q'
    refine ⟨c, _, _, ⟨rfl, rfl, rfl⟩, hc.known, ?_⟩
    cases h3 : isRow c (exits.getD x.toNat 0) (exits.getD x.toNat 0) with
    | false => rw [h3] at q'; simpa using q'
    | true =>
    rw [h3] at q'
    obtain ⟨cs, rfl, c1, c2⟩ := isRow_tup h3
    simp only [dVar, dC, dOp, dUn, dNil, dCons, dTup, dLst, dCB, dTest, dAnd, dOr, dNot, dAndV, dOrV, dNotV, dIfE, dChain, sNext, sSeq, sBreak, sCont, sDrop, sRet, sRetN, sIf, gdName, gdNil, gdCons, gdTup, gdSub, sAsg, dCall, xOf, sFor, dSeq, dRng1, dRng2, dI, dI0, dB0, dAdd, dIsN, dNotN, isNon, dIx, dSetL, dNeg, one, two, dLen1, dListOf1, dTupOf1, dAbs1, dIntOf1, dII, marg, dAppend1, dExtend1, dIsi, isA, dSl, dPart, dNoPart, dCut, dLc, dYes, sRaise, sTry, exBy, sPar2, sPar3, dIsBl, dNotBl, dBM, dBM0, dEq, dNe, dIn, dSgn, dLc2, dEnum, dListRg1, dListRg2, dTupRg1, dTupRg2, dStrOf1, dRep, dLenSet, dstart, fnE_nx, fnE_rt, fnE_ex, Nat.zero_le, Nat.reduceLeDiff, decide_true, decide_false, true_or, or_true, false_or, or_false, decide_eq_true_eq, exists_eq_left', exists_eq_left, exists_eq_right, exists_eq_right', Option.some.injEq, List.cons.injEq, D.int.injEq, D.bl.injEq, D.str.injEq, D.tup.injEq, D.lro.injEq, D.ref.injEq, DO.lst.injEq, and_true, true_and, and_false, false_and, exists_false, exists_const, List.getElem?_cons_zero, List.getElem?_cons_succ, List.map_cons, List.map_nil, List.length_cons, List.length_nil, List.replicate_zero, List.replicate_succ, List.append_nil, List.cons_append, List.nil_append, List.set_cons_zero, List.set_cons_succ, Nat.reduceAdd, Nat.reduceSub, Nat.zero_add, reduceIte, Bool.false_eq_true, reduceCtorEq, if_true, if_false, Bool.not_true, Bool.not_false, exists_and_left]
    refine ⟨cs, i, j, ⟨rfl, rfl, rfl⟩, hc, ?_⟩
    simpa [tupV] using q'
def isExit (d : D) (many : Int) : Bool := match d with
  | .tup [a, b] => isStr a "exit" && wthn b 0 (many - 1)
  | _ => false
theorem row2_no {d : D} (h : isRow d 2 2 = false) {P : D → Bool} (hP : ∀ x, P x = true → ∃ a b, x = .tup [a, b]) : P d = false := by
  cases e : P d with
  | false => rfl
  | true =>
    obtain ⟨a, b, rfl⟩ := hP d e
    cases h
theorem isExit_row {d : D} {i : Int} (h : isExit d i = true) : ∃ a b, d = .tup [a, b] := by
  unfold isExit at h
  split at h
  · exact ⟨_, _, rfl⟩
  · cases h
def sp_is_exit : SpD := fun ds L Q _ => ∃ d i, ds = [d, .int i] ∧ Tm L d ∧ Q (.bl (isExit d i)) L
theorem len_is_exit : ∀ as L Q E, sp_is_exit as L Q E → as.length = 2 := by rintro _ L Q E ⟨d, i, rfl, _⟩; rfl
def d_is_exit : DS :=
  (sRet (dAndV (dCall sp_is_row (dCons (dVar 0) (dCons (dC (.int 2)) (dCons (dC (.int 2)) dNil)))) (dAndV (dOp dEq (dOp dIx (dVar 0) (dC (.int 0))) (dC (.str "exit"))) (dCall sp_within (dCons (dOp dIx (dVar 0) (dC (.int 1))) (dCons (dC (.int 0)) (dCons (dOp dSub (dVar 1) (dC (.int 1))) dNil)))))))

theorem pure_is_exit : ∀ as L Q E, sp_is_exit as L Q E → d_is_exit (fnEnds Q E) (dstart 2 as) L := by
  rintro as L Q E ⟨d, i, rfl, hk, q⟩
  have q' := endOf q
  simp only [d_is_exit, sp_is_row, sp_within, dVar, dC, dOp, dUn, dNil, dCons, dTup, dLst, dCB, dTest, dAnd, dOr, dNot, dAndV, dOrV, dNotV, dIfE, dChain, sNext, sSeq, sBreak, sCont, sDrop, sRet, sRetN, sIf, gdName, gdNil, gdCons, gdTup, gdSub, sAsg, dCall, xOf, sFor, dSeq, dRng1, dRng2, dI, dI0, dB0, dAdd, dIsN, dNotN, isNon, dIx, dSetL, dNeg, one, two, dLen1, dListOf1, dTupOf1, dAbs1, dIntOf1, dII, marg, dAppend1, dExtend1, dIsi, isA, dSl, dPart, dNoPart, dCut, dLc, dYes, sRaise, sTry, exBy, sPar2, sPar3, dIsBl, dNotBl, dBM, dBM0, dEq, dNe, dIn, dSgn, dLc2, dEnum, dListRg1, dListRg2, dTupRg1, dTupRg2, dStrOf1, dRep, dLenSet, dstart, fnE_nx, fnE_rt, fnE_ex, Nat.zero_le, Nat.reduceLeDiff, decide_true, decide_false, true_or, or_true, false_or, or_false, decide_eq_true_eq, exists_eq_left', exists_eq_left, exists_eq_right, exists_eq_right', Option.some.injEq, List.cons.injEq, D.int.injEq, D.bl.injEq, D.str.injEq, D.tup.injEq, D.lro.injEq, D.ref.injEq, DO.lst.injEq, and_true, true_and, and_false, false_and, exists_false, exists_const, List.getElem?_cons_zero, List.getElem?_cons_succ, List.map_cons, List.map_nil, List.length_cons, List.length_nil, List.replicate_zero, List.replicate_succ, List.append_nil, List.cons_append, List.nil_append, List.set_cons_zero, List.set_cons_succ, Nat.reduceAdd, Nat.reduceSub, Nat.zero_add, reduceIte, Bool.false_eq_true, reduceCtorEq, if_true, if_false, Bool.not_true, Bool.not_false, exists_and_left]
  refine ⟨d, 2, 2, ⟨rfl, rfl, rfl⟩, hk.known, ?_⟩
  cases h : isRow d 2 2 with
  | false =>
    rw [row2_no (P := fun d => isExit d i) h fun x => isExit_row] at q'
    simpa using q'
  | true =>
    obtain ⟨a, b, rfl⟩ := row2 h
    have ha : Tm L a := hk.mem (by simp)
    have hb : Tm L b := hk.mem (by simp)
    have e0 : isExit (.tup [a, b]) i = (isStr a "exit" && wthn b 0 (i - 1)) := rfl
    simp only [dVar, dC, dOp, dUn, dNil, dCons, dTup, dLst, dCB, dTest, dAnd, dOr, dNot, dAndV, dOrV, dNotV, dIfE, dChain, sNext, sSeq, sBreak, sCont, sDrop, sRet, sRetN, sIf, gdName, gdNil, gdCons, gdTup, gdSub, sAsg, dCall, xOf, sFor, dSeq, dRng1, dRng2, dI, dI0, dB0, dAdd, dIsN, dNotN, isNon, dIx, dSetL, dNeg, one, two, dLen1, dListOf1, dTupOf1, dAbs1, dIntOf1, dII, marg, dAppend1, dExtend1, dIsi, isA, dSl, dPart, dNoPart, dCut, dLc, dYes, sRaise, sTry, exBy, sPar2, sPar3, dIsBl, dNotBl, dBM, dBM0, dEq, dNe, dIn, dSgn, dLc2, dEnum, dListRg1, dListRg2, dTupRg1, dTupRg2, dStrOf1, dRep, dLenSet, dstart, fnE_nx, fnE_rt, fnE_ex, Nat.zero_le, Nat.reduceLeDiff, decide_true, decide_false, true_or, or_true, false_or, or_false, decide_eq_true_eq, exists_eq_left', exists_eq_left, exists_eq_right, exists_eq_right', Option.some.injEq, List.cons.injEq, D.int.injEq, D.bl.injEq, D.str.injEq, D.tup.injEq, D.lro.injEq, D.ref.injEq, DO.lst.injEq, and_true, true_and, and_false, false_and, exists_false, exists_const, List.getElem?_cons_zero, List.getElem?_cons_succ, List.map_cons, List.map_nil, List.length_cons, List.length_nil, List.replicate_zero, List.replicate_succ, List.append_nil, List.cons_append, List.nil_append, List.set_cons_zero, List.set_cons_succ, Nat.reduceAdd, Nat.reduceSub, Nat.zero_add, reduceIte, Bool.false_eq_true, reduceCtorEq, if_true, if_false, Bool.not_true, Bool.not_false, exists_and_left, atI0, atI1, ha.eqs]
    rw [e0] at q'
    cases h1 : isStr a "exit" with
    | false => rw [h1] at q'; simpa using q'
    | true =>
    rw [h1] at q'
    simp only [dVar, dC, dOp, dUn, dNil, dCons, dTup, dLst, dCB, dTest, dAnd, dOr, dNot, dAndV, dOrV, dNotV, dIfE, dChain, sNext, sSeq, sBreak, sCont, sDrop, sRet, sRetN, sIf, gdName, gdNil, gdCons, gdTup, gdSub, sAsg, dCall, xOf, sFor, dSeq, dRng1, dRng2, dI, dI0, dB0, dAdd, dIsN, dNotN, isNon, dIx, dSetL, dNeg, one, two, dLen1, dListOf1, dTupOf1, dAbs1, dIntOf1, dII, marg, dAppend1, dExtend1, dIsi, isA, dSl, dPart, dNoPart, dCut, dLc, dYes, sRaise, sTry, exBy, sPar2, sPar3, dIsBl, dNotBl, dBM, dBM0, dEq, dNe, dIn, dSgn, dLc2, dEnum, dListRg1, dListRg2, dTupRg1, dTupRg2, dStrOf1, dRep, dLenSet, dstart, fnE_nx, fnE_rt, fnE_ex, Nat.zero_le, Nat.reduceLeDiff, decide_true, decide_false, true_or, or_true, false_or, or_false, decide_eq_true_eq, exists_eq_left', exists_eq_left, exists_eq_right, exists_eq_right', Option.some.injEq, List.cons.injEq, D.int.injEq, D.bl.injEq, D.str.injEq, D.tup.injEq, D.lro.injEq, D.ref.injEq, DO.lst.injEq, and_true, true_and, and_false, false_and, exists_false, exists_const, List.getElem?_cons_zero, List.getElem?_cons_succ, List.map_cons, List.map_nil, List.length_cons, List.length_nil, List.replicate_zero, List.replicate_succ, List.append_nil, List.cons_append, List.nil_append, List.set_cons_zero, List.set_cons_succ, Nat.reduceAdd, Nat.reduceSub, Nat.zero_add, reduceIte, Bool.false_eq_true, reduceCtorEq, if_true, if_false, Bool.not_true, Bool.not_false, exists_and_left, atI0, atI1]
    refine ⟨b, _, _, ⟨rfl, rfl, rfl⟩, hb.known, ?_⟩
    simpa using q'
def isPlc (d : D) (i j : Int) (exits : List Int) : Bool := match d with
  | .tup [m, w] => wthn m 0 9 && (isMove w i j || isCall w i j exits || isExit w (exits.getD i.toNat 0))
  | _ => false
theorem isPlc_row {d : D} {i j : Int} {ex : List Int} (h : isPlc d i j ex = true) : ∃ a b, d = .tup [a, b] := by
  unfold isPlc at h
  split at h
  · exact ⟨_, _, rfl⟩
  · cases h
def sp_is_place : SpD := fun ds L Q _ => ∃ d i j a exits, ds = [d, .int i, .int j, .ref a] ∧ Tm L d ∧ L a = some (.lst (exits.map .int)) ∧ 0 ≤ i ∧ i < exits.length ∧ Q (.bl (isPlc d i j exits)) L
theorem len_is_place : ∀ as L Q E, sp_is_place as L Q E → as.length = 4 := by rintro _ L Q E ⟨d, i, j, a, ex, rfl, _⟩; rfl
def d_is_place_t2 : DS :=
  (sRet (dOrV (dCall sp_is_move (dCons (dVar 4) (dCons (dVar 1) (dCons (dVar 2) dNil)))) (dOrV (dCall sp_is_call (dCons (dVar 4) (dCons (dVar 1) (dCons (dVar 2) (dCons (dVar 3) dNil))))) (dCall sp_is_exit (dCons (dVar 4) (dCons (dOp dIx (dVar 3) (dVar 1)) dNil))))))
def d_is_place_t1 : DS :=
  (sSeq (sAsg (dOp dIx (dVar 0) (dC (.int 1))) (gdName 4)) d_is_place_t2)
def d_is_place : DS :=
  (sSeq (sIf (dOr (dNot (dTest (dCall sp_is_row (dCons (dVar 0) (dCons (dC (.int 2)) (dCons (dC (.int 2)) dNil)))))) (dNot (dTest (dCall sp_within (dCons (dOp dIx (dVar 0) (dC (.int 0))) (dCons (dC (.int 0)) (dCons (dC (.int 9)) dNil))))))) (sRet (dC (.bl false))) sNext) d_is_place_t1)

theorem pure_is_place : ∀ as L Q E, sp_is_place as L Q E → d_is_place (fnEnds Q E) (dstart 5 as) L := by
  rintro as L Q E ⟨d, i, j, p, exits, rfl, hk, hp, i0, i1, q⟩
  have q' := endOf q
  simp only [d_is_place, d_is_place_t2, d_is_place_t1, sp_is_row, sp_within, dVar, dC, dOp, dUn, dNil, dCons, dTup, dLst, dCB, dTest, dAnd, dOr, dNot, dAndV, dOrV, dNotV, dIfE, dChain, sNext, sSeq, sBreak, sCont, sDrop, sRet, sRetN, sIf, gdName, gdNil, gdCons, gdTup, gdSub, sAsg, dCall, xOf, sFor, dSeq, dRng1, dRng2, dI, dI0, dB0, dAdd, dIsN, dNotN, isNon, dIx, dSetL, dNeg, one, two, dLen1, dListOf1, dTupOf1, dAbs1, dIntOf1, dII, marg, dAppend1, dExtend1, dIsi, isA, dSl, dPart, dNoPart, dCut, dLc, dYes, sRaise, sTry, exBy, sPar2, sPar3, dIsBl, dNotBl, dBM, dBM0, dEq, dNe, dIn, dSgn, dLc2, dEnum, dListRg1, dListRg2, dTupRg1, dTupRg2, dStrOf1, dRep, dLenSet, dstart, fnE_nx, fnE_rt, fnE_ex, Nat.zero_le, Nat.reduceLeDiff, decide_true, decide_false, true_or, or_true, false_or, or_false, decide_eq_true_eq, exists_eq_left', exists_eq_left, exists_eq_right, exists_eq_right', Option.some.injEq, List.cons.injEq, D.int.injEq, D.bl.injEq, D.str.injEq, D.tup.injEq, D.lro.injEq, D.ref.injEq, DO.lst.injEq, and_true, true_and, and_false, false_and, exists_false, exists_const, List.getElem?_cons_zero, List.getElem?_cons_succ, List.map_cons, List.map_nil, List.length_cons, List.length_nil, List.replicate_zero, List.replicate_succ, List.append_nil, List.cons_append, List.nil_append, List.set_cons_zero, List.set_cons_succ, Nat.reduceAdd, Nat.reduceSub, Nat.zero_add, reduceIte, Bool.false_eq_true, reduceCtorEq, if_true, if_false, Bool.not_true, Bool.not_false, exists_and_left]
  refine ⟨d, 2, 2, ⟨rfl, rfl, rfl⟩, hk.known, ?_⟩
  cases h : isRow d 2 2 with
  | false =>
    rw [row2_no (P := fun d => isPlc d i j exits) h fun x => isPlc_row] at q'
    simpa using q'
  | true =>
    obtain ⟨a, b, rfl⟩ := row2 h
    have ha : Tm L a := hk.mem (by simp)
    have hb : Tm L b := hk.mem (by simp)
    have e0 : isPlc (.tup [a, b]) i j exits = (wthn a 0 9 && (isMove b i j || isCall b i j exits || isExit b (exits.getD i.toNat 0))) := rfl
    simp only [dVar, dC, dOp, dUn, dNil, dCons, dTup, dLst, dCB, dTest, dAnd, dOr, dNot, dAndV, dOrV, dNotV, dIfE, dChain, sNext, sSeq, sBreak, sCont, sDrop, sRet, sRetN, sIf, gdName, gdNil, gdCons, gdTup, gdSub, sAsg, dCall, xOf, sFor, dSeq, dRng1, dRng2, dI, dI0, dB0, dAdd, dIsN, dNotN, isNon, dIx, dSetL, dNeg, one, two, dLen1, dListOf1, dTupOf1, dAbs1, dIntOf1, dII, marg, dAppend1, dExtend1, dIsi, isA, dSl, dPart, dNoPart, dCut, dLc, dYes, sRaise, sTry, exBy, sPar2, sPar3, dIsBl, dNotBl, dBM, dBM0, dEq, dNe, dIn, dSgn, dLc2, dEnum, dListRg1, dListRg2, dTupRg1, dTupRg2, dStrOf1, dRep, dLenSet, dstart, fnE_nx, fnE_rt, fnE_ex, Nat.zero_le, Nat.reduceLeDiff, decide_true, decide_false, true_or, or_true, false_or, or_false, decide_eq_true_eq, exists_eq_left', exists_eq_left, exists_eq_right, exists_eq_right', Option.some.injEq, List.cons.injEq, D.int.injEq, D.bl.injEq, D.str.injEq, D.tup.injEq, D.lro.injEq, D.ref.injEq, DO.lst.injEq, and_true, true_and, and_false, false_and, exists_false, exists_const, List.getElem?_cons_zero, List.getElem?_cons_succ, List.map_cons, List.map_nil, List.length_cons, List.length_nil, List.replicate_zero, List.replicate_succ, List.append_nil, List.cons_append, List.nil_append, List.set_cons_zero, List.set_cons_succ, Nat.reduceAdd, Nat.reduceSub, Nat.zero_add, reduceIte, Bool.false_eq_true, reduceCtorEq, if_true, if_false, Bool.not_true, Bool.not_false, exists_and_left, atI0, atI1]
    rw [e0] at q'
    refine ⟨a, 0, 9, ⟨rfl, rfl, rfl⟩, ha.known, ?_⟩
    cases h1 : wthn a 0 9 with
    | false => rw [h1] at q'; simpa using q'
    | true =>
    rw [h1] at q'
    simp only [dVar, dC, dOp, dUn, dNil, dCons, dTup, dLst, dCB, dTest, dAnd, dOr, dNot, dAndV, dOrV, dNotV, dIfE, dChain, sNext, sSeq, sBreak, sCont, sDrop, sRet, sRetN, sIf, gdName, gdNil, gdCons, gdTup, gdSub, sAsg, dCall, xOf, sFor, dSeq, dRng1, dRng2, dI, dI0, dB0, dAdd, dIsN, dNotN, isNon, dIx, dSetL, dNeg, one, two, dLen1, dListOf1, dTupOf1, dAbs1, dIntOf1, dII, marg, dAppend1, dExtend1, dIsi, isA, dSl, dPart, dNoPart, dCut, dLc, dYes, sRaise, sTry, exBy, sPar2, sPar3, dIsBl, dNotBl, dBM, dBM0, dEq, dNe, dIn, dSgn, dLc2, dEnum, dListRg1, dListRg2, dTupRg1, dTupRg2, dStrOf1, dRep, dLenSet, dstart, fnE_nx, fnE_rt, fnE_ex, Nat.zero_le, Nat.reduceLeDiff, decide_true, decide_false, true_or, or_true, false_or, or_false, decide_eq_true_eq, exists_eq_left', exists_eq_left, exists_eq_right, exists_eq_right', Option.some.injEq, List.cons.injEq, D.int.injEq, D.bl.injEq, D.str.injEq, D.tup.injEq, D.lro.injEq, D.ref.injEq, DO.lst.injEq, and_true, true_and, and_false, false_and, exists_false, exists_const, List.getElem?_cons_zero, List.getElem?_cons_succ, List.map_cons, List.map_nil, List.length_cons, List.length_nil, List.replicate_zero, List.replicate_succ, List.append_nil, List.cons_append, List.nil_append, List.set_cons_zero, List.set_cons_succ, Nat.reduceAdd, Nat.reduceSub, Nat.zero_add, reduceIte, Bool.false_eq_true, reduceCtorEq, if_true, if_false, Bool.not_true, Bool.not_false, exists_and_left, atI0, atI1]
    refine ⟨b, i, j, rfl, hb, ?_⟩
    cases h2 : isMove b i j with
    | true => rw [h2] at q'; simpa using q'
    | false =>
    rw [h2] at q'
    simp only [dVar, dC, dOp, dUn, dNil, dCons, dTup, dLst, dCB, dTest, dAnd, dOr, dNot, dAndV, dOrV, dNotV, dIfE, dChain, sNext, sSeq, sBreak, sCont, sDrop, sRet, sRetN, sIf, gdName, gdNil, gdCons, gdTup, gdSub, sAsg, dCall, xOf, sFor, dSeq, dRng1, dRng2, dI, dI0, dB0, dAdd, dIsN, dNotN, isNon, dIx, dSetL, dNeg, one, two, dLen1, dListOf1, dTupOf1, dAbs1, dIntOf1, dII, marg, dAppend1, dExtend1, dIsi, isA, dSl, dPart, dNoPart, dCut, dLc, dYes, sRaise, sTry, exBy, sPar2, sPar3, dIsBl, dNotBl, dBM, dBM0, dEq, dNe, dIn, dSgn, dLc2, dEnum, dListRg1, dListRg2, dTupRg1, dTupRg2, dStrOf1, dRep, dLenSet, dstart, fnE_nx, fnE_rt, fnE_ex, Nat.zero_le, Nat.reduceLeDiff, decide_true, decide_false, true_or, or_true, false_or, or_false, decide_eq_true_eq, exists_eq_left', exists_eq_left, exists_eq_right, exists_eq_right', Option.some.injEq, List.cons.injEq, D.int.injEq, D.bl.injEq, D.str.injEq, D.tup.injEq, D.lro.injEq, D.ref.injEq, DO.lst.injEq, and_true, true_and, and_false, false_and, exists_false, exists_const, List.getElem?_cons_zero, List.getElem?_cons_succ, List.map_cons, List.map_nil, List.length_cons, List.length_nil, List.replicate_zero, List.replicate_succ, List.append_nil, List.cons_append, List.nil_append, List.set_cons_zero, List.set_cons_succ, Nat.reduceAdd, Nat.reduceSub, Nat.zero_add, reduceIte, Bool.false_eq_true, reduceCtorEq, if_true, if_false, Bool.not_true, Bool.not_false, exists_and_left]
    refine ⟨b, i, j, p, exits, rfl, hb, hp, ?_⟩
    cases h3 : isCall b i j exits with
    | true => rw [h3] at q'; simpa using q'
    | false =>
    rw [h3] at q'
    simp only [dVar, dC, dOp, dUn, dNil, dCons, dTup, dLst, dCB, dTest, dAnd, dOr, dNot, dAndV, dOrV, dNotV, dIfE, dChain, sNext, sSeq, sBreak, sCont, sDrop, sRet, sRetN, sIf, gdName, gdNil, gdCons, gdTup, gdSub, sAsg, dCall, xOf, sFor, dSeq, dRng1, dRng2, dI, dI0, dB0, dAdd, dIsN, dNotN, isNon, dIx, dSetL, dNeg, one, two, dLen1, dListOf1, dTupOf1, dAbs1, dIntOf1, dII, marg, dAppend1, dExtend1, dIsi, isA, dSl, dPart, dNoPart, dCut, dLc, dYes, sRaise, sTry, exBy, sPar2, sPar3, dIsBl, dNotBl, dBM, dBM0, dEq, dNe, dIn, dSgn, dLc2, dEnum, dListRg1, dListRg2, dTupRg1, dTupRg2, dStrOf1, dRep, dLenSet, dstart, fnE_nx, fnE_rt, fnE_ex, Nat.zero_le, Nat.reduceLeDiff, decide_true, decide_false, true_or, or_true, false_or, or_false, decide_eq_true_eq, exists_eq_left', exists_eq_left, exists_eq_right, exists_eq_right', Option.some.injEq, List.cons.injEq, D.int.injEq, D.bl.injEq, D.str.injEq, D.tup.injEq, D.lro.injEq, D.ref.injEq, DO.lst.injEq, and_true, true_and, and_false, false_and, exists_false, exists_const, List.getElem?_cons_zero, List.getElem?_cons_succ, List.map_cons, List.map_nil, List.length_cons, List.length_nil, List.replicate_zero, List.replicate_succ, List.append_nil, List.cons_append, List.nil_append, List.set_cons_zero, List.set_cons_succ, Nat.reduceAdd, Nat.reduceSub, Nat.zero_add, reduceIte, Bool.false_eq_true, reduceCtorEq, if_true, if_false, Bool.not_true, Bool.not_false, exists_and_left, hp, atI_ints' i0 i1]
    refine ⟨b, _, rfl, hb, ?_⟩
    simp only [dVar, dC, dOp, dUn, dNil, dCons, dTup, dLst, dCB, dTest, dAnd, dOr, dNot, dAndV, dOrV, dNotV, dIfE, dChain, sNext, sSeq, sBreak, sCont, sDrop, sRet, sRetN, sIf, gdName, gdNil, gdCons, gdTup, gdSub, sAsg, dCall, xOf, sFor, dSeq, dRng1, dRng2, dI, dI0, dB0, dAdd, dIsN, dNotN, isNon, dIx, dSetL, dNeg, one, two, dLen1, dListOf1, dTupOf1, dAbs1, dIntOf1, dII, marg, dAppend1, dExtend1, dIsi, isA, dSl, dPart, dNoPart, dCut, dLc, dYes, sRaise, sTry, exBy, sPar2, sPar3, dIsBl, dNotBl, dBM, dBM0, dEq, dNe, dIn, dSgn, dLc2, dEnum, dListRg1, dListRg2, dTupRg1, dTupRg2, dStrOf1, dRep, dLenSet, dstart, fnE_nx, fnE_rt, fnE_ex, Nat.zero_le, Nat.reduceLeDiff, decide_true, decide_false, true_or, or_true, false_or, or_false, decide_eq_true_eq, exists_eq_left', exists_eq_left, exists_eq_right, exists_eq_right', Option.some.injEq, List.cons.injEq, D.int.injEq, D.bl.injEq, D.str.injEq, D.tup.injEq, D.lro.injEq, D.ref.injEq, DO.lst.injEq, and_true, true_and, and_false, false_and, exists_false, exists_const, List.getElem?_cons_zero, List.getElem?_cons_succ, List.map_cons, List.map_nil, List.length_cons, List.length_nil, List.replicate_zero, List.replicate_succ, List.append_nil, List.cons_append, List.nil_append, List.set_cons_zero, List.set_cons_succ, Nat.reduceAdd, Nat.reduceSub, Nat.zero_add, reduceIte, Bool.false_eq_true, reduceCtorEq, if_true, if_false, Bool.not_true, Bool.not_false, exists_and_left]
    simpa using q'
/-! a program -/
def startsI : Int → List D → List Int
  | f, [] => [f]
  | f, e :: es => f :: startsI (f + (plD e).length) es
def exitsI (es : List D) : List Int := es.flatMap fun e => (plD e).map fun _ => exD e
def allPl (exits : List Int) : Int → List D → Bool
  | _, [] => true
  | f, e :: es => ((plD e).all fun x => isPlc x f (f + (plD e).length) exits) && allPl exits (f + (plD e).length) es
def isProg (d : D) : Bool := areHeads d && allPl (exitsI (tupV d)) 0 (tupV d)
def Hd3 (d : D) : Prop := ∃ n x ps, d = .tup [n, x, .tup ps]
theorem Hd3.pl {d : D} (h : Hd3 d) : ∃ n x, d = .tup [n, x, .tup (plD d)] := let ⟨n, x, ps, e⟩ := h; ⟨n, x, by rw [e]; rfl⟩
theorem atI_last {pre : List D} {x : D} : atI (pre ++ [x]) (-1) = some x := by
  have h : ixN (pre ++ [x]).length (-1) = some pre.length := by
    unfold ixN
    rw [if_neg (by omega), if_pos (by simp; omega)]
    simp
    omega
  unfold atI
  rw [h]
  simp
def sp_starts_of : SpD := fun ds L Q _ => ∃ es, ds = [.tup es] ∧ es.length ≤ 100000 ∧ (∀ e, e ∈ es → Hd3 e) ∧ ∀ p, L p = none → Q (.ref p) (upd L p (.lst ((startsI 0 es).map .int)))
theorem len_starts_of : ∀ as L Q E, sp_starts_of as L Q E → as.length = 1 := by rintro _ L Q E ⟨es, rfl, _⟩; rfl
def d_starts_of_b1 : DS :=
  (sDrop (dBM chkL (marg dAppend1) (dVar 1) (dCons (dOp dAdd (dOp dIx (dVar 1) (dUn dNeg (dC (.int 1)))) (dCB dLen (dCons (dOp dIx (dVar 2) (dC (.int 2))) dNil))) dNil)))
def d_starts_of_t2 : DS :=
  (sRet (dVar 1))
def d_starts_of_t1 : DS :=
  (sSeq (sFor (dSeq (dVar 0)) (gdName 2)
  d_starts_of_b1) d_starts_of_t2)
def d_starts_of : DS :=
  (sSeq (sAsg (dLst (dCons (dC (.int 0)) dNil)) (gdName 1)) d_starts_of_t1)

theorem pure_starts_of : ∀ as L Q E, sp_starts_of as L Q E → d_starts_of (fnEnds Q E) (dstart 3 as) L := by
  rintro as L Q E ⟨es, rfl, hl, he, q⟩
  simp only [d_starts_of, dVar, dC, dOp, dUn, dNil, dCons, dTup, dLst, dCB, dTest, dAnd, dOr, dNot, dAndV, dOrV, dNotV, dIfE, dChain, sNext, sSeq, sBreak, sCont, sDrop, sRet, sRetN, sIf, gdName, gdNil, gdCons, gdTup, gdSub, sAsg, dCall, xOf, sFor, dSeq, dRng1, dRng2, dI, dI0, dB0, dAdd, dIsN, dNotN, isNon, dIx, dSetL, dNeg, one, two, dLen1, dListOf1, dTupOf1, dAbs1, dIntOf1, dII, marg, dAppend1, dExtend1, dIsi, isA, dSl, dPart, dNoPart, dCut, dLc, dYes, sRaise, sTry, exBy, sPar2, sPar3, dIsBl, dNotBl, dBM, dBM0, dEq, dNe, dIn, dSgn, dLc2, dEnum, dListRg1, dListRg2, dTupRg1, dTupRg2, dStrOf1, dRep, dLenSet, dstart, fnE_nx, fnE_rt, fnE_ex, Nat.zero_le, Nat.reduceLeDiff, decide_true, decide_false, true_or, or_true, false_or, or_false, decide_eq_true_eq, exists_eq_left', exists_eq_left, exists_eq_right, exists_eq_right', Option.some.injEq, List.cons.injEq, D.int.injEq, D.bl.injEq, D.str.injEq, D.tup.injEq, D.lro.injEq, D.ref.injEq, DO.lst.injEq, and_true, true_and, and_false, false_and, exists_false, exists_const, List.getElem?_cons_zero, List.getElem?_cons_succ, List.map_cons, List.map_nil, List.length_cons, List.length_nil, List.replicate_zero, List.replicate_succ, List.append_nil, List.cons_append, List.nil_append, List.set_cons_zero, List.set_cons_succ, Nat.reduceAdd, Nat.reduceSub, Nat.zero_add, reduceIte, Bool.false_eq_true, reduceCtorEq, if_true, if_false, Bool.not_true, Bool.not_false, exists_and_left]
  intro p hp
  simp only [d_starts_of_t1, dVar, dC, dOp, dUn, dNil, dCons, dTup, dLst, dCB, dTest, dAnd, dOr, dNot, dAndV, dOrV, dNotV, dIfE, dChain, sNext, sSeq, sBreak, sCont, sDrop, sRet, sRetN, sIf, gdName, gdNil, gdCons, gdTup, gdSub, sAsg, dCall, xOf, sFor, dSeq, dRng1, dRng2, dI, dI0, dB0, dAdd, dIsN, dNotN, isNon, dIx, dSetL, dNeg, one, two, dLen1, dListOf1, dTupOf1, dAbs1, dIntOf1, dII, marg, dAppend1, dExtend1, dIsi, isA, dSl, dPart, dNoPart, dCut, dLc, dYes, sRaise, sTry, exBy, sPar2, sPar3, dIsBl, dNotBl, dBM, dBM0, dEq, dNe, dIn, dSgn, dLc2, dEnum, dListRg1, dListRg2, dTupRg1, dTupRg2, dStrOf1, dRep, dLenSet, dstart, fnE_nx, fnE_rt, fnE_ex, Nat.zero_le, Nat.reduceLeDiff, decide_true, decide_false, true_or, or_true, false_or, or_false, decide_eq_true_eq, exists_eq_left', exists_eq_left, exists_eq_right, exists_eq_right', Option.some.injEq, List.cons.injEq, D.int.injEq, D.bl.injEq, D.str.injEq, D.tup.injEq, D.lro.injEq, D.ref.injEq, DO.lst.injEq, and_true, true_and, and_false, false_and, exists_false, exists_const, List.getElem?_cons_zero, List.getElem?_cons_succ, List.map_cons, List.map_nil, List.length_cons, List.length_nil, List.replicate_zero, List.replicate_succ, List.append_nil, List.cons_append, List.nil_append, List.set_cons_zero, List.set_cons_succ, Nat.reduceAdd, Nat.reduceSub, Nat.zero_add, reduceIte, Bool.false_eq_true, reduceCtorEq, if_true, if_false, Bool.not_true, Bool.not_false, exists_and_left]
  refine ⟨es, _, rfl, ?_⟩
  refine forD_ind (fun rest s L' => (∀ e, e ∈ rest → Hd3 e) ∧ ∃ pre f, pre.length + rest.length ≤ 100000 ∧ L' = upd L p (.lst ((pre ++ [f]).map .int)) ∧ pre ++ startsI f rest = startsI 0 es ∧ ∃ o, s = [some (.tup es), some (.ref p), o]) ?_ ?_ es _ _ ⟨he, [], 0, by simpa using hl, rfl, rfl, _, rfl⟩
  · rintro d rest s L' P hP ⟨he, pre, f, hlen, rfl, hs, o, rfl⟩
    obtain ⟨n, x, ps, rfl⟩ := he d List.mem_cons_self
    refine ⟨trivial, ?_⟩
    have ea : (pre ++ [f]).map D.int = pre.map D.int ++ [D.int f] := by simp
    simp only [d_starts_of_b1, dVar, dC, dOp, dUn, dNil, dCons, dTup, dLst, dCB, dTest, dAnd, dOr, dNot, dAndV, dOrV, dNotV, dIfE, dChain, sNext, sSeq, sBreak, sCont, sDrop, sRet, sRetN, sIf, gdName, gdNil, gdCons, gdTup, gdSub, sAsg, dCall, xOf, sFor, dSeq, dRng1, dRng2, dI, dI0, dB0, dAdd, dIsN, dNotN, isNon, dIx, dSetL, dNeg, one, two, dLen1, dListOf1, dTupOf1, dAbs1, dIntOf1, dII, marg, dAppend1, dExtend1, dIsi, isA, dSl, dPart, dNoPart, dCut, dLc, dYes, sRaise, sTry, exBy, sPar2, sPar3, dIsBl, dNotBl, dBM, dBM0, dEq, dNe, dIn, dSgn, dLc2, dEnum, dListRg1, dListRg2, dTupRg1, dTupRg2, dStrOf1, dRep, dLenSet, dstart, fnE_nx, fnE_rt, fnE_ex, Nat.zero_le, Nat.reduceLeDiff, decide_true, decide_false, true_or, or_true, false_or, or_false, decide_eq_true_eq, exists_eq_left', exists_eq_left, exists_eq_right, exists_eq_right', Option.some.injEq, List.cons.injEq, D.int.injEq, D.bl.injEq, D.str.injEq, D.tup.injEq, D.lro.injEq, D.ref.injEq, DO.lst.injEq, and_true, true_and, and_false, false_and, exists_false, exists_const, List.getElem?_cons_zero, List.getElem?_cons_succ, List.map_cons, List.map_nil, List.length_cons, List.length_nil, List.replicate_zero, List.replicate_succ, List.append_nil, List.cons_append, List.nil_append, List.set_cons_zero, List.set_cons_succ, Nat.reduceAdd, Nat.reduceSub, Nat.zero_add, reduceIte, Bool.false_eq_true, reduceCtorEq, if_true, if_false, Bool.not_true, Bool.not_false, exists_and_left, updD_same, atI2, ea, atI_last]
    refine ⟨⟨_, lstOf_ref updD_same⟩, by simp at hlen ⊢; omega, ?_⟩
    rw [updD_upd]
    refine hP _ _ ⟨fun e h => he e (List.mem_cons_of_mem _ h), pre ++ [f], f + ps.length, by simp at hlen ⊢; omega, by simp, by rw [← hs, List.append_assoc]; rfl, _, rfl⟩
  · rintro s L' ⟨_, pre, f, hlen, rfl, hs, o, rfl⟩
    refine ⟨trivial, ?_⟩
    simp only [d_starts_of_t2, dVar, dC, dOp, dUn, dNil, dCons, dTup, dLst, dCB, dTest, dAnd, dOr, dNot, dAndV, dOrV, dNotV, dIfE, dChain, sNext, sSeq, sBreak, sCont, sDrop, sRet, sRetN, sIf, gdName, gdNil, gdCons, gdTup, gdSub, sAsg, dCall, xOf, sFor, dSeq, dRng1, dRng2, dI, dI0, dB0, dAdd, dIsN, dNotN, isNon, dIx, dSetL, dNeg, one, two, dLen1, dListOf1, dTupOf1, dAbs1, dIntOf1, dII, marg, dAppend1, dExtend1, dIsi, isA, dSl, dPart, dNoPart, dCut, dLc, dYes, sRaise, sTry, exBy, sPar2, sPar3, dIsBl, dNotBl, dBM, dBM0, dEq, dNe, dIn, dSgn, dLc2, dEnum, dListRg1, dListRg2, dTupRg1, dTupRg2, dStrOf1, dRep, dLenSet, dstart, fnE_nx, fnE_rt, fnE_ex, Nat.zero_le, Nat.reduceLeDiff, decide_true, decide_false, true_or, or_true, false_or, or_false, decide_eq_true_eq, exists_eq_left', exists_eq_left, exists_eq_right, exists_eq_right', Option.some.injEq, List.cons.injEq, D.int.injEq, D.bl.injEq, D.str.injEq, D.tup.injEq, D.lro.injEq, D.ref.injEq, DO.lst.injEq, and_true, true_and, and_false, false_and, exists_false, exists_const, List.getElem?_cons_zero, List.getElem?_cons_succ, List.map_cons, List.map_nil, List.length_cons, List.length_nil, List.replicate_zero, List.replicate_succ, List.append_nil, List.cons_append, List.nil_append, List.set_cons_zero, List.set_cons_succ, Nat.reduceAdd, Nat.reduceSub, Nat.zero_add, reduceIte, Bool.false_eq_true, reduceCtorEq, if_true, if_false, Bool.not_true, Bool.not_false, exists_and_left]
    have hs : pre ++ [f] = startsI 0 es := hs
    rw [hs]
    exact endOf (q p hp)
theorem Hd3.of {d : D} (h : isHead d = true) : Hd3 d := ⟨_, _, _, (isHead_of h).1⟩
theorem areHeads_of {d : D} (h : areHeads d = true) : ∃ es, d = .tup es ∧ 1 ≤ es.length ∧ es.length ≤ 60 ∧ (∀ e, e ∈ es → isHead e = true) ∧ (es.map nmD).Nodup ∧ ((es.map fun e => ((plD e).length : Int))).sum ≤ 4000 := by
  cases d with
  | tup es =>
    have h : (decide (1 ≤ (es.length : Int) ∧ (es.length : Int) ≤ 60) && es.all isHead && decide (es.map nmD).Nodup && decide (((es.map fun e => ((plD e).length : Int))).sum ≤ 4000)) = true := h
    simp only [Bool.and_eq_true, decide_eq_true_eq, List.all_eq_true] at h
    exact ⟨es, rfl, by omega, by omega, h.1.1.2, h.1.2, h.2⟩
  | _ => cases h
def sp_is_program : SpD := fun ds L Q _ => ∃ d, ds = [d] ∧ Tm L d ∧ Q (.bl (isProg d)) L
theorem len_is_program : ∀ as L Q E, sp_is_program as L Q E → as.length = 1 := by rintro _ L Q E ⟨d, rfl, _⟩; rfl
def d_is_program_b3b0 : DS :=
  (sIf (dNot (dTest (dCall sp_is_place (dCons (dVar 5) (dCons (dOp dIx (dVar 2) (dVar 3)) (dCons (dOp dIx (dVar 2) (dOp dAdd (dVar 3) (dC (.int 1)))) (dCons (dVar 1) dNil))))))) (sRet (dC (.bl false))) sNext)
def d_is_program_b3 : DS :=
  (sFor (dSeq (dOp dIx (dVar 4) (dC (.int 2)))) (gdName 5)
  d_is_program_b3b0)
def d_is_program_t4 : DS :=
  (sRet (dC (.bl true)))
def d_is_program_t3 : DS :=
  (sSeq (sFor (dEnum (dCons (dVar 0) dNil)) (gdTup 2 (gdCons (gdName 3) (gdCons (gdName 4) gdNil)))
  d_is_program_b3) d_is_program_t4)
def d_is_program_t2 : DS :=
  (sSeq (sAsg (dCall sp_starts_of (dCons (dVar 0) dNil)) (gdName 2)) d_is_program_t3)
def d_is_program_t1 : DS :=
  (sSeq (sAsg (dLc2 (dSeq (dVar 0)) (gdName 4) dYes (dSeq (dOp dIx (dVar 4) (dC (.int 2)))) (gdName 5) dYes (dOp dIx (dVar 4) (dC (.int 1))) [4, 5] [5]) (gdName 1)) d_is_program_t2)
def d_is_program : DS :=
  (sSeq (sIf (dNot (dTest (dCall sp_are_heads (dCons (dVar 0) dNil)))) (sRet (dC (.bl false))) sNext) d_is_program_t1)

theorem sum_len : ∀ (es : List D), ((es.map fun e => ((plD e).length : Int))).sum = ((es.flatMap plD).length : Int)
  | [] => rfl
  | e :: es => by simp only [List.map_cons, List.sum_cons, List.flatMap_cons, List.length_append, sum_len es]; omega
theorem exitsI_len : ∀ (es : List D), (exitsI es).length = (es.flatMap plD).length
  | [] => rfl
  | e :: es => by
    have := exitsI_len es
    unfold exitsI at *
    simp only [List.flatMap_cons, List.length_append, List.length_map, this]
theorem startsI_get : ∀ (es : List D) (f : Int) (i : Nat), i ≤ es.length → (startsI f es)[i]? = some (f + ((es.take i).flatMap plD).length)
  | [], f, i, h => by
    have : i = 0 := by simpa using h
    subst this
    simp [startsI]
  | e :: es, f, 0, _ => by simp [startsI]
  | e :: es, f, i + 1, h => by
    show (startsI (f + (plD e).length) es)[i]? = _
    rw [startsI_get es _ i (by simpa using h)]
    simp only [List.take_succ_cons, List.flatMap_cons, List.length_append]
    congr 1
    omega
theorem pure_is_program : ∀ as L Q E, sp_is_program as L Q E → d_is_program (fnEnds Q E) (dstart 6 as) L := by
  rintro as L Q E ⟨d, rfl, hk, q⟩
  have q' := endOf q
  simp only [d_is_program, sp_are_heads, dVar, dC, dOp, dUn, dNil, dCons, dTup, dLst, dCB, dTest, dAnd, dOr, dNot, dAndV, dOrV, dNotV, dIfE, dChain, sNext, sSeq, sBreak, sCont, sDrop, sRet, sRetN, sIf, gdName, gdNil, gdCons, gdTup, gdSub, sAsg, dCall, xOf, sFor, dSeq, dRng1, dRng2, dI, dI0, dB0, dAdd, dIsN, dNotN, isNon, dIx, dSetL, dNeg, one, two, dLen1, dListOf1, dTupOf1, dAbs1, dIntOf1, dII, marg, dAppend1, dExtend1, dIsi, isA, dSl, dPart, dNoPart, dCut, dLc, dYes, sRaise, sTry, exBy, sPar2, sPar3, dIsBl, dNotBl, dBM, dBM0, dEq, dNe, dIn, dSgn, dLc2, dEnum, dListRg1, dListRg2, dTupRg1, dTupRg2, dStrOf1, dRep, dLenSet, dstart, fnE_nx, fnE_rt, fnE_ex, Nat.zero_le, Nat.reduceLeDiff, decide_true, decide_false, true_or, or_true, false_or, or_false, decide_eq_true_eq, exists_eq_left', exists_eq_left, exists_eq_right, exists_eq_right', Option.some.injEq, List.cons.injEq, D.int.injEq, D.bl.injEq, D.str.injEq, D.tup.injEq, D.lro.injEq, D.ref.injEq, DO.lst.injEq, and_true, true_and, and_false, false_and, exists_false, exists_const, List.getElem?_cons_zero, List.getElem?_cons_succ, List.map_cons, List.map_nil, List.length_cons, List.length_nil, List.replicate_zero, List.replicate_succ, List.append_nil, List.cons_append, List.nil_append, List.set_cons_zero, List.set_cons_succ, Nat.reduceAdd, Nat.reduceSub, Nat.zero_add, reduceIte, Bool.false_eq_true, reduceCtorEq, if_true, if_false, Bool.not_true, Bool.not_false, exists_and_left]
  refine ⟨hk, ?_⟩
  cases h : areHeads d with
  | false =>
    have : isProg d = false := by unfold isProg; rw [h]; rfl
    rw [this] at q'
    simpa using q'
  | true =>
    obtain ⟨es, rfl, l1, l2, hh, hn, hs⟩ := areHeads_of h
    rw [sum_len] at hs
    simp only [d_is_program_t1, dVar, dC, dOp, dUn, dNil, dCons, dTup, dLst, dCB, dTest, dAnd, dOr, dNot, dAndV, dOrV, dNotV, dIfE, dChain, sNext, sSeq, sBreak, sCont, sDrop, sRet, sRetN, sIf, gdName, gdNil, gdCons, gdTup, gdSub, sAsg, dCall, xOf, sFor, dSeq, dRng1, dRng2, dI, dI0, dB0, dAdd, dIsN, dNotN, isNon, dIx, dSetL, dNeg, one, two, dLen1, dListOf1, dTupOf1, dAbs1, dIntOf1, dII, marg, dAppend1, dExtend1, dIsi, isA, dSl, dPart, dNoPart, dCut, dLc, dYes, sRaise, sTry, exBy, sPar2, sPar3, dIsBl, dNotBl, dBM, dBM0, dEq, dNe, dIn, dSgn, dLc2, dEnum, dListRg1, dListRg2, dTupRg1, dTupRg2, dStrOf1, dRep, dLenSet, dstart, fnE_nx, fnE_rt, fnE_ex, Nat.zero_le, Nat.reduceLeDiff, decide_true, decide_false, true_or, or_true, false_or, or_false, decide_eq_true_eq, exists_eq_left', exists_eq_left, exists_eq_right, exists_eq_right', Option.some.injEq, List.cons.injEq, D.int.injEq, D.bl.injEq, D.str.injEq, D.tup.injEq, D.lro.injEq, D.ref.injEq, DO.lst.injEq, and_true, true_and, and_false, false_and, exists_false, exists_const, List.getElem?_cons_zero, List.getElem?_cons_succ, List.map_cons, List.map_nil, List.length_cons, List.length_nil, List.replicate_zero, List.replicate_succ, List.append_nil, List.cons_append, List.nil_append, List.set_cons_zero, List.set_cons_succ, Nat.reduceAdd, Nat.reduceSub, Nat.zero_add, reduceIte, Bool.false_eq_true, reduceCtorEq, if_true, if_false, Bool.not_true, Bool.not_false, exists_and_left, dwipe]
    refine ⟨es, _, rfl, ?_⟩
    have hd3 : ∀ e, e ∈ es → Hd3 e := fun e he => Hd3.of (hh e he)
    refine lc2D_map (fun e => (plD e).map fun _ => .int (exD e)) L trivial es (fun d hd acc Kt hl hK Kf => ?_) [] ?_ ?_
    · obtain ⟨z, x, ps, rfl⟩ := isHead_ex (hh d hd)
      simp only [dVar, dC, dOp, dUn, dNil, dCons, dTup, dLst, dCB, dTest, dAnd, dOr, dNot, dAndV, dOrV, dNotV, dIfE, dChain, sNext, sSeq, sBreak, sCont, sDrop, sRet, sRetN, sIf, gdName, gdNil, gdCons, gdTup, gdSub, sAsg, dCall, xOf, sFor, dSeq, dRng1, dRng2, dI, dI0, dB0, dAdd, dIsN, dNotN, isNon, dIx, dSetL, dNeg, one, two, dLen1, dListOf1, dTupOf1, dAbs1, dIntOf1, dII, marg, dAppend1, dExtend1, dIsi, isA, dSl, dPart, dNoPart, dCut, dLc, dYes, sRaise, sTry, exBy, sPar2, sPar3, dIsBl, dNotBl, dBM, dBM0, dEq, dNe, dIn, dSgn, dLc2, dEnum, dListRg1, dListRg2, dTupRg1, dTupRg2, dStrOf1, dRep, dLenSet, dstart, fnE_nx, fnE_rt, fnE_ex, Nat.zero_le, Nat.reduceLeDiff, decide_true, decide_false, true_or, or_true, false_or, or_false, decide_eq_true_eq, exists_eq_left', exists_eq_left, exists_eq_right, exists_eq_right', Option.some.injEq, List.cons.injEq, D.int.injEq, D.bl.injEq, D.str.injEq, D.tup.injEq, D.lro.injEq, D.ref.injEq, DO.lst.injEq, and_true, true_and, and_false, false_and, exists_false, exists_const, List.getElem?_cons_zero, List.getElem?_cons_succ, List.map_cons, List.map_nil, List.length_cons, List.length_nil, List.replicate_zero, List.replicate_succ, List.append_nil, List.cons_append, List.nil_append, List.set_cons_zero, List.set_cons_succ, Nat.reduceAdd, Nat.reduceSub, Nat.zero_add, reduceIte, Bool.false_eq_true, reduceCtorEq, if_true, if_false, Bool.not_true, Bool.not_false, exists_and_left, dwipe, atI2]
      refine ⟨_, _, rfl, ?_⟩
      refine lcD_map (fun _ => .int x) L trivial ps (fun d hd Kt hK Kf => ?_) acc (by simpa [plD] using hl) hK
      simp only [dVar, dC, dOp, dUn, dNil, dCons, dTup, dLst, dCB, dTest, dAnd, dOr, dNot, dAndV, dOrV, dNotV, dIfE, dChain, sNext, sSeq, sBreak, sCont, sDrop, sRet, sRetN, sIf, gdName, gdNil, gdCons, gdTup, gdSub, sAsg, dCall, xOf, sFor, dSeq, dRng1, dRng2, dI, dI0, dB0, dAdd, dIsN, dNotN, isNon, dIx, dSetL, dNeg, one, two, dLen1, dListOf1, dTupOf1, dAbs1, dIntOf1, dII, marg, dAppend1, dExtend1, dIsi, isA, dSl, dPart, dNoPart, dCut, dLc, dYes, sRaise, sTry, exBy, sPar2, sPar3, dIsBl, dNotBl, dBM, dBM0, dEq, dNe, dIn, dSgn, dLc2, dEnum, dListRg1, dListRg2, dTupRg1, dTupRg2, dStrOf1, dRep, dLenSet, dstart, fnE_nx, fnE_rt, fnE_ex, Nat.zero_le, Nat.reduceLeDiff, decide_true, decide_false, true_or, or_true, false_or, or_false, decide_eq_true_eq, exists_eq_left', exists_eq_left, exists_eq_right, exists_eq_right', Option.some.injEq, List.cons.injEq, D.int.injEq, D.bl.injEq, D.str.injEq, D.tup.injEq, D.lro.injEq, D.ref.injEq, DO.lst.injEq, and_true, true_and, and_false, false_and, exists_false, exists_const, List.getElem?_cons_zero, List.getElem?_cons_succ, List.map_cons, List.map_nil, List.length_cons, List.length_nil, List.replicate_zero, List.replicate_succ, List.append_nil, List.cons_append, List.nil_append, List.set_cons_zero, List.set_cons_succ, Nat.reduceAdd, Nat.reduceSub, Nat.zero_add, reduceIte, Bool.false_eq_true, reduceCtorEq, if_true, if_false, Bool.not_true, Bool.not_false, exists_and_left, atI1]
      exact hK
    · have := exitsI_len es
      unfold exitsI at this
      simp only [List.length_flatMap, List.length_map] at this ⊢
      simp only [List.length_flatMap] at hs
      simp; omega
    have ee : ([] ++ es.flatMap fun e => (plD e).map fun _ => D.int (exD e)) = (exitsI es).map .int := by
      unfold exitsI
      rw [List.nil_append, List.map_flatMap]
      simp only [List.map_map]
      rfl
    rw [ee]
    have hxl := exitsI_len es
    generalize hx : exitsI es = exits at hxl
    intro p hp
    simp only [d_is_program_t2, sp_starts_of, dVar, dC, dOp, dUn, dNil, dCons, dTup, dLst, dCB, dTest, dAnd, dOr, dNot, dAndV, dOrV, dNotV, dIfE, dChain, sNext, sSeq, sBreak, sCont, sDrop, sRet, sRetN, sIf, gdName, gdNil, gdCons, gdTup, gdSub, sAsg, dCall, xOf, sFor, dSeq, dRng1, dRng2, dI, dI0, dB0, dAdd, dIsN, dNotN, isNon, dIx, dSetL, dNeg, one, two, dLen1, dListOf1, dTupOf1, dAbs1, dIntOf1, dII, marg, dAppend1, dExtend1, dIsi, isA, dSl, dPart, dNoPart, dCut, dLc, dYes, sRaise, sTry, exBy, sPar2, sPar3, dIsBl, dNotBl, dBM, dBM0, dEq, dNe, dIn, dSgn, dLc2, dEnum, dListRg1, dListRg2, dTupRg1, dTupRg2, dStrOf1, dRep, dLenSet, dstart, fnE_nx, fnE_rt, fnE_ex, Nat.zero_le, Nat.reduceLeDiff, decide_true, decide_false, true_or, or_true, false_or, or_false, decide_eq_true_eq, exists_eq_left', exists_eq_left, exists_eq_right, exists_eq_right', Option.some.injEq, List.cons.injEq, D.int.injEq, D.bl.injEq, D.str.injEq, D.tup.injEq, D.lro.injEq, D.ref.injEq, DO.lst.injEq, and_true, true_and, and_false, false_and, exists_false, exists_const, List.getElem?_cons_zero, List.getElem?_cons_succ, List.map_cons, List.map_nil, List.length_cons, List.length_nil, List.replicate_zero, List.replicate_succ, List.append_nil, List.cons_append, List.nil_append, List.set_cons_zero, List.set_cons_succ, Nat.reduceAdd, Nat.reduceSub, Nat.zero_add, reduceIte, Bool.false_eq_true, reduceCtorEq, if_true, if_false, Bool.not_true, Bool.not_false, exists_and_left]
    refine ⟨by omega, hd3, fun p2 hp2 => ?_⟩
    have hle : Le L (upd (upd L p (.lst (exits.map .int))) p2 (.lst ((startsI 0 es).map .int))) := (Le.upd hp).trans (Le.upd hp2)
    have hpp : p ≠ p2 := fresh_ne updD_same hp2
    generalize hL : upd (upd L p (.lst (exits.map .int))) p2 (.lst ((startsI 0 es).map .int)) = L2 at hle
    have g1 : L2 p = some (.lst (exits.map .int)) := by rw [← hL, updD_ne hpp, updD_same]
    have g2 : L2 p2 = some (.lst ((startsI 0 es).map .int)) := by rw [← hL, updD_same]
    have hk2 : Tm L2 (.tup es) := hk.le hle
    simp only [d_is_program_t3, dVar, dC, dOp, dUn, dNil, dCons, dTup, dLst, dCB, dTest, dAnd, dOr, dNot, dAndV, dOrV, dNotV, dIfE, dChain, sNext, sSeq, sBreak, sCont, sDrop, sRet, sRetN, sIf, gdName, gdNil, gdCons, gdTup, gdSub, sAsg, dCall, xOf, sFor, dSeq, dRng1, dRng2, dI, dI0, dB0, dAdd, dIsN, dNotN, isNon, dIx, dSetL, dNeg, one, two, dLen1, dListOf1, dTupOf1, dAbs1, dIntOf1, dII, marg, dAppend1, dExtend1, dIsi, isA, dSl, dPart, dNoPart, dCut, dLc, dYes, sRaise, sTry, exBy, sPar2, sPar3, dIsBl, dNotBl, dBM, dBM0, dEq, dNe, dIn, dSgn, dLc2, dEnum, dListRg1, dListRg2, dTupRg1, dTupRg2, dStrOf1, dRep, dLenSet, dstart, fnE_nx, fnE_rt, fnE_ex, Nat.zero_le, Nat.reduceLeDiff, decide_true, decide_false, true_or, or_true, false_or, or_false, decide_eq_true_eq, exists_eq_left', exists_eq_left, exists_eq_right, exists_eq_right', Option.some.injEq, List.cons.injEq, D.int.injEq, D.bl.injEq, D.str.injEq, D.tup.injEq, D.lro.injEq, D.ref.injEq, DO.lst.injEq, and_true, true_and, and_false, false_and, exists_false, exists_const, List.getElem?_cons_zero, List.getElem?_cons_succ, List.map_cons, List.map_nil, List.length_cons, List.length_nil, List.replicate_zero, List.replicate_succ, List.append_nil, List.cons_append, List.nil_append, List.set_cons_zero, List.set_cons_succ, Nat.reduceAdd, Nat.reduceSub, Nat.zero_add, reduceIte, Bool.false_eq_true, reduceCtorEq, if_true, if_false, Bool.not_true, Bool.not_false, exists_and_left]
    refine ⟨es, _, rfl, ?_⟩
    have hip : isProg (.tup es) = allPl exits 0 es := by
      unfold isProg
      rw [h, ← hx]; rfl
    rw [hip] at q
    refine forD_ix (fun i s L' => L' = L2 ∧ (∃ o3 o4 o5, s = [some (.tup es), some (.ref p), some (.ref p2), o3, o4, o5]) ∧ allPl exits 0 es = allPl exits ((es.take i).flatMap plD).length (es.drop i)) _ ?_ ?_ _ _ ⟨rfl, ⟨_, _, _, rfl⟩, rfl⟩
    · rintro i d hd s L' P hP ⟨rfl, ⟨o3, o4, o5, rfl⟩, hall⟩
      obtain ⟨e, he, rfl⟩ := enumD_get 0 i es d hd
      have hi : i < es.length := (List.getElem?_eq_some_iff.mp he).1
      have hmem : e ∈ es := List.mem_of_getElem? he
      have hke : Tm L' e := hk2.mem hmem
      obtain ⟨z, x, ps, rfl⟩ := isHead_ex (hh e hmem)
      have hkp : Tm L' (.tup ps) := hke.mem (by simp)
      have hdr : es.drop i = .tup [.str z, .int x, .tup ps] :: es.drop (i + 1) := by
        rw [List.drop_eq_getElem_cons hi, (List.getElem?_eq_some_iff.mp he).2]
      have htk : (es.take (i + 1)).flatMap plD = (es.take i).flatMap plD ++ ps := by
        rw [List.take_succ, he]; simp [plD]
      have hlt : ((es.take (i + 1)).flatMap plD).length ≤ exits.length := by
        rw [hxl]
        have : es.flatMap plD = (es.take (i + 1)).flatMap plD ++ (es.drop (i + 1)).flatMap plD := by rw [← List.flatMap_append, List.take_append_drop]
        rw [this]; simp
      have s1 : (startsI 0 es)[i]? = some (((es.take i).flatMap plD).length : Int) := by rw [startsI_get es 0 i (by omega)]; simp
      have s2 : (startsI 0 es)[i + 1]? = some ((((es.take i).flatMap plD).length : Int) + ps.length) := by rw [startsI_get es 0 (i + 1) (by omega), htk]; simp
      rw [htk] at hlt
      have hnx : ((((es.take (i + 1)).flatMap plD).length : Nat) : Int) = (((es.take i).flatMap plD).length : Int) + ps.length := by rw [htk]; simp
      generalize hf : (((es.take i).flatMap plD).length : Int) = f at *
      have b1 : atI ((startsI 0 es).map D.int) (i : Int) = some (.int f) := atI_nat (j := i) (by rw [List.getElem?_map, s1]; rfl)
      have b2 : atI ((startsI 0 es).map D.int) ((i : Int) + 1) = some (.int (f + ps.length)) := atI_nat (j := i + 1) (by rw [List.getElem?_map, s2]; rfl)
      refine ⟨trivial, ?_⟩
      simp only [d_is_program_b3, dVar, dC, dOp, dUn, dNil, dCons, dTup, dLst, dCB, dTest, dAnd, dOr, dNot, dAndV, dOrV, dNotV, dIfE, dChain, sNext, sSeq, sBreak, sCont, sDrop, sRet, sRetN, sIf, gdName, gdNil, gdCons, gdTup, gdSub, sAsg, dCall, xOf, sFor, dSeq, dRng1, dRng2, dI, dI0, dB0, dAdd, dIsN, dNotN, isNon, dIx, dSetL, dNeg, one, two, dLen1, dListOf1, dTupOf1, dAbs1, dIntOf1, dII, marg, dAppend1, dExtend1, dIsi, isA, dSl, dPart, dNoPart, dCut, dLc, dYes, sRaise, sTry, exBy, sPar2, sPar3, dIsBl, dNotBl, dBM, dBM0, dEq, dNe, dIn, dSgn, dLc2, dEnum, dListRg1, dListRg2, dTupRg1, dTupRg2, dStrOf1, dRep, dLenSet, dstart, fnE_nx, fnE_rt, fnE_ex, Nat.zero_le, Nat.reduceLeDiff, decide_true, decide_false, true_or, or_true, false_or, or_false, decide_eq_true_eq, exists_eq_left', exists_eq_left, exists_eq_right, exists_eq_right', Option.some.injEq, List.cons.injEq, D.int.injEq, D.bl.injEq, D.str.injEq, D.tup.injEq, D.lro.injEq, D.ref.injEq, DO.lst.injEq, and_true, true_and, and_false, false_and, exists_false, exists_const, List.getElem?_cons_zero, List.getElem?_cons_succ, List.map_cons, List.map_nil, List.length_cons, List.length_nil, List.replicate_zero, List.replicate_succ, List.append_nil, List.cons_append, List.nil_append, List.set_cons_zero, List.set_cons_succ, Nat.reduceAdd, Nat.reduceSub, Nat.zero_add, reduceIte, Bool.false_eq_true, reduceCtorEq, if_true, if_false, Bool.not_true, Bool.not_false, exists_and_left, atI2, Nat.zero_add]
      refine ⟨ps, _, rfl, ?_⟩
      have hstep : allPl exits 0 es = ((ps.all fun x => isPlc x f (f + ps.length) exits) && allPl exits (f + ps.length) (es.drop (i + 1))) := by
        rw [hall, hdr]; rfl
      refine forD_ind (fun rest s L2 => L2 = L' ∧ (∀ d, d ∈ rest → d ∈ ps) ∧ (∃ o5, s = [some (.tup es), some (.ref p), some (.ref p2), some (.int i), some (.tup [.str z, .int x, .tup ps]), o5]) ∧ (ps.all fun x => isPlc x f (f + ps.length) exits) = (rest.all fun x => isPlc x f (f + ps.length) exits)) ?_ ?_ ps _ _ ⟨rfl, fun _ h => h, ⟨_, rfl⟩, rfl⟩
      · rintro d rest s L2 P2 hP2 ⟨rfl, hin, ⟨o5, rfl⟩, hal⟩
        refine ⟨trivial, ?_⟩
        simp only [d_is_program_b3b0, sp_is_place, dVar, dC, dOp, dUn, dNil, dCons, dTup, dLst, dCB, dTest, dAnd, dOr, dNot, dAndV, dOrV, dNotV, dIfE, dChain, sNext, sSeq, sBreak, sCont, sDrop, sRet, sRetN, sIf, gdName, gdNil, gdCons, gdTup, gdSub, sAsg, dCall, xOf, sFor, dSeq, dRng1, dRng2, dI, dI0, dB0, dAdd, dIsN, dNotN, isNon, dIx, dSetL, dNeg, one, two, dLen1, dListOf1, dTupOf1, dAbs1, dIntOf1, dII, marg, dAppend1, dExtend1, dIsi, isA, dSl, dPart, dNoPart, dCut, dLc, dYes, sRaise, sTry, exBy, sPar2, sPar3, dIsBl, dNotBl, dBM, dBM0, dEq, dNe, dIn, dSgn, dLc2, dEnum, dListRg1, dListRg2, dTupRg1, dTupRg2, dStrOf1, dRep, dLenSet, dstart, fnE_nx, fnE_rt, fnE_ex, Nat.zero_le, Nat.reduceLeDiff, decide_true, decide_false, true_or, or_true, false_or, or_false, decide_eq_true_eq, exists_eq_left', exists_eq_left, exists_eq_right, exists_eq_right', Option.some.injEq, List.cons.injEq, D.int.injEq, D.bl.injEq, D.str.injEq, D.tup.injEq, D.lro.injEq, D.ref.injEq, DO.lst.injEq, and_true, true_and, and_false, false_and, exists_false, exists_const, List.getElem?_cons_zero, List.getElem?_cons_succ, List.map_cons, List.map_nil, List.length_cons, List.length_nil, List.replicate_zero, List.replicate_succ, List.append_nil, List.cons_append, List.nil_append, List.set_cons_zero, List.set_cons_succ, Nat.reduceAdd, Nat.reduceSub, Nat.zero_add, reduceIte, Bool.false_eq_true, reduceCtorEq, if_true, if_false, Bool.not_true, Bool.not_false, exists_and_left, g1, g2, b1, b2]
        have hf0 : 0 ≤ f := by omega
        have hpl : 0 < ps.length := List.length_pos_of_mem (hin d List.mem_cons_self)
        refine ⟨d, f, _, p, ⟨rfl, rfl, rfl, rfl⟩, hkp.mem (hin d List.mem_cons_self), exits, g1, hf0, by rw [List.length_append] at hlt; omega, ?_⟩
        cases hpc : isPlc d f (f + ps.length) exits with
        | false =>
          have : allPl exits 0 es = false := by
            rw [hstep, hal, List.all_cons, hpc]; rfl
          rw [this] at q
          exact ⟨L, hle, q⟩
        | true =>
          refine hP2 _ _ ⟨rfl, fun d h => hin d (List.mem_cons_of_mem _ h), ⟨_, rfl⟩, ?_⟩
          rw [hal, List.all_cons, hpc]; rfl
      · rintro s L2 ⟨rfl, _, ⟨o5, rfl⟩, hal⟩
        refine ⟨trivial, hP _ _ ⟨rfl, ⟨_, _, _, rfl⟩, ?_⟩⟩
        rw [hstep, hal, hnx]; rfl
    · rintro s L' ⟨rfl, ⟨o3, o4, o5, rfl⟩, hall⟩
      refine ⟨trivial, ?_⟩
      simp only [d_is_program_t4, dVar, dC, dOp, dUn, dNil, dCons, dTup, dLst, dCB, dTest, dAnd, dOr, dNot, dAndV, dOrV, dNotV, dIfE, dChain, sNext, sSeq, sBreak, sCont, sDrop, sRet, sRetN, sIf, gdName, gdNil, gdCons, gdTup, gdSub, sAsg, dCall, xOf, sFor, dSeq, dRng1, dRng2, dI, dI0, dB0, dAdd, dIsN, dNotN, isNon, dIx, dSetL, dNeg, one, two, dLen1, dListOf1, dTupOf1, dAbs1, dIntOf1, dII, marg, dAppend1, dExtend1, dIsi, isA, dSl, dPart, dNoPart, dCut, dLc, dYes, sRaise, sTry, exBy, sPar2, sPar3, dIsBl, dNotBl, dBM, dBM0, dEq, dNe, dIn, dSgn, dLc2, dEnum, dListRg1, dListRg2, dTupRg1, dTupRg2, dStrOf1, dRep, dLenSet, dstart, fnE_nx, fnE_rt, fnE_ex, Nat.zero_le, Nat.reduceLeDiff, decide_true, decide_false, true_or, or_true, false_or, or_false, decide_eq_true_eq, exists_eq_left', exists_eq_left, exists_eq_right, exists_eq_right', Option.some.injEq, List.cons.injEq, D.int.injEq, D.bl.injEq, D.str.injEq, D.tup.injEq, D.lro.injEq, D.ref.injEq, DO.lst.injEq, and_true, true_and, and_false, false_and, exists_false, exists_const, List.getElem?_cons_zero, List.getElem?_cons_succ, List.map_cons, List.map_nil, List.length_cons, List.length_nil, List.replicate_zero, List.replicate_succ, List.append_nil, List.cons_append, List.nil_append, List.set_cons_zero, List.set_cons_succ, Nat.reduceAdd, Nat.reduceSub, Nat.zero_add, reduceIte, Bool.false_eq_true, reduceCtorEq, if_true, if_false, Bool.not_true, Bool.not_false, exists_and_left]
      rw [enumD_length, List.drop_length] at hall
      have hall : allPl exits 0 es = true := hall
      rw [hall] at q
      exact ⟨L, hle, q⟩
end D2

set_option Elab.async false
set_option linter.all false
set_option maxRecDepth 100000
set_option maxHeartbeats 1000000
namespace D2
open PySem PySem.Spec PyProof.Rows L2
/-! ### the bag of draws -/
structure BagAt (n : Nat) (L : DH) (a b : Addr) : Prop where
  ne : b ≠ a
  cells : ∃ cells : List Int, L b = some (.lst (cells.map .int))
  row : ∃ at_ cell mix : Int, L a = some (.lst [.ref b, .int at_, .int cell, .int mix]) ∧ 0 ≤ at_ ∧ at_ ≤ n ∧ 0 ≤ cell ∧ 0 ≤ mix ∧ mix < 2305843009213693951
theorem BagAt.mono {n m : Nat} {L : DH} {a b : Addr} (h : BagAt n L a b) (l : n ≤ m) : BagAt m L a b :=
  let ⟨x, y, z, h1, h2, h3, h4⟩ := h.row; ⟨h.ne, h.cells, x, y, z, h1, h2, by omega, h4⟩
theorem BagAt.off {n : Nat} {L : DH} {a b u : Addr} {o : DO} (h : BagAt n L a b) (ha : u ≠ a) (hb : u ≠ b) : BagAt n (upd L u o) a b :=
  ⟨h.ne, by rw [updD_ne hb.symm]; exact h.cells, by rw [updD_ne ha.symm]; exact h.row⟩
theorem BagAt.new {n : Nat} {L : DH} {a b u : Addr} {o : DO} (h : BagAt n L a b) (hu : L u = none) : u ≠ a ∧ u ≠ b ∧ BagAt n (upd L u o) a b := by
  obtain ⟨x, y, z, h1, _⟩ := h.row
  obtain ⟨cs, h2⟩ := h.cells
  have ha := (fresh_ne h1 hu).symm
  have hb := (fresh_ne h2 hu).symm
  exact ⟨ha, hb, h.off ha hb⟩
theorem BagAt.le {n : Nat} {L L' : DH} {a b : Addr} (h : BagAt n L a b) (l : Le L L') : BagAt n L' a b :=
  let ⟨x, y, z, h1, h2⟩ := h.row; let ⟨cs, h3⟩ := h.cells; ⟨h.ne, ⟨cs, l _ _ h3⟩, x, y, z, l _ _ h1, h2⟩
def sp_law_bag : SpD := fun ds L Q _ => ∃ ns : List Int, ds = [.lro (ns.map .int)] ∧ ns.length ≤ 1000 ∧ ∀ a b L', BagAt 0 L' a b → Q (.ref a) L'
theorem len_law_bag : ∀ as L Q E, sp_law_bag as L Q E → as.length = 1 := by rintro _ L Q E ⟨p, rfl, _⟩; rfl
def d__law_bag : DS :=
  (sRet (dLst (dCons (dCB dListOf (dCons (dVar 0) dNil)) (dCons (dC (.int 0)) (dCons (dC (.int 0)) (dCons (dC (.int 7)) dNil))))))

theorem pure_law_bag : ∀ as L Q E, sp_law_bag as L Q E → d__law_bag (fnEnds Q E) (dstart 1 as) L := by
  rintro as L Q E ⟨ns, rfl, hl, q⟩
  simp only [d__law_bag, dVar, dC, dOp, dUn, dNil, dCons, dTup, dLst, dCB, dTest, dAnd, dOr, dNot, dAndV, dOrV, dNotV, dIfE, dChain, sNext, sSeq, sBreak, sCont, sDrop, sRet, sRetN, sIf, gdName, gdNil, gdCons, gdTup, gdSub, sAsg, dCall, xOf, sFor, dSeq, dRng1, dRng2, dI, dI0, dB0, dAdd, dIsN, dNotN, isNon, dIx, dSetL, dNeg, one, two, dLen1, dListOf1, dTupOf1, dAbs1, dIntOf1, dII, marg, dAppend1, dExtend1, dIsi, isA, dSl, dPart, dNoPart, dCut, dLc, dYes, sRaise, sTry, exBy, sPar2, sPar3, dIsBl, dNotBl, dBM, dBM0, dEq, dNe, dIn, dSgn, dLc2, dEnum, dListRg1, dListRg2, dTupRg1, dTupRg2, dStrOf1, dRep, dLenSet, dstart, fnE_nx, fnE_rt, fnE_ex, Nat.zero_le, Nat.reduceLeDiff, decide_true, decide_false, true_or, or_true, false_or, or_false, decide_eq_true_eq, exists_eq_left', exists_eq_left, exists_eq_right, exists_eq_right', Option.some.injEq, List.cons.injEq, D.int.injEq, D.bl.injEq, D.str.injEq, D.tup.injEq, D.lro.injEq, D.ref.injEq, DO.lst.injEq, and_true, true_and, and_false, false_and, exists_false, exists_const, List.getElem?_cons_zero, List.getElem?_cons_succ, List.map_cons, List.map_nil, List.length_cons, List.length_nil, List.replicate_zero, List.replicate_succ, List.append_nil, List.cons_append, List.nil_append, List.set_cons_zero, List.set_cons_succ, Nat.reduceAdd, Nat.reduceSub, Nat.zero_add, reduceIte, Bool.false_eq_true, reduceCtorEq, if_true, if_false, Bool.not_true, Bool.not_false, exists_and_left]
  intro p hp p2 hp2
  have hne : p ≠ p2 := fresh_ne updD_same hp2
  refine ⟨_, Le.refl, q p2 p _ ⟨hne, ⟨ns, by rw [updD_ne hne, updD_same]⟩, 0, 0, 7, updD_same, by decide, by decide, by decide, by decide, by decide⟩⟩
def sp_law_pick : SpD := fun ds L Q _ => ∃ (a b : Addr) (m : Int) (n : Nat), ds = [.ref a, .int m] ∧ BagAt n L a b ∧ n ≤ 1000000000 ∧ 1 ≤ m ∧ m ≤ 10 ^ 60 ∧ ∀ r o, 0 ≤ r → r < m → BagAt (n + 1) (upd L a o) a b → Q (.int r) (upd L a o)
theorem len_law_pick : ∀ as L Q E, sp_law_pick as L Q E → as.length = 2 := by rintro _ L Q E ⟨a, b, m, n, rfl, _⟩; rfl
def d__law_pick_t0a3a1 : DS :=
  (sAsg (dOp dAdd (dOp dDiv (dOp dMulI (dVar 4) (dVar 4)) (dC (.int 4093))) (dOp dMulI (dVar 4) (dC (.int 6700417)))) (gdName 4))
def d__law_pick_t0a6 : DS :=
  (sAsg (dOp dMod (dCB dIntOf (dCons (dOp dAdd (dOp dMulI (dOp dIx (dVar 0) (dC (.int 3))) (dC (.int 40692))) (dVar 4)) dNil)) (dC (.int 2305843009213693951))) (gdSub (dVar 0) (dC (.int 3)) dSetL))
def d__law_pick_t0a5 : DS :=
  (sSeq (sAsg (dVar 4) (gdSub (dVar 0) (dC (.int 2)) dSetL)) d__law_pick_t0a6)
def d__law_pick_t0a4 : DS :=
  (sSeq (sAsg (dOp dAdd (dVar 3) (dC (.int 1))) (gdSub (dVar 0) (dC (.int 1)) dSetL)) d__law_pick_t0a5)
def d__law_pick_t0a3 : DS :=
  (sSeq (sIf (dTest (dOp dLt (dVar 4) (dOp dPow (dC (.int 10)) (dC (.int 18))))) (sSeq (sAsg (dOp dMulI (dOp dAdd (dOp dAdd (dOp dMulI (dVar 4) (dC (.int 1103515249))) (dOp dMulI (dC (.int 12820163)) (dVar 3))) (dC (.int 2147480009))) (dOp dAdd (dOp dAdd (dVar 4) (dC (.int 86028157))) (dVar 3))) (gdName 4)) d__law_pick_t0a3a1) sNext) d__law_pick_t0a4)
def d__law_pick_t0a2 : DS :=
  (sSeq (sAsg (dIfE (dTest (dOp dGe (dVar 4) (dC (.int 0)))) (dOp dMulI (dC (.int 2)) (dVar 4)) (dOp dSub (dOp dMulI (dUn dNeg (dC (.int 2))) (dVar 4)) (dC (.int 1)))) (gdName 4)) d__law_pick_t0a3)
def d__law_pick_t0a1 : DS :=
  (sSeq (sAsg (dIfE (dTest (dOp dLt (dVar 3) (dCB dLen (dCons (dOp dIx (dVar 0) (dC (.int 0))) dNil)))) (dOp dIx (dOp dIx (dVar 0) (dC (.int 0))) (dVar 3)) (dOp dAdd (dOp dDiv (dOp dIx (dVar 0) (dC (.int 3))) (dC (.int 3))) (dOp dMulI (dC (.int 77003)) (dVar 3)))) (gdName 4)) d__law_pick_t0a2)
def d__law_pick_t3 : DS :=
  (sRet (dVar 2))
def d__law_pick_t2 : DS :=
  (sSeq (sAsg (dOp dDiv (dOp dIx (dVar 0) (dC (.int 2))) (dVar 1)) (gdSub (dVar 0) (dC (.int 2)) dSetL)) d__law_pick_t3)
def d__law_pick_t1 : DS :=
  (sSeq (sAsg (dOp dMod (dCB dIntOf (dCons (dOp dIx (dVar 0) (dC (.int 2))) dNil)) (dVar 1)) (gdName 2)) d__law_pick_t2)
def d__law_pick : DS :=
  (sSeq (sIf (dTest (dOp dLt (dOp dIx (dVar 0) (dC (.int 2))) (dVar 1))) (sSeq (sAsg (dOp dIx (dVar 0) (dC (.int 1))) (gdName 3)) d__law_pick_t0a1) sNext) d__law_pick_t1)

theorem cdiv_big {i j : Int} (h1 : 1 ≤ j) (h2 : j ≤ 10 ^ 60) : CDivW i j := by
  have : (10 : Int) ^ 60 < 2 ^ 200 := by decide
  exact wide_div (b := 200) (by omega) (by omega) (by decide) (by decide)
theorem pick_half {a b : Addr} {m : Int} {n : Nat} {L : DH} {Q : DK} {E : XD} (hne : b ≠ a) {cells : List Int} (hb : L b = some (.lst (cells.map .int))) (m1 : 1 ≤ m) (m2 : m ≤ 10 ^ 60)
    (q : ∀ (r : Int) (o : DO), 0 ≤ r → r < m → BagAt (n + 1) (upd L a o) a b → Q (.int r) (upd L a o)) (L1 : DH) (hu : ∀ o, upd L1 a o = upd L a o) (t c x : Int) (ha : L1 a = some (.lst [.ref b, .int t, .int c, .int x]))
    (t0 : 0 ≤ t) (t1 : t ≤ n + 1) (c0 : 0 ≤ c) (x0 : 0 ≤ x) (x1 : x < 2305843009213693951) (s2 s3 s4 : Option D) : d__law_pick_t1 (fnEnds Q E) [some (.ref a), some (.int m), s2, s3, s4] L1 := by
  simp only [d__law_pick_t1, d__law_pick_t2, d__law_pick_t3, dVar, dC, dOp, dUn, dNil, dCons, dTup, dLst, dCB, dTest, dAnd, dOr, dNot, dAndV, dOrV, dNotV, dIfE, dChain, sNext, sSeq, sBreak, sCont, sDrop, sRet, sRetN, sIf, gdName, gdNil, gdCons, gdTup, gdSub, sAsg, dCall, xOf, sFor, dSeq, dRng1, dRng2, dI, dI0, dB0, dAdd, dIsN, dNotN, isNon, dIx, dSetL, dNeg, one, two, dLen1, dListOf1, dTupOf1, dAbs1, dIntOf1, dII, marg, dAppend1, dExtend1, dIsi, isA, dSl, dPart, dNoPart, dCut, dLc, dYes, sRaise, sTry, exBy, sPar2, sPar3, dIsBl, dNotBl, dBM, dBM0, dEq, dNe, dIn, dSgn, dLc2, dEnum, dListRg1, dListRg2, dTupRg1, dTupRg2, dStrOf1, dRep, dLenSet, dstart, fnE_nx, fnE_rt, fnE_ex, Nat.zero_le, Nat.reduceLeDiff, decide_true, decide_false, true_or, or_true, false_or, or_false, decide_eq_true_eq, exists_eq_left', exists_eq_left, exists_eq_right, exists_eq_right', Option.some.injEq, List.cons.injEq, D.int.injEq, D.bl.injEq, D.str.injEq, D.tup.injEq, D.lro.injEq, D.ref.injEq, DO.lst.injEq, and_true, true_and, and_false, false_and, exists_false, exists_const, List.getElem?_cons_zero, List.getElem?_cons_succ, List.map_cons, List.map_nil, List.length_cons, List.length_nil, List.replicate_zero, List.replicate_succ, List.append_nil, List.cons_append, List.nil_append, List.set_cons_zero, List.set_cons_succ, Nat.reduceAdd, Nat.reduceSub, Nat.zero_add, reduceIte, Bool.false_eq_true, reduceCtorEq, if_true, if_false, Bool.not_true, Bool.not_false, exists_and_left, ha, atI2, ixN_42]
  refine ⟨by omega, cdiv_big m1 m2, ?_⟩
  rw [hu]
  refine endOf (q (c % m) _ (Int.emod_nonneg _ (by omega)) (Int.emod_lt_of_pos _ (by omega)) ⟨hne, ⟨cells, by rw [updD_ne hne]; exact hb⟩, t, c / m, x, updD_same, t0, by push_cast; omega, Int.ediv_nonneg c0 (by omega), x0, x1⟩)
theorem atI_ints {ns : List Int} {i : Int} (h0 : 0 ≤ i) (h1 : i < ns.length) : ∃ x, atI (ns.map D.int) i = some (.int x) ∧ x ∈ ns := by
  obtain ⟨d, e, _, hd⟩ := atI_in (xs := ns.map D.int) h0 (by simpa using h1)
  obtain ⟨x, hx, rfl⟩ := List.mem_map.mp hd
  exact ⟨x, e, hx⟩
theorem pure_law_pick : ∀ as L Q E, sp_law_pick as L Q E → d__law_pick (fnEnds Q E) (dstart 5 as) L := by
  rintro as L Q E ⟨a, b, m, n, rfl, ⟨hne, ⟨cells, hb⟩, t, c, x, ha, t0, t1, c0, x0, x1⟩, hn, m1, m2, q⟩
  simp only [d__law_pick, dVar, dC, dOp, dUn, dNil, dCons, dTup, dLst, dCB, dTest, dAnd, dOr, dNot, dAndV, dOrV, dNotV, dIfE, dChain, sNext, sSeq, sBreak, sCont, sDrop, sRet, sRetN, sIf, gdName, gdNil, gdCons, gdTup, gdSub, sAsg, dCall, xOf, sFor, dSeq, dRng1, dRng2, dI, dI0, dB0, dAdd, dIsN, dNotN, isNon, dIx, dSetL, dNeg, one, two, dLen1, dListOf1, dTupOf1, dAbs1, dIntOf1, dII, marg, dAppend1, dExtend1, dIsi, isA, dSl, dPart, dNoPart, dCut, dLc, dYes, sRaise, sTry, exBy, sPar2, sPar3, dIsBl, dNotBl, dBM, dBM0, dEq, dNe, dIn, dSgn, dLc2, dEnum, dListRg1, dListRg2, dTupRg1, dTupRg2, dStrOf1, dRep, dLenSet, dstart, fnE_nx, fnE_rt, fnE_ex, Nat.zero_le, Nat.reduceLeDiff, decide_true, decide_false, true_or, or_true, false_or, or_false, decide_eq_true_eq, exists_eq_left', exists_eq_left, exists_eq_right, exists_eq_right', Option.some.injEq, List.cons.injEq, D.int.injEq, D.bl.injEq, D.str.injEq, D.tup.injEq, D.lro.injEq, D.ref.injEq, DO.lst.injEq, and_true, true_and, and_false, false_and, exists_false, exists_const, List.getElem?_cons_zero, List.getElem?_cons_succ, List.map_cons, List.map_nil, List.length_cons, List.length_nil, List.replicate_zero, List.replicate_succ, List.append_nil, List.cons_append, List.nil_append, List.set_cons_zero, List.set_cons_succ, Nat.reduceAdd, Nat.reduceSub, Nat.zero_add, reduceIte, Bool.false_eq_true, reduceCtorEq, if_true, if_false, Bool.not_true, Bool.not_false, exists_and_left, ha, atI2]
  have half := pick_half (E := E) hne hb m1 m2 q
  split
  · refine ⟨_, atI1, ?_⟩
    simp only [d__law_pick_t0a1, dVar, dC, dOp, dUn, dNil, dCons, dTup, dLst, dCB, dTest, dAnd, dOr, dNot, dAndV, dOrV, dNotV, dIfE, dChain, sNext, sSeq, sBreak, sCont, sDrop, sRet, sRetN, sIf, gdName, gdNil, gdCons, gdTup, gdSub, sAsg, dCall, xOf, sFor, dSeq, dRng1, dRng2, dI, dI0, dB0, dAdd, dIsN, dNotN, isNon, dIx, dSetL, dNeg, one, two, dLen1, dListOf1, dTupOf1, dAbs1, dIntOf1, dII, marg, dAppend1, dExtend1, dIsi, isA, dSl, dPart, dNoPart, dCut, dLc, dYes, sRaise, sTry, exBy, sPar2, sPar3, dIsBl, dNotBl, dBM, dBM0, dEq, dNe, dIn, dSgn, dLc2, dEnum, dListRg1, dListRg2, dTupRg1, dTupRg2, dStrOf1, dRep, dLenSet, dstart, fnE_nx, fnE_rt, fnE_ex, Nat.zero_le, Nat.reduceLeDiff, decide_true, decide_false, true_or, or_true, false_or, or_false, decide_eq_true_eq, exists_eq_left', exists_eq_left, exists_eq_right, exists_eq_right', Option.some.injEq, List.cons.injEq, D.int.injEq, D.bl.injEq, D.str.injEq, D.tup.injEq, D.lro.injEq, D.ref.injEq, DO.lst.injEq, and_true, true_and, and_false, false_and, exists_false, exists_const, List.getElem?_cons_zero, List.getElem?_cons_succ, List.map_cons, List.map_nil, List.length_cons, List.length_nil, List.replicate_zero, List.replicate_succ, List.append_nil, List.cons_append, List.nil_append, List.set_cons_zero, List.set_cons_succ, Nat.reduceAdd, Nat.reduceSub, Nat.zero_add, reduceIte, Bool.false_eq_true, reduceCtorEq, if_true, if_false, Bool.not_true, Bool.not_false, exists_and_left, ha, hb, atI0, atI1, atI3]
    have e18 : (10 : Int) ^ (18 : Int).toNat = 1000000000000000000 := by decide
    have a4 : ∀ v : Int, 0 ≤ v → d__law_pick_t0a4 { fnEnds Q E with nx := d__law_pick_t1 (fnEnds Q E) } [some (.ref a), some (.int m), none, some (.int t), some (.int v)] L := by
      intro v v0
      simp only [d__law_pick_t0a4, d__law_pick_t0a5, d__law_pick_t0a6, dVar, dC, dOp, dUn, dNil, dCons, dTup, dLst, dCB, dTest, dAnd, dOr, dNot, dAndV, dOrV, dNotV, dIfE, dChain, sNext, sSeq, sBreak, sCont, sDrop, sRet, sRetN, sIf, gdName, gdNil, gdCons, gdTup, gdSub, sAsg, dCall, xOf, sFor, dSeq, dRng1, dRng2, dI, dI0, dB0, dAdd, dIsN, dNotN, isNon, dIx, dSetL, dNeg, one, two, dLen1, dListOf1, dTupOf1, dAbs1, dIntOf1, dII, marg, dAppend1, dExtend1, dIsi, isA, dSl, dPart, dNoPart, dCut, dLc, dYes, sRaise, sTry, exBy, sPar2, sPar3, dIsBl, dNotBl, dBM, dBM0, dEq, dNe, dIn, dSgn, dLc2, dEnum, dListRg1, dListRg2, dTupRg1, dTupRg2, dStrOf1, dRep, dLenSet, dstart, fnE_nx, fnE_rt, fnE_ex, Nat.zero_le, Nat.reduceLeDiff, decide_true, decide_false, true_or, or_true, false_or, or_false, decide_eq_true_eq, exists_eq_left', exists_eq_left, exists_eq_right, exists_eq_right', Option.some.injEq, List.cons.injEq, D.int.injEq, D.bl.injEq, D.str.injEq, D.tup.injEq, D.lro.injEq, D.ref.injEq, DO.lst.injEq, and_true, true_and, and_false, false_and, exists_false, exists_const, List.getElem?_cons_zero, List.getElem?_cons_succ, List.map_cons, List.map_nil, List.length_cons, List.length_nil, List.replicate_zero, List.replicate_succ, List.append_nil, List.cons_append, List.nil_append, List.set_cons_zero, List.set_cons_succ, Nat.reduceAdd, Nat.reduceSub, Nat.zero_add, reduceIte, Bool.false_eq_true, reduceCtorEq, if_true, if_false, Bool.not_true, Bool.not_false, exists_and_left, ha, ixN_41, updD_same, ixN_42, atI3, ixN_43]
      refine ⟨cmul_r (by decide) (by decide), by decide, ?_⟩
      refine half _ (fun o => by rw [updD_upd, updD_upd, updD_upd]) (t + 1) v ((x * 40692 + v) % 2305843009213693951) updD_same (by omega) (by omega) v0 (Int.emod_nonneg _ (by decide)) (Int.emod_lt_of_pos _ (by decide)) _ _ _
    have a3 : ∀ v : Int, 0 ≤ v → d__law_pick_t0a3 { fnEnds Q E with nx := d__law_pick_t1 (fnEnds Q E) } [some (.ref a), some (.int m), none, some (.int t), some (.int v)] L := by
      intro v v0
      simp only [d__law_pick_t0a3, d__law_pick_t0a3a1, dVar, dC, dOp, dUn, dNil, dCons, dTup, dLst, dCB, dTest, dAnd, dOr, dNot, dAndV, dOrV, dNotV, dIfE, dChain, sNext, sSeq, sBreak, sCont, sDrop, sRet, sRetN, sIf, gdName, gdNil, gdCons, gdTup, gdSub, sAsg, dCall, xOf, sFor, dSeq, dRng1, dRng2, dI, dI0, dB0, dAdd, dIsN, dNotN, isNon, dIx, dSetL, dNeg, one, two, dLen1, dListOf1, dTupOf1, dAbs1, dIntOf1, dII, marg, dAppend1, dExtend1, dIsi, isA, dSl, dPart, dNoPart, dCut, dLc, dYes, sRaise, sTry, exBy, sPar2, sPar3, dIsBl, dNotBl, dBM, dBM0, dEq, dNe, dIn, dSgn, dLc2, dEnum, dListRg1, dListRg2, dTupRg1, dTupRg2, dStrOf1, dRep, dLenSet, dstart, fnE_nx, fnE_rt, fnE_ex, Nat.zero_le, Nat.reduceLeDiff, decide_true, decide_false, true_or, or_true, false_or, or_false, decide_eq_true_eq, exists_eq_left', exists_eq_left, exists_eq_right, exists_eq_right', Option.some.injEq, List.cons.injEq, D.int.injEq, D.bl.injEq, D.str.injEq, D.tup.injEq, D.lro.injEq, D.ref.injEq, DO.lst.injEq, and_true, true_and, and_false, false_and, exists_false, exists_const, List.getElem?_cons_zero, List.getElem?_cons_succ, List.map_cons, List.map_nil, List.length_cons, List.length_nil, List.replicate_zero, List.replicate_succ, List.append_nil, List.cons_append, List.nil_append, List.set_cons_zero, List.set_cons_succ, Nat.reduceAdd, Nat.reduceSub, Nat.zero_add, reduceIte, Bool.false_eq_true, reduceCtorEq, if_true, if_false, Bool.not_true, Bool.not_false, exists_and_left, e18]
      refine ⟨⟨by decide, by decide⟩, ?_⟩
      split
      · rename_i hv
        have w1 : 0 ≤ v * 1103515249 + 12820163 * t + 2147480009 := by omega
        have w2 : 0 ≤ v + 86028157 + t := by omega
        have w3 : v * 1103515249 + 12820163 * t + 2147480009 < 2 ^ 100 := by omega
        have w4 : v + 86028157 + t < 2 ^ 64 := by omega
        have w5 := Int.mul_nonneg w1 w2
        have w6 : (v * 1103515249 + 12820163 * t + 2147480009) * (v + 86028157 + t) < 2 ^ 100 * 2 ^ 64 := by
          have g1 := Int.mul_le_mul_of_nonneg_right (Int.le_of_lt w3) w2
          have g2 := Int.mul_lt_mul_of_pos_left w4 (show (0 : Int) < 2 ^ 100 by decide)
          omega
        refine ⟨cmul_r (by decide) (by decide), cmul_l (by decide) (by decide), cmul_r (by omega) w4, ?_⟩
        generalize (v * 1103515249 + 12820163 * t + 2147480009) * (v + 86028157 + t) = y at w5 w6
        have hy : y.natAbs < 2 ^ 164 := by omega
        refine ⟨.inr (wide_mul hy hy (by decide) (by decide) (by decide)), cdiv_of (by omega) (by omega), cmul_r (by decide) (by decide), ?_⟩
        have z1 : 0 ≤ y * y / 4093 := Int.ediv_nonneg (Int.mul_nonneg w5 w5) (by decide)
        exact a4 _ (by omega)
      · exact a4 v v0
    have a2 : ∀ v : Int, d__law_pick_t0a2 { fnEnds Q E with nx := d__law_pick_t1 (fnEnds Q E) } [some (.ref a), some (.int m), none, some (.int t), some (.int v)] L := by
      intro v
      simp only [d__law_pick_t0a2, dVar, dC, dOp, dUn, dNil, dCons, dTup, dLst, dCB, dTest, dAnd, dOr, dNot, dAndV, dOrV, dNotV, dIfE, dChain, sNext, sSeq, sBreak, sCont, sDrop, sRet, sRetN, sIf, gdName, gdNil, gdCons, gdTup, gdSub, sAsg, dCall, xOf, sFor, dSeq, dRng1, dRng2, dI, dI0, dB0, dAdd, dIsN, dNotN, isNon, dIx, dSetL, dNeg, one, two, dLen1, dListOf1, dTupOf1, dAbs1, dIntOf1, dII, marg, dAppend1, dExtend1, dIsi, isA, dSl, dPart, dNoPart, dCut, dLc, dYes, sRaise, sTry, exBy, sPar2, sPar3, dIsBl, dNotBl, dBM, dBM0, dEq, dNe, dIn, dSgn, dLc2, dEnum, dListRg1, dListRg2, dTupRg1, dTupRg2, dStrOf1, dRep, dLenSet, dstart, fnE_nx, fnE_rt, fnE_ex, Nat.zero_le, Nat.reduceLeDiff, decide_true, decide_false, true_or, or_true, false_or, or_false, decide_eq_true_eq, exists_eq_left', exists_eq_left, exists_eq_right, exists_eq_right', Option.some.injEq, List.cons.injEq, D.int.injEq, D.bl.injEq, D.str.injEq, D.tup.injEq, D.lro.injEq, D.ref.injEq, DO.lst.injEq, and_true, true_and, and_false, false_and, exists_false, exists_const, List.getElem?_cons_zero, List.getElem?_cons_succ, List.map_cons, List.map_nil, List.length_cons, List.length_nil, List.replicate_zero, List.replicate_succ, List.append_nil, List.cons_append, List.nil_append, List.set_cons_zero, List.set_cons_succ, Nat.reduceAdd, Nat.reduceSub, Nat.zero_add, reduceIte, Bool.false_eq_true, reduceCtorEq, if_true, if_false, Bool.not_true, Bool.not_false, exists_and_left]
      split
      · exact ⟨cmul_l (by decide) (by decide), a3 _ (by omega)⟩
      · exact ⟨cmul_l (by decide) (by decide), a3 _ (by omega)⟩
    split
    · rename_i ht
      obtain ⟨v, hv, _⟩ := atI_ints (ns := cells) t0 (by simpa using ht)
      exact ⟨_, hv, a2 v⟩
    · exact ⟨cdiv_of (by omega) (by omega), cmul_l (by decide) (by decide), a2 _⟩
  · exact half L (fun _ => rfl) t c x ha t0 (by omega) c0 x0 x1 _ _ _
/-! names -/
theorem in_strs {L : DH} {u : Addr} {zs : List Str} (h : L u = some (.lst (zs.map .str))) (z : Str) : inD L (.str z) (.ref u) = some (decide (z ∈ zs)) := by
  rw [inD_of (ys := zs.map .str) (itemsOf_ref h) (ps := zs.map .str) (optAll_map (fun c => pyL_str _ c) zs) (pyL_str _ _)]
  congr 1
  rw [List.any_map]
  induction zs with
  | nil => rfl
  | cons y ys ih =>
    have e : ((fun q => PyData.eqv q (.str z)) ∘ PyData.str) y = (y == z) := rfl
    have ih' : (ys.any ((fun q => PyData.eqv q (.str z)) ∘ PyData.str)) = decide (z ∈ ys) := by
      clear ih h e
      induction ys with
      | nil => rfl
      | cons w ws ih =>
        have e : ((fun q => PyData.eqv q (.str z)) ∘ PyData.str) w = (w == z) := rfl
        rw [List.any_cons, e, ih]
        by_cases hw : w = z
        · subst hw; simp
        · have : ¬ z = w := fun e => hw e.symm
          simp [hw, this]
    rw [List.any_cons, e, ih']
    by_cases hw : y = z
    · subst hw; simp
    · have : ¬ z = y := fun e => hw e.symm
      simp [hw, this]
def goodC (c : Nat) : Bool := smallC c || digitC c
structure Wd (k : Nat) (z : Str) : Prop where
  hd : z.cps.toList.head?.any smallC = true
  all : z.cps.toList.all goodC = true
  len : z.length ≤ k
theorem str_len (z : Str) : z.length = z.cps.toList.length := rfl
theorem str_app (x y : Str) : (x ++ y).cps.toList = x.cps.toList ++ y.cps.toList := by
  show (x.cps ++ y.cps).toList = _
  simp
theorem head_any {xs : List Nat} {p : Nat → Bool} (h : xs.head?.any p = true) (ys : List Nat) : (xs ++ ys).head?.any p = true := by
  cases xs with
  | nil => cases h
  | cons x xs => exact h
theorem Wd.app {k j : Nat} {x y : Str} (h : Wd k x) (hy : y.cps.toList.all goodC = true) (hl : y.length ≤ j) : Wd (k + j) (x ++ y) := by
  refine ⟨?_, ?_, ?_⟩
  · rw [str_app]; exact head_any h.hd _
  · rw [str_app, List.all_append, h.all, hy]; rfl
  · have := h.len
    rw [str_len] at *
    rw [str_app, List.length_append]
    omega
theorem Wd.low {z : Str} (h : Wd 10 z) (hw : wordS z = false) : lowName z = true := by
  have h1 : 1 ≤ z.length := by
    have := h.hd
    rw [str_len]
    cases e : z.cps.toList with
    | nil => rw [e] at this; cases this
    | cons c cs => simp
  have h2 := h.len
  unfold lowName
  rw [hw, h.hd, show (z.cps.toList.all fun c => smallC c || digitC c) = true from h.all, decide_eq_true (by omega)]
  rfl
def sfx (i : Int) : Str := Str.ofString (toString i)
def sfxL (i : Int) : List Nat := (toString i).toList.map Char.toNat
theorem sfx_eq (i : Int) : (sfx i).cps.toList = sfxL i := by
  unfold sfx sfxL
  rw [Str.ofString_eq_toList]
theorem sfx_facts : ∀ j : Nat, j < 100 → (sfxL j).all digitC = true ∧ (sfxL j).length ≤ 2 ∧ (sfxL j).any (fun c => !smallC c) = true := by decide +kernel
theorem sfx_nodup : ((List.range 100).map fun (j : Nat) => sfxL (j : Int)).Nodup := by decide +kernel
theorem pigeon {α : Type} [DecidableEq α] : ∀ (xs ys : List α), xs.Nodup → (∀ x, x ∈ xs → x ∈ ys) → xs.length ≤ ys.length
  | [], _, _, _ => Nat.zero_le _
  | x :: xs, ys, hn, hs => by
    have hx := hs x List.mem_cons_self
    have hn := List.nodup_cons.mp hn
    have := pigeon xs (ys.erase x) hn.2 fun y hy => (List.mem_erase_of_ne (fun e => hn.1 (by rw [← e]; exact hy))).mpr (hs y (List.mem_cons_of_mem _ hy))
    rw [List.length_erase_of_mem hx] at this
    have : 0 < ys.length := List.length_pos_of_mem hx
    simp only [List.length_cons]
    omega
theorem word_small {z : Str} (h : wordS z = true) : z.cps.toList.all smallC = true := by
  unfold wordS at h
  obtain ⟨q, hq, e⟩ := List.any_eq_true.mp h
  have e : q = z := by simpa using e
  subst e
  have : ∀ q : Str, q ∈ [("call" : Str), "exit", "move", "proc"] → q.cps.toList.all smallC = true := by decide +kernel
  exact this q hq
def cand (w : Str) (i : Int) : Str := cutS w none (some 5) ++ sfx i
def sp_law_name : SpD := fun ds L Q _ => ∃ (a b u : Addr) (n : Nat) (zs : List Str), ds = [.ref a, .ref u] ∧ BagAt n L a b ∧ n ≤ 900000000 ∧ u ≠ a ∧ u ≠ b ∧ L u = some (.lst (zs.map .str)) ∧ zs.length ≤ 90 ∧
  ∀ z o, lowName z = true → z ∉ zs → BagAt (n + 7) (upd (upd L a o) u (.lst ((zs ++ [z]).map .str))) a b → Q (.str z) (upd (upd L a o) u (.lst ((zs ++ [z]).map .str)))
theorem len_law_name : ∀ as L Q E, sp_law_name as L Q E → as.length = 2 := by rintro _ L Q E ⟨a, b, u, n, zs, rfl, _⟩; rfl
def d__law_name_b2 : DS :=
  (sAsg (dOp dAdd (dVar 3) (dOp dIx (dOp dAdd (dVar 2) (dC (.str "0123456789"))) (dCall sp_law_pick (dCons (dVar 0) (dCons (dC (.int 36)) dNil))))) (gdName 3))
def d__law_name_t5 : DS :=
  (sRet (dVar 3))
def d__law_name_t4 : DS :=
  (sSeq (sDrop (dBM chkL (marg dAppend1) (dVar 1) (dCons (dVar 3) dNil))) d__law_name_t5)
def d__law_name_t3 : DS :=
  (sSeq (sIf (dOr (dTest (dOp (dIn false) (dVar 3) (dVar 1))) (dTest (dOp (dIn false) (dVar 3) (dTup (dCons (dC (.str "call")) (dCons (dC (.str "exit")) (dCons (dC (.str "move")) (dCons (dC (.str "proc")) dNil)))))))) (sAsg (dOp dIx (dLc (dRng1 (dCons (dC (.int 100)) dNil)) (gdName 4) (dTest (dOp (dIn true) (dOp dAdd (dSl dCut (dVar 3) dNoPart (dPart (dC (.int 5)))) (dCB dStrOf (dCons (dVar 4) dNil))) (dVar 1))) (dOp dAdd (dSl dCut (dVar 3) dNoPart (dPart (dC (.int 5)))) (dCB dStrOf (dCons (dVar 4) dNil))) [4]) (dC (.int 0))) (gdName 3)) sNext) d__law_name_t4)
def d__law_name_t2 : DS :=
  (sSeq (sFor (dRng1 (dCons (dCall sp_law_pick (dCons (dVar 0) (dCons (dC (.int 6)) dNil))) dNil)) (gdName 4)
  d__law_name_b2) d__law_name_t3)
def d__law_name_t1 : DS :=
  (sSeq (sAsg (dOp dIx (dVar 2) (dCall sp_law_pick (dCons (dVar 0) (dCons (dC (.int 26)) dNil)))) (gdName 3)) d__law_name_t2)
def d__law_name : DS :=
  (sSeq (sAsg (dC (.str "abcdefghijklmnopqrstuvwxyz")) (gdName 2)) d__law_name_t1)

theorem tab_sd (c : Nat) : c ∈ (("abcdefghijklmnopqrstuvwxyz" : Str) ++ ("0123456789" : Str)).cps.toList → goodC c = true := by
  rw [str_app]
  intro h
  unfold goodC smallC digitC
  rcases List.mem_append.mp h with h | h
  · rw [decide_eq_true h]; rfl
  · rw [decide_eq_true h]; simp
theorem small_len : ("abcdefghijklmnopqrstuvwxyz" : Str).cps.toList.length = 26 := by decide +kernel
theorem both_len : (("abcdefghijklmnopqrstuvwxyz" : Str) ++ ("0123456789" : Str)).cps.toList.length = 36 := by decide +kernel
theorem cutS5 (z : Str) : (cutS z none (some 5)).cps.toList = z.cps.toList.take (min 5 z.length) := by
  show ((z.cps.toList.drop 0).take (min 5 z.length - 0)).toArray.toList = _
  simp
theorem cand_facts {w : Str} (h : Wd 6 w) {j : Nat} (hj : j < 100) : Wd 10 (cand w j) ∧ wordS (cand w j) = false := by
  obtain ⟨f1, f2, f3⟩ := sfx_facts j hj
  have hw : Wd 5 (cutS w none (some 5)) := by
    have h1 := h.hd
    have h2 := h.all
    refine ⟨?_, ?_, ?_⟩
    · rw [cutS5]
      have : 1 ≤ w.length := by
        rw [str_len]
        cases e : w.cps.toList with
        | nil => rw [e] at h1; cases h1
        | cons c cs => simp
      cases e : w.cps.toList with
      | nil => rw [e] at h1; cases h1
      | cons c cs =>
        rw [e] at h1
        obtain ⟨k, hk⟩ : ∃ k, min 5 w.length = k + 1 := ⟨min 5 w.length - 1, by omega⟩
        rw [hk]
        exact h1
    · rw [cutS5, List.all_eq_true]
      intro x hx
      exact List.all_eq_true.mp h2 x (List.mem_of_mem_take hx)
    · rw [str_len, cutS5, List.length_take]
      omega
  have hs : (sfx j).cps.toList.all goodC = true := by
    rw [sfx_eq, List.all_eq_true]
    intro x hx
    unfold goodC
    rw [List.all_eq_true.mp f1 x hx]; simp
  have hl : (sfx j).length ≤ 2 := by rw [str_len, sfx_eq]; exact f2
  have h7 := hw.app hs hl
  refine ⟨⟨h7.hd, h7.all, by have := h7.len; unfold cand; omega⟩, ?_⟩
  cases e : wordS (cand w j) with
  | false => rfl
  | true =>
    have := word_small e
    unfold cand at this
    rw [str_app, List.all_append, sfx_eq, Bool.and_eq_true] at this
    obtain ⟨x, hx, hn⟩ := List.any_eq_true.mp f3
    have := List.all_eq_true.mp this.2 x hx
    rw [this] at hn
    cases hn
theorem cand_free {w : Str} {zs : List Str} (hz : zs.length ≤ 90) : ∃ j : Nat, j < 100 ∧ cand w j ∉ zs := by
  refine Classical.byContradiction fun hno => ?_
  have hno : ∀ j : Nat, j < 100 → cand w j ∈ zs := fun j hj => Classical.byContradiction fun h => hno ⟨j, hj, h⟩
  have hnd : ((List.range 100).map fun (j : Nat) => cand w j).Nodup := by
    have h0 := sfx_nodup
    unfold List.Nodup at *
    rw [List.pairwise_map] at *
    refine h0.imp fun {x y} h e => h ?_
    have e : (cand w x).cps.toList = (cand w y).cps.toList := by rw [e]
    unfold cand at e
    rw [str_app, str_app, sfx_eq, sfx_eq] at e
    exact List.append_cancel_left e
  have := pigeon _ zs hnd fun x hx => by
    obtain ⟨j, hj, rfl⟩ := List.mem_map.mp hx
    exact hno j (List.mem_range.mp hj)
  rw [List.length_map, List.length_range] at this
  omega
theorem name_t3 {a b u : Addr} {n : Nat} {zs : List Str} {L : DH} {Q : DK} {E : XD} (hn : n ≤ 1000000000) (ua : u ≠ a) (ub : u ≠ b) (hz : zs.length ≤ 90) {z : Str} (hw : Wd 6 z) (hu : L u = some (.lst (zs.map .str))) (hb : BagAt n L a b)
    (q : ∀ z, lowName z = true → z ∉ zs → BagAt n (upd L u (.lst ((zs ++ [z]).map .str))) a b → Q (.str z) (upd L u (.lst ((zs ++ [z]).map .str)))) (o2 o4 : Option D) :
    d__law_name_t3 (fnEnds Q E) [some (.ref a), some (.ref u), o2, some (.str z), o4] L := by
  have hend : ∀ (z : Str) (L' : DH) (o4 : Option D), Le L L' → lowName z = true → z ∉ zs → d__law_name_t4 (fnEnds Q E) [some (.ref a), some (.ref u), o2, some (.str z), o4] L' := by
    intro z L' o4 hle h1 h2
    simp only [d__law_name_t4, d__law_name_t5, dVar, dC, dOp, dUn, dNil, dCons, dTup, dLst, dCB, dTest, dAnd, dOr, dNot, dAndV, dOrV, dNotV, dIfE, dChain, sNext, sSeq, sBreak, sCont, sDrop, sRet, sRetN, sIf, gdName, gdNil, gdCons, gdTup, gdSub, sAsg, dCall, xOf, sFor, dSeq, dRng1, dRng2, dI, dI0, dB0, dAdd, dIsN, dNotN, isNon, dIx, dSetL, dNeg, one, two, dLen1, dListOf1, dTupOf1, dAbs1, dIntOf1, dII, marg, dAppend1, dExtend1, dIsi, isA, dSl, dPart, dNoPart, dCut, dLc, dYes, sRaise, sTry, exBy, sPar2, sPar3, dIsBl, dNotBl, dBM, dBM0, dEq, dNe, dIn, dSgn, dLc2, dEnum, dListRg1, dListRg2, dTupRg1, dTupRg2, dStrOf1, dRep, dLenSet, dstart, fnE_nx, fnE_rt, fnE_ex, Nat.zero_le, Nat.reduceLeDiff, decide_true, decide_false, true_or, or_true, false_or, or_false, decide_eq_true_eq, exists_eq_left', exists_eq_left, exists_eq_right, exists_eq_right', Option.some.injEq, List.cons.injEq, D.int.injEq, D.bl.injEq, D.str.injEq, D.tup.injEq, D.lro.injEq, D.ref.injEq, DO.lst.injEq, and_true, true_and, and_false, false_and, exists_false, exists_const, List.getElem?_cons_zero, List.getElem?_cons_succ, List.map_cons, List.map_nil, List.length_cons, List.length_nil, List.replicate_zero, List.replicate_succ, List.append_nil, List.cons_append, List.nil_append, List.set_cons_zero, List.set_cons_succ, Nat.reduceAdd, Nat.reduceSub, Nat.zero_add, reduceIte, Bool.false_eq_true, reduceCtorEq, if_true, if_false, Bool.not_true, Bool.not_false, exists_and_left, hle _ _ hu]
    refine ⟨⟨_, lstOf_ref (hle _ _ hu)⟩, by simp; omega, ?_⟩
    have e : (zs.map D.str ++ [D.str z]) = (zs ++ [z]).map .str := by simp
    rw [e]
    refine ⟨upd L u (.lst ((zs ++ [z]).map .str)), ?_, q z h1 h2 (hb.off ua ub)⟩
    intro c v hc
    by_cases hcu : c = u
    · subst hcu; rw [updD_same] at hc ⊢; exact hc
    · rw [updD_ne hcu] at hc ⊢; exact hle _ _ hc
  simp only [d__law_name_t3, dVar, dC, dOp, dUn, dNil, dCons, dTup, dLst, dCB, dTest, dAnd, dOr, dNot, dAndV, dOrV, dNotV, dIfE, dChain, sNext, sSeq, sBreak, sCont, sDrop, sRet, sRetN, sIf, gdName, gdNil, gdCons, gdTup, gdSub, sAsg, dCall, xOf, sFor, dSeq, dRng1, dRng2, dI, dI0, dB0, dAdd, dIsN, dNotN, isNon, dIx, dSetL, dNeg, one, two, dLen1, dListOf1, dTupOf1, dAbs1, dIntOf1, dII, marg, dAppend1, dExtend1, dIsi, isA, dSl, dPart, dNoPart, dCut, dLc, dYes, sRaise, sTry, exBy, sPar2, sPar3, dIsBl, dNotBl, dBM, dBM0, dEq, dNe, dIn, dSgn, dLc2, dEnum, dListRg1, dListRg2, dTupRg1, dTupRg2, dStrOf1, dRep, dLenSet, dstart, fnE_nx, fnE_rt, fnE_ex, Nat.zero_le, Nat.reduceLeDiff, decide_true, decide_false, true_or, or_true, false_or, or_false, decide_eq_true_eq, exists_eq_left', exists_eq_left, exists_eq_right, exists_eq_right', Option.some.injEq, List.cons.injEq, D.int.injEq, D.bl.injEq, D.str.injEq, D.tup.injEq, D.lro.injEq, D.ref.injEq, DO.lst.injEq, and_true, true_and, and_false, false_and, exists_false, exists_const, List.getElem?_cons_zero, List.getElem?_cons_succ, List.map_cons, List.map_nil, List.length_cons, List.length_nil, List.replicate_zero, List.replicate_succ, List.append_nil, List.cons_append, List.nil_append, List.set_cons_zero, List.set_cons_succ, Nat.reduceAdd, Nat.reduceSub, Nat.zero_add, reduceIte, Bool.false_eq_true, reduceCtorEq, if_true, if_false, Bool.not_true, Bool.not_false, exists_and_left, in_strs hu, in_words, Bool.false_xor]
  have hgo : z ∈ zs ∨ wordS z = true → sAsg (dOp dIx (dLc (dRng1 (dCons (dC (.int 100)) dNil)) (gdName 4) (dTest (dOp (dIn true) (dOp dAdd (dSl dCut (dVar 3) dNoPart (dPart (dC (.int 5)))) (dCB dStrOf (dCons (dVar 4) dNil))) (dVar 1))) (dOp dAdd (dSl dCut (dVar 3) dNoPart (dPart (dC (.int 5)))) (dCB dStrOf (dCons (dVar 4) dNil))) [4]) (dC (.int 0))) (gdName 3) { fnEnds Q E with nx := d__law_name_t4 (fnEnds Q E) } [some (.ref a), some (.ref u), o2, some (.str z), o4] L := by
    intro _
    simp only [dVar, dC, dOp, dUn, dNil, dCons, dTup, dLst, dCB, dTest, dAnd, dOr, dNot, dAndV, dOrV, dNotV, dIfE, dChain, sNext, sSeq, sBreak, sCont, sDrop, sRet, sRetN, sIf, gdName, gdNil, gdCons, gdTup, gdSub, sAsg, dCall, xOf, sFor, dSeq, dRng1, dRng2, dI, dI0, dB0, dAdd, dIsN, dNotN, isNon, dIx, dSetL, dNeg, one, two, dLen1, dListOf1, dTupOf1, dAbs1, dIntOf1, dII, marg, dAppend1, dExtend1, dIsi, isA, dSl, dPart, dNoPart, dCut, dLc, dYes, sRaise, sTry, exBy, sPar2, sPar3, dIsBl, dNotBl, dBM, dBM0, dEq, dNe, dIn, dSgn, dLc2, dEnum, dListRg1, dListRg2, dTupRg1, dTupRg2, dStrOf1, dRep, dLenSet, dstart, fnE_nx, fnE_rt, fnE_ex, Nat.zero_le, Nat.reduceLeDiff, decide_true, decide_false, true_or, or_true, false_or, or_false, decide_eq_true_eq, exists_eq_left', exists_eq_left, exists_eq_right, exists_eq_right', Option.some.injEq, List.cons.injEq, D.int.injEq, D.bl.injEq, D.str.injEq, D.tup.injEq, D.lro.injEq, D.ref.injEq, DO.lst.injEq, and_true, true_and, and_false, false_and, exists_false, exists_const, List.getElem?_cons_zero, List.getElem?_cons_succ, List.map_cons, List.map_nil, List.length_cons, List.length_nil, List.replicate_zero, List.replicate_succ, List.append_nil, List.cons_append, List.nil_append, List.set_cons_zero, List.set_cons_succ, Nat.reduceAdd, Nat.reduceSub, Nat.zero_add, reduceIte, Bool.false_eq_true, reduceCtorEq, if_true, if_false, Bool.not_true, Bool.not_false, exists_and_left, dwipe]
    refine ⟨⟨by decide, by decide⟩, ?_⟩
    let keep : D → Bool := fun d => match d with
      | .int i => decide (cand z i ∉ zs)
      | _ => false
    let f : D → D := fun d => match d with
      | .int i => .str (cand z i)
      | d => d
    have hzl : z.length ≤ 16777216 := by have := hw.len; omega
    have hcl : (cutS z none (some 5)).length ≤ 5 := by rw [str_len, cutS5, List.length_take]; omega
    refine lcD_pure keep f L trivial _ (fun d hd Kt Kf h1 h2 => ?_) [] (by simp [rngD_length]) ?_
    · obtain ⟨i, rfl, i0, i1⟩ := mem_rngD hd
      have i1 : i < 100 := by simpa using i1
      obtain ⟨j, rfl⟩ : ∃ j : Nat, i = j := ⟨i.toNat, by omega⟩
      have hl : (sfx j).length ≤ 2 := by rw [str_len, sfx_eq]; exact (sfx_facts j (by omega)).2.1
      have hlg : ((j : Int).natAbs).log2 < 1920 := by
        have : (j : Int).natAbs.log2 ≤ (j : Int).natAbs := Nat.log2_le_self _
        omega
      have hap : (cutS z none (some 5)).length + (Str.ofString (toString (j : Int))).length ≤ 16777216 := by
        have : (Str.ofString (toString (j : Int))).length = (sfx j).length := rfl
        omega
      have hin := in_strs hu (cutS z none (some 5) ++ Str.ofString (toString (j : Int)))
      simp only [dVar, dC, dOp, dUn, dNil, dCons, dTup, dLst, dCB, dTest, dAnd, dOr, dNot, dAndV, dOrV, dNotV, dIfE, dChain, sNext, sSeq, sBreak, sCont, sDrop, sRet, sRetN, sIf, gdName, gdNil, gdCons, gdTup, gdSub, sAsg, dCall, xOf, sFor, dSeq, dRng1, dRng2, dI, dI0, dB0, dAdd, dIsN, dNotN, isNon, dIx, dSetL, dNeg, one, two, dLen1, dListOf1, dTupOf1, dAbs1, dIntOf1, dII, marg, dAppend1, dExtend1, dIsi, isA, dSl, dPart, dNoPart, dCut, dLc, dYes, sRaise, sTry, exBy, sPar2, sPar3, dIsBl, dNotBl, dBM, dBM0, dEq, dNe, dIn, dSgn, dLc2, dEnum, dListRg1, dListRg2, dTupRg1, dTupRg2, dStrOf1, dRep, dLenSet, dstart, fnE_nx, fnE_rt, fnE_ex, Nat.zero_le, Nat.reduceLeDiff, decide_true, decide_false, true_or, or_true, false_or, or_false, decide_eq_true_eq, exists_eq_left', exists_eq_left, exists_eq_right, exists_eq_right', Option.some.injEq, List.cons.injEq, D.int.injEq, D.bl.injEq, D.str.injEq, D.tup.injEq, D.lro.injEq, D.ref.injEq, DO.lst.injEq, and_true, true_and, and_false, false_and, exists_false, exists_const, List.getElem?_cons_zero, List.getElem?_cons_succ, List.map_cons, List.map_nil, List.length_cons, List.length_nil, List.replicate_zero, List.replicate_succ, List.append_nil, List.cons_append, List.nil_append, List.set_cons_zero, List.set_cons_succ, Nat.reduceAdd, Nat.reduceSub, Nat.zero_add, reduceIte, Bool.false_eq_true, reduceCtorEq, if_true, if_false, Bool.not_true, Bool.not_false, exists_and_left, hin]
      refine ⟨hzl, hlg, hap, ?_⟩
      have h1 : decide (cand z (j : Int) ∉ zs) = true → Kt (.str (cand z j)) L := h1
      have h2 : decide (cand z (j : Int) ∉ zs) = false → Kf L := h2
      by_cases hm : cand z (j : Int) ∈ zs
      · have hm' : cutS z none (some 5) ++ Str.ofString (toString (j : Int)) ∈ zs := hm
        simp only [hm', dVar, dC, dOp, dUn, dNil, dCons, dTup, dLst, dCB, dTest, dAnd, dOr, dNot, dAndV, dOrV, dNotV, dIfE, dChain, sNext, sSeq, sBreak, sCont, sDrop, sRet, sRetN, sIf, gdName, gdNil, gdCons, gdTup, gdSub, sAsg, dCall, xOf, sFor, dSeq, dRng1, dRng2, dI, dI0, dB0, dAdd, dIsN, dNotN, isNon, dIx, dSetL, dNeg, one, two, dLen1, dListOf1, dTupOf1, dAbs1, dIntOf1, dII, marg, dAppend1, dExtend1, dIsi, isA, dSl, dPart, dNoPart, dCut, dLc, dYes, sRaise, sTry, exBy, sPar2, sPar3, dIsBl, dNotBl, dBM, dBM0, dEq, dNe, dIn, dSgn, dLc2, dEnum, dListRg1, dListRg2, dTupRg1, dTupRg2, dStrOf1, dRep, dLenSet, dstart, fnE_nx, fnE_rt, fnE_ex, Nat.zero_le, Nat.reduceLeDiff, decide_true, decide_false, true_or, or_true, false_or, or_false, decide_eq_true_eq, exists_eq_left', exists_eq_left, exists_eq_right, exists_eq_right', Option.some.injEq, List.cons.injEq, D.int.injEq, D.bl.injEq, D.str.injEq, D.tup.injEq, D.lro.injEq, D.ref.injEq, DO.lst.injEq, and_true, true_and, and_false, false_and, exists_false, exists_const, List.getElem?_cons_zero, List.getElem?_cons_succ, List.map_cons, List.map_nil, List.length_cons, List.length_nil, List.replicate_zero, List.replicate_succ, List.append_nil, List.cons_append, List.nil_append, List.set_cons_zero, List.set_cons_succ, Nat.reduceAdd, Nat.reduceSub, Nat.zero_add, reduceIte, Bool.false_eq_true, reduceCtorEq, if_true, if_false, Bool.not_true, Bool.not_false, exists_and_left]
        exact h2 (by simpa using hm)
      · have hm' : cutS z none (some 5) ++ Str.ofString (toString (j : Int)) ∉ zs := hm
        simp only [hm', dVar, dC, dOp, dUn, dNil, dCons, dTup, dLst, dCB, dTest, dAnd, dOr, dNot, dAndV, dOrV, dNotV, dIfE, dChain, sNext, sSeq, sBreak, sCont, sDrop, sRet, sRetN, sIf, gdName, gdNil, gdCons, gdTup, gdSub, sAsg, dCall, xOf, sFor, dSeq, dRng1, dRng2, dI, dI0, dB0, dAdd, dIsN, dNotN, isNon, dIx, dSetL, dNeg, one, two, dLen1, dListOf1, dTupOf1, dAbs1, dIntOf1, dII, marg, dAppend1, dExtend1, dIsi, isA, dSl, dPart, dNoPart, dCut, dLc, dYes, sRaise, sTry, exBy, sPar2, sPar3, dIsBl, dNotBl, dBM, dBM0, dEq, dNe, dIn, dSgn, dLc2, dEnum, dListRg1, dListRg2, dTupRg1, dTupRg2, dStrOf1, dRep, dLenSet, dstart, fnE_nx, fnE_rt, fnE_ex, Nat.zero_le, Nat.reduceLeDiff, decide_true, decide_false, true_or, or_true, false_or, or_false, decide_eq_true_eq, exists_eq_left', exists_eq_left, exists_eq_right, exists_eq_right', Option.some.injEq, List.cons.injEq, D.int.injEq, D.bl.injEq, D.str.injEq, D.tup.injEq, D.lro.injEq, D.ref.injEq, DO.lst.injEq, and_true, true_and, and_false, false_and, exists_false, exists_const, List.getElem?_cons_zero, List.getElem?_cons_succ, List.map_cons, List.map_nil, List.length_cons, List.length_nil, List.replicate_zero, List.replicate_succ, List.append_nil, List.cons_append, List.nil_append, List.set_cons_zero, List.set_cons_succ, Nat.reduceAdd, Nat.reduceSub, Nat.zero_add, reduceIte, Bool.false_eq_true, reduceCtorEq, if_true, if_false, Bool.not_true, Bool.not_false, exists_and_left]
        exact ⟨hzl, hlg, hap, h1 (by simpa using hm)⟩
    · intro p hp
      rw [List.nil_append]
      obtain ⟨j, hj, hjn⟩ := cand_free (w := z) hz
      have hmem : D.int j ∈ (rngD 0 (100 : Int).toNat).filter keep := by
        rw [List.mem_filter]
        refine ⟨List.mem_map.mpr ⟨j, List.mem_range.mpr (by simpa using hj), by simp⟩, ?_⟩
        show decide (cand z (j : Int) ∉ zs) = true
        simpa using hjn
      cases e : (rngD 0 (100 : Int).toNat).filter keep with
      | nil => rw [e] at hmem; cases hmem
      | cons d ds =>
        have hd : d ∈ (rngD 0 (100 : Int).toNat).filter keep := by rw [e]; exact List.mem_cons_self
        obtain ⟨hd1, hd2⟩ := List.mem_filter.mp hd
        obtain ⟨i, rfl, i0, i1⟩ := mem_rngD hd1
        have i1 : i < 100 := by simpa using i1
        obtain ⟨k, rfl⟩ : ∃ k : Nat, i = k := ⟨i.toNat, by omega⟩
        have hd2 : decide (cand z (k : Int) ∉ zs) = true := hd2
        obtain ⟨c1, c2⟩ := cand_facts hw (show k < 100 by omega)
        refine ⟨_, updD_same, .str (cand z k), by rw [List.map_cons]; exact atI0, ?_⟩
        exact hend _ _ _ (Le.upd hp) (c1.low c2) (by simpa using hd2)
  by_cases h1 : z ∈ zs
  · simp only [h1, dVar, dC, dOp, dUn, dNil, dCons, dTup, dLst, dCB, dTest, dAnd, dOr, dNot, dAndV, dOrV, dNotV, dIfE, dChain, sNext, sSeq, sBreak, sCont, sDrop, sRet, sRetN, sIf, gdName, gdNil, gdCons, gdTup, gdSub, sAsg, dCall, xOf, sFor, dSeq, dRng1, dRng2, dI, dI0, dB0, dAdd, dIsN, dNotN, isNon, dIx, dSetL, dNeg, one, two, dLen1, dListOf1, dTupOf1, dAbs1, dIntOf1, dII, marg, dAppend1, dExtend1, dIsi, isA, dSl, dPart, dNoPart, dCut, dLc, dYes, sRaise, sTry, exBy, sPar2, sPar3, dIsBl, dNotBl, dBM, dBM0, dEq, dNe, dIn, dSgn, dLc2, dEnum, dListRg1, dListRg2, dTupRg1, dTupRg2, dStrOf1, dRep, dLenSet, dstart, fnE_nx, fnE_rt, fnE_ex, Nat.zero_le, Nat.reduceLeDiff, decide_true, decide_false, true_or, or_true, false_or, or_false, decide_eq_true_eq, exists_eq_left', exists_eq_left, exists_eq_right, exists_eq_right', Option.some.injEq, List.cons.injEq, D.int.injEq, D.bl.injEq, D.str.injEq, D.tup.injEq, D.lro.injEq, D.ref.injEq, DO.lst.injEq, and_true, true_and, and_false, false_and, exists_false, exists_const, List.getElem?_cons_zero, List.getElem?_cons_succ, List.map_cons, List.map_nil, List.length_cons, List.length_nil, List.replicate_zero, List.replicate_succ, List.append_nil, List.cons_append, List.nil_append, List.set_cons_zero, List.set_cons_succ, Nat.reduceAdd, Nat.reduceSub, Nat.zero_add, reduceIte, Bool.false_eq_true, reduceCtorEq, if_true, if_false, Bool.not_true, Bool.not_false, exists_and_left]
    have g := hgo (.inl h1)
    simp only [dVar, dC, dOp, dUn, dNil, dCons, dTup, dLst, dCB, dTest, dAnd, dOr, dNot, dAndV, dOrV, dNotV, dIfE, dChain, sNext, sSeq, sBreak, sCont, sDrop, sRet, sRetN, sIf, gdName, gdNil, gdCons, gdTup, gdSub, sAsg, dCall, xOf, sFor, dSeq, dRng1, dRng2, dI, dI0, dB0, dAdd, dIsN, dNotN, isNon, dIx, dSetL, dNeg, one, two, dLen1, dListOf1, dTupOf1, dAbs1, dIntOf1, dII, marg, dAppend1, dExtend1, dIsi, isA, dSl, dPart, dNoPart, dCut, dLc, dYes, sRaise, sTry, exBy, sPar2, sPar3, dIsBl, dNotBl, dBM, dBM0, dEq, dNe, dIn, dSgn, dLc2, dEnum, dListRg1, dListRg2, dTupRg1, dTupRg2, dStrOf1, dRep, dLenSet, dstart, fnE_nx, fnE_rt, fnE_ex, Nat.zero_le, Nat.reduceLeDiff, decide_true, decide_false, true_or, or_true, false_or, or_false, decide_eq_true_eq, exists_eq_left', exists_eq_left, exists_eq_right, exists_eq_right', Option.some.injEq, List.cons.injEq, D.int.injEq, D.bl.injEq, D.str.injEq, D.tup.injEq, D.lro.injEq, D.ref.injEq, DO.lst.injEq, and_true, true_and, and_false, false_and, exists_false, exists_const, List.getElem?_cons_zero, List.getElem?_cons_succ, List.map_cons, List.map_nil, List.length_cons, List.length_nil, List.replicate_zero, List.replicate_succ, List.append_nil, List.cons_append, List.nil_append, List.set_cons_zero, List.set_cons_succ, Nat.reduceAdd, Nat.reduceSub, Nat.zero_add, reduceIte, Bool.false_eq_true, reduceCtorEq, if_true, if_false, Bool.not_true, Bool.not_false, exists_and_left] at g
    exact g
  · simp only [h1, dVar, dC, dOp, dUn, dNil, dCons, dTup, dLst, dCB, dTest, dAnd, dOr, dNot, dAndV, dOrV, dNotV, dIfE, dChain, sNext, sSeq, sBreak, sCont, sDrop, sRet, sRetN, sIf, gdName, gdNil, gdCons, gdTup, gdSub, sAsg, dCall, xOf, sFor, dSeq, dRng1, dRng2, dI, dI0, dB0, dAdd, dIsN, dNotN, isNon, dIx, dSetL, dNeg, one, two, dLen1, dListOf1, dTupOf1, dAbs1, dIntOf1, dII, marg, dAppend1, dExtend1, dIsi, isA, dSl, dPart, dNoPart, dCut, dLc, dYes, sRaise, sTry, exBy, sPar2, sPar3, dIsBl, dNotBl, dBM, dBM0, dEq, dNe, dIn, dSgn, dLc2, dEnum, dListRg1, dListRg2, dTupRg1, dTupRg2, dStrOf1, dRep, dLenSet, dstart, fnE_nx, fnE_rt, fnE_ex, Nat.zero_le, Nat.reduceLeDiff, decide_true, decide_false, true_or, or_true, false_or, or_false, decide_eq_true_eq, exists_eq_left', exists_eq_left, exists_eq_right, exists_eq_right', Option.some.injEq, List.cons.injEq, D.int.injEq, D.bl.injEq, D.str.injEq, D.tup.injEq, D.lro.injEq, D.ref.injEq, DO.lst.injEq, and_true, true_and, and_false, false_and, exists_false, exists_const, List.getElem?_cons_zero, List.getElem?_cons_succ, List.map_cons, List.map_nil, List.length_cons, List.length_nil, List.replicate_zero, List.replicate_succ, List.append_nil, List.cons_append, List.nil_append, List.set_cons_zero, List.set_cons_succ, Nat.reduceAdd, Nat.reduceSub, Nat.zero_add, reduceIte, Bool.false_eq_true, reduceCtorEq, if_true, if_false, Bool.not_true, Bool.not_false, exists_and_left]
    cases h2 : wordS z with
    | true =>
      simp only [dVar, dC, dOp, dUn, dNil, dCons, dTup, dLst, dCB, dTest, dAnd, dOr, dNot, dAndV, dOrV, dNotV, dIfE, dChain, sNext, sSeq, sBreak, sCont, sDrop, sRet, sRetN, sIf, gdName, gdNil, gdCons, gdTup, gdSub, sAsg, dCall, xOf, sFor, dSeq, dRng1, dRng2, dI, dI0, dB0, dAdd, dIsN, dNotN, isNon, dIx, dSetL, dNeg, one, two, dLen1, dListOf1, dTupOf1, dAbs1, dIntOf1, dII, marg, dAppend1, dExtend1, dIsi, isA, dSl, dPart, dNoPart, dCut, dLc, dYes, sRaise, sTry, exBy, sPar2, sPar3, dIsBl, dNotBl, dBM, dBM0, dEq, dNe, dIn, dSgn, dLc2, dEnum, dListRg1, dListRg2, dTupRg1, dTupRg2, dStrOf1, dRep, dLenSet, dstart, fnE_nx, fnE_rt, fnE_ex, Nat.zero_le, Nat.reduceLeDiff, decide_true, decide_false, true_or, or_true, false_or, or_false, decide_eq_true_eq, exists_eq_left', exists_eq_left, exists_eq_right, exists_eq_right', Option.some.injEq, List.cons.injEq, D.int.injEq, D.bl.injEq, D.str.injEq, D.tup.injEq, D.lro.injEq, D.ref.injEq, DO.lst.injEq, and_true, true_and, and_false, false_and, exists_false, exists_const, List.getElem?_cons_zero, List.getElem?_cons_succ, List.map_cons, List.map_nil, List.length_cons, List.length_nil, List.replicate_zero, List.replicate_succ, List.append_nil, List.cons_append, List.nil_append, List.set_cons_zero, List.set_cons_succ, Nat.reduceAdd, Nat.reduceSub, Nat.zero_add, reduceIte, Bool.false_eq_true, reduceCtorEq, if_true, if_false, Bool.not_true, Bool.not_false, exists_and_left]
      have g := hgo (.inr h2)
      simp only [dVar, dC, dOp, dUn, dNil, dCons, dTup, dLst, dCB, dTest, dAnd, dOr, dNot, dAndV, dOrV, dNotV, dIfE, dChain, sNext, sSeq, sBreak, sCont, sDrop, sRet, sRetN, sIf, gdName, gdNil, gdCons, gdTup, gdSub, sAsg, dCall, xOf, sFor, dSeq, dRng1, dRng2, dI, dI0, dB0, dAdd, dIsN, dNotN, isNon, dIx, dSetL, dNeg, one, two, dLen1, dListOf1, dTupOf1, dAbs1, dIntOf1, dII, marg, dAppend1, dExtend1, dIsi, isA, dSl, dPart, dNoPart, dCut, dLc, dYes, sRaise, sTry, exBy, sPar2, sPar3, dIsBl, dNotBl, dBM, dBM0, dEq, dNe, dIn, dSgn, dLc2, dEnum, dListRg1, dListRg2, dTupRg1, dTupRg2, dStrOf1, dRep, dLenSet, dstart, fnE_nx, fnE_rt, fnE_ex, Nat.zero_le, Nat.reduceLeDiff, decide_true, decide_false, true_or, or_true, false_or, or_false, decide_eq_true_eq, exists_eq_left', exists_eq_left, exists_eq_right, exists_eq_right', Option.some.injEq, List.cons.injEq, D.int.injEq, D.bl.injEq, D.str.injEq, D.tup.injEq, D.lro.injEq, D.ref.injEq, DO.lst.injEq, and_true, true_and, and_false, false_and, exists_false, exists_const, List.getElem?_cons_zero, List.getElem?_cons_succ, List.map_cons, List.map_nil, List.length_cons, List.length_nil, List.replicate_zero, List.replicate_succ, List.append_nil, List.cons_append, List.nil_append, List.set_cons_zero, List.set_cons_succ, Nat.reduceAdd, Nat.reduceSub, Nat.zero_add, reduceIte, Bool.false_eq_true, reduceCtorEq, if_true, if_false, Bool.not_true, Bool.not_false, exists_and_left] at g
      exact g
    | false =>
      simp only [dVar, dC, dOp, dUn, dNil, dCons, dTup, dLst, dCB, dTest, dAnd, dOr, dNot, dAndV, dOrV, dNotV, dIfE, dChain, sNext, sSeq, sBreak, sCont, sDrop, sRet, sRetN, sIf, gdName, gdNil, gdCons, gdTup, gdSub, sAsg, dCall, xOf, sFor, dSeq, dRng1, dRng2, dI, dI0, dB0, dAdd, dIsN, dNotN, isNon, dIx, dSetL, dNeg, one, two, dLen1, dListOf1, dTupOf1, dAbs1, dIntOf1, dII, marg, dAppend1, dExtend1, dIsi, isA, dSl, dPart, dNoPart, dCut, dLc, dYes, sRaise, sTry, exBy, sPar2, sPar3, dIsBl, dNotBl, dBM, dBM0, dEq, dNe, dIn, dSgn, dLc2, dEnum, dListRg1, dListRg2, dTupRg1, dTupRg2, dStrOf1, dRep, dLenSet, dstart, fnE_nx, fnE_rt, fnE_ex, Nat.zero_le, Nat.reduceLeDiff, decide_true, decide_false, true_or, or_true, false_or, or_false, decide_eq_true_eq, exists_eq_left', exists_eq_left, exists_eq_right, exists_eq_right', Option.some.injEq, List.cons.injEq, D.int.injEq, D.bl.injEq, D.str.injEq, D.tup.injEq, D.lro.injEq, D.ref.injEq, DO.lst.injEq, and_true, true_and, and_false, false_and, exists_false, exists_const, List.getElem?_cons_zero, List.getElem?_cons_succ, List.map_cons, List.map_nil, List.length_cons, List.length_nil, List.replicate_zero, List.replicate_succ, List.append_nil, List.cons_append, List.nil_append, List.set_cons_zero, List.set_cons_succ, Nat.reduceAdd, Nat.reduceSub, Nat.zero_add, reduceIte, Bool.false_eq_true, reduceCtorEq, if_true, if_false, Bool.not_true, Bool.not_false, exists_and_left]
      exact hend _ _ _ Le.refl (Wd.low ⟨hw.hd, hw.all, by have := hw.len; omega⟩ h2) h1
theorem pure_law_name : ∀ as L Q E, sp_law_name as L Q E → d__law_name (fnEnds Q E) (dstart 5 as) L := by
  rintro as L Q E ⟨a, b, u, n, zs, rfl, hb, hn, ua, ub, hu, hz, q⟩
  simp only [d__law_name, dVar, dC, dOp, dUn, dNil, dCons, dTup, dLst, dCB, dTest, dAnd, dOr, dNot, dAndV, dOrV, dNotV, dIfE, dChain, sNext, sSeq, sBreak, sCont, sDrop, sRet, sRetN, sIf, gdName, gdNil, gdCons, gdTup, gdSub, sAsg, dCall, xOf, sFor, dSeq, dRng1, dRng2, dI, dI0, dB0, dAdd, dIsN, dNotN, isNon, dIx, dSetL, dNeg, one, two, dLen1, dListOf1, dTupOf1, dAbs1, dIntOf1, dII, marg, dAppend1, dExtend1, dIsi, isA, dSl, dPart, dNoPart, dCut, dLc, dYes, sRaise, sTry, exBy, sPar2, sPar3, dIsBl, dNotBl, dBM, dBM0, dEq, dNe, dIn, dSgn, dLc2, dEnum, dListRg1, dListRg2, dTupRg1, dTupRg2, dStrOf1, dRep, dLenSet, dstart, fnE_nx, fnE_rt, fnE_ex, Nat.zero_le, Nat.reduceLeDiff, decide_true, decide_false, true_or, or_true, false_or, or_false, decide_eq_true_eq, exists_eq_left', exists_eq_left, exists_eq_right, exists_eq_right', Option.some.injEq, List.cons.injEq, D.int.injEq, D.bl.injEq, D.str.injEq, D.tup.injEq, D.lro.injEq, D.ref.injEq, DO.lst.injEq, and_true, true_and, and_false, false_and, exists_false, exists_const, List.getElem?_cons_zero, List.getElem?_cons_succ, List.map_cons, List.map_nil, List.length_cons, List.length_nil, List.replicate_zero, List.replicate_succ, List.append_nil, List.cons_append, List.nil_append, List.set_cons_zero, List.set_cons_succ, Nat.reduceAdd, Nat.reduceSub, Nat.zero_add, reduceIte, Bool.false_eq_true, reduceCtorEq, if_true, if_false, Bool.not_true, Bool.not_false, exists_and_left]
  simp only [d__law_name_t1, dVar, dC, dOp, dUn, dNil, dCons, dTup, dLst, dCB, dTest, dAnd, dOr, dNot, dAndV, dOrV, dNotV, dIfE, dChain, sNext, sSeq, sBreak, sCont, sDrop, sRet, sRetN, sIf, gdName, gdNil, gdCons, gdTup, gdSub, sAsg, dCall, xOf, sFor, dSeq, dRng1, dRng2, dI, dI0, dB0, dAdd, dIsN, dNotN, isNon, dIx, dSetL, dNeg, one, two, dLen1, dListOf1, dTupOf1, dAbs1, dIntOf1, dII, marg, dAppend1, dExtend1, dIsi, isA, dSl, dPart, dNoPart, dCut, dLc, dYes, sRaise, sTry, exBy, sPar2, sPar3, dIsBl, dNotBl, dBM, dBM0, dEq, dNe, dIn, dSgn, dLc2, dEnum, dListRg1, dListRg2, dTupRg1, dTupRg2, dStrOf1, dRep, dLenSet, dstart, fnE_nx, fnE_rt, fnE_ex, Nat.zero_le, Nat.reduceLeDiff, decide_true, decide_false, true_or, or_true, false_or, or_false, decide_eq_true_eq, exists_eq_left', exists_eq_left, exists_eq_right, exists_eq_right', Option.some.injEq, List.cons.injEq, D.int.injEq, D.bl.injEq, D.str.injEq, D.tup.injEq, D.lro.injEq, D.ref.injEq, DO.lst.injEq, and_true, true_and, and_false, false_and, exists_false, exists_const, List.getElem?_cons_zero, List.getElem?_cons_succ, List.map_cons, List.map_nil, List.length_cons, List.length_nil, List.replicate_zero, List.replicate_succ, List.append_nil, List.cons_append, List.nil_append, List.set_cons_zero, List.set_cons_succ, Nat.reduceAdd, Nat.reduceSub, Nat.zero_add, reduceIte, Bool.false_eq_true, reduceCtorEq, if_true, if_false, Bool.not_true, Bool.not_false, exists_and_left]
  refine ⟨a, b, 26, n, rfl, hb, by omega, by decide, by decide, fun r o r0 r1 hb1 => ?_⟩
  obtain ⟨c, hc, _, hcm⟩ := atI_in (xs := ("abcdefghijklmnopqrstuvwxyz" : Str).cps.toList) r0 (by rw [small_len]; omega)
  refine ⟨by decide +kernel, c, hc, ?_⟩
  have hc0 : smallC c = true := decide_eq_true hcm
  have hw0 : Wd 1 ⟨#[c]⟩ := ⟨by show ([c] : List Nat).head?.any smallC = true; simpa using hc0, by show ([c] : List Nat).all goodC = true; simp [goodC, hc0], Nat.le_refl 1⟩
  simp only [d__law_name_t2, dVar, dC, dOp, dUn, dNil, dCons, dTup, dLst, dCB, dTest, dAnd, dOr, dNot, dAndV, dOrV, dNotV, dIfE, dChain, sNext, sSeq, sBreak, sCont, sDrop, sRet, sRetN, sIf, gdName, gdNil, gdCons, gdTup, gdSub, sAsg, dCall, xOf, sFor, dSeq, dRng1, dRng2, dI, dI0, dB0, dAdd, dIsN, dNotN, isNon, dIx, dSetL, dNeg, one, two, dLen1, dListOf1, dTupOf1, dAbs1, dIntOf1, dII, marg, dAppend1, dExtend1, dIsi, isA, dSl, dPart, dNoPart, dCut, dLc, dYes, sRaise, sTry, exBy, sPar2, sPar3, dIsBl, dNotBl, dBM, dBM0, dEq, dNe, dIn, dSgn, dLc2, dEnum, dListRg1, dListRg2, dTupRg1, dTupRg2, dStrOf1, dRep, dLenSet, dstart, fnE_nx, fnE_rt, fnE_ex, Nat.zero_le, Nat.reduceLeDiff, decide_true, decide_false, true_or, or_true, false_or, or_false, decide_eq_true_eq, exists_eq_left', exists_eq_left, exists_eq_right, exists_eq_right', Option.some.injEq, List.cons.injEq, D.int.injEq, D.bl.injEq, D.str.injEq, D.tup.injEq, D.lro.injEq, D.ref.injEq, DO.lst.injEq, and_true, true_and, and_false, false_and, exists_false, exists_const, List.getElem?_cons_zero, List.getElem?_cons_succ, List.map_cons, List.map_nil, List.length_cons, List.length_nil, List.replicate_zero, List.replicate_succ, List.append_nil, List.cons_append, List.nil_append, List.set_cons_zero, List.set_cons_succ, Nat.reduceAdd, Nat.reduceSub, Nat.zero_add, reduceIte, Bool.false_eq_true, reduceCtorEq, if_true, if_false, Bool.not_true, Bool.not_false, exists_and_left]
  refine ⟨a, b, 6, n + 1, rfl, hb1, by omega, by decide, by decide, fun r o2 r0 r1 hb2 => ?_⟩
  rw [updD_upd] at hb2 ⊢
  refine ⟨r, rfl, ⟨by omega, by omega⟩, ?_⟩
  have hlen : (rngD 0 r.toNat).length ≤ 5 := by rw [rngD_length]; omega
  refine forD_ix (fun i s L' => (∃ o, L' = upd L a o ∧ BagAt (n + 2 + i) (upd L a o) a b) ∧ ∃ z o4, Wd (1 + i) z ∧ s = [some (.ref a), some (.ref u), some (.str "abcdefghijklmnopqrstuvwxyz"), some (.str z), o4]) _ ?_ ?_ _ _ ⟨⟨o2, rfl, hb2⟩, _, _, hw0, rfl⟩
  · rintro i d hd s L' P hP ⟨⟨o, rfl, hbi⟩, z, o4, hz, rfl⟩
    have hi : i < 5 := by have := (List.getElem?_eq_some_iff.mp hd).1; omega
    refine ⟨trivial, ?_⟩
    simp only [d__law_name_b2, dVar, dC, dOp, dUn, dNil, dCons, dTup, dLst, dCB, dTest, dAnd, dOr, dNot, dAndV, dOrV, dNotV, dIfE, dChain, sNext, sSeq, sBreak, sCont, sDrop, sRet, sRetN, sIf, gdName, gdNil, gdCons, gdTup, gdSub, sAsg, dCall, xOf, sFor, dSeq, dRng1, dRng2, dI, dI0, dB0, dAdd, dIsN, dNotN, isNon, dIx, dSetL, dNeg, one, two, dLen1, dListOf1, dTupOf1, dAbs1, dIntOf1, dII, marg, dAppend1, dExtend1, dIsi, isA, dSl, dPart, dNoPart, dCut, dLc, dYes, sRaise, sTry, exBy, sPar2, sPar3, dIsBl, dNotBl, dBM, dBM0, dEq, dNe, dIn, dSgn, dLc2, dEnum, dListRg1, dListRg2, dTupRg1, dTupRg2, dStrOf1, dRep, dLenSet, dstart, fnE_nx, fnE_rt, fnE_ex, Nat.zero_le, Nat.reduceLeDiff, decide_true, decide_false, true_or, or_true, false_or, or_false, decide_eq_true_eq, exists_eq_left', exists_eq_left, exists_eq_right, exists_eq_right', Option.some.injEq, List.cons.injEq, D.int.injEq, D.bl.injEq, D.str.injEq, D.tup.injEq, D.lro.injEq, D.ref.injEq, DO.lst.injEq, and_true, true_and, and_false, false_and, exists_false, exists_const, List.getElem?_cons_zero, List.getElem?_cons_succ, List.map_cons, List.map_nil, List.length_cons, List.length_nil, List.replicate_zero, List.replicate_succ, List.append_nil, List.cons_append, List.nil_append, List.set_cons_zero, List.set_cons_succ, Nat.reduceAdd, Nat.reduceSub, Nat.zero_add, reduceIte, Bool.false_eq_true, reduceCtorEq, if_true, if_false, Bool.not_true, Bool.not_false, exists_and_left]
    refine ⟨by decide +kernel, a, b, 36, _, rfl, hbi, by omega, by decide, by decide, fun r o3 r0 r1 hb3 => ?_⟩
    rw [updD_upd] at hb3 ⊢
    obtain ⟨c, hc, _, hcm⟩ := atI_in (xs := (("abcdefghijklmnopqrstuvwxyz" : Str) ++ ("0123456789" : Str)).cps.toList) r0 (by rw [both_len]; omega)
    refine ⟨by decide +kernel, c, hc, ?_⟩
    have hzl := hz.len
    have hg := tab_sd c hcm
    refine ⟨by have : (⟨#[c]⟩ : Str).length = 1 := rfl
               omega, hP _ _ ⟨⟨o3, rfl, hb3⟩, _, _, hz.app (j := 1) (y := ⟨#[c]⟩) (by show ([c] : List Nat).all goodC = true; simp [hg]) (Nat.le_refl 1), rfl⟩⟩
  · rintro s L' ⟨⟨o, rfl, hbi⟩, z, o4, hzw, rfl⟩
    refine ⟨trivial, name_t3 (n := n + 7) (by omega) ua ub hz (z := z) ⟨hzw.hd, hzw.all, by have := hzw.len; omega⟩ (by rw [updD_ne ua]; exact hu) (hbi.mono (by omega)) (fun z h1 h2 h3 => q z _ h1 h2 h3) _ _⟩
/-! nexts -/
def sp_law_nexts : SpD := fun ds L Q _ => ∃ (a b : Addr) (n : Nat) (low many : Int), ds = [.ref a, .int low, .int many] ∧ BagAt n L a b ∧ n ≤ 900000000 ∧ 1 ≤ many ∧ many ≤ 100000 ∧ -100000000 ≤ low ∧ low ≤ 100000000 ∧
  ∀ (xs : List Int) o, xs.Nodup → 1 ≤ xs.length → xs.length ≤ 3 → (∀ x, x ∈ xs → low ≤ x ∧ x < low + many) → BagAt (n + 4) (upd L a o) a b → Q (.tup (xs.map .int)) (upd L a o)
theorem len_law_nexts : ∀ as L Q E, sp_law_nexts as L Q E → as.length = 3 := by rintro _ L Q E ⟨a, b, n, l, m, rfl, _⟩; rfl
def d__law_nexts_b2 : DS :=
  (sDrop (dBM chkL (marg dAppend1) (dVar 4) (dCons (dBM chkL (marg dPopAt1) (dVar 3) (dCons (dCall sp_law_pick (dCons (dVar 0) (dCons (dCB dLen (dCons (dVar 3) dNil)) dNil))) dNil)) dNil)))
def d__law_nexts_t3 : DS :=
  (sRet (dCB dTupOf (dCons (dVar 4) dNil)))
def d__law_nexts_t2 : DS :=
  (sSeq (sFor (dRng1 (dCons (dOp dAdd (dC (.int 1)) (dCall sp_law_pick (dCons (dVar 0) (dCons (dCB dMin2 (dCons (dC (.int 3)) (dCons (dVar 2) dNil))) dNil)))) dNil)) (gdName 5)
  d__law_nexts_b2) d__law_nexts_t3)
def d__law_nexts_t1 : DS :=
  (sSeq (sAsg (dLst dNil) (gdName 4)) d__law_nexts_t2)
def d__law_nexts : DS :=
  (sSeq (sAsg (dListRg2 (dVar 1) (dOp dAdd (dVar 1) (dVar 2))) (gdName 3)) d__law_nexts_t1)

theorem big_m {m : Int} (h : m ≤ 1000000000) : m ≤ 10 ^ 60 := by
  have : (1000000000 : Int) ≤ 10 ^ 60 := by decide
  omega
theorem erase_perm {α : Type} : ∀ (l : List α) (k : Nat) (h : k < l.length), (l[k] :: l.eraseIdx k).Perm l
  | x :: l, 0, _ => .refl _
  | x :: l, k + 1, h => by
    have ih := erase_perm l k (by simpa using h)
    exact (List.Perm.swap _ _ _).trans (ih.cons x)
theorem map_erase {α β : Type} (f : α → β) : ∀ (l : List α) (k : Nat), (l.map f).eraseIdx k = (l.eraseIdx k).map f
  | [], _ => rfl
  | x :: l, 0 => rfl
  | x :: l, k + 1 => by
    show f x :: (l.map f).eraseIdx k = f x :: (l.eraseIdx k).map f
    rw [map_erase f l k]
theorem pop_perm {α : Type} (ns xs : List α) (k : Nat) (h : k < ns.length) : (ns.eraseIdx k ++ (xs ++ [ns[k]])).Perm (ns ++ xs) := by
  have h1 := (erase_perm ns k h).append_right xs
  refine List.Perm.trans ?_ h1
  rw [← List.append_assoc]
  exact List.perm_append_comm
theorem seqIx {r : Int} {n : Nat} (h0 : 0 ≤ r) (h1 : r < n) : seqIndex? r n = some r.toNat := by
  unfold seqIndex?
  rw [if_neg (by omega : ¬ r < 0)]
  simp [h0, h1]
theorem pure_law_nexts : ∀ as L Q E, sp_law_nexts as L Q E → d__law_nexts (fnEnds Q E) (dstart 6 as) L := by
  rintro as L Q E ⟨a, b, n, low, many, rfl, hb, hn, m1, m2, l1, l2, q⟩
  simp only [d__law_nexts, dVar, dC, dOp, dUn, dNil, dCons, dTup, dLst, dCB, dTest, dAnd, dOr, dNot, dAndV, dOrV, dNotV, dIfE, dChain, sNext, sSeq, sBreak, sCont, sDrop, sRet, sRetN, sIf, gdName, gdNil, gdCons, gdTup, gdSub, sAsg, dCall, xOf, sFor, dSeq, dRng1, dRng2, dI, dI0, dB0, dAdd, dIsN, dNotN, isNon, dIx, dSetL, dNeg, one, two, dLen1, dListOf1, dTupOf1, dAbs1, dIntOf1, dII, marg, dAppend1, dExtend1, dIsi, isA, dSl, dPart, dNoPart, dCut, dLc, dYes, sRaise, sTry, exBy, sPar2, sPar3, dIsBl, dNotBl, dBM, dBM0, dEq, dNe, dIn, dSgn, dLc2, dEnum, dListRg1, dListRg2, dTupRg1, dTupRg2, dStrOf1, dRep, dLenSet, dstart, fnE_nx, fnE_rt, fnE_ex, Nat.zero_le, Nat.reduceLeDiff, decide_true, decide_false, true_or, or_true, false_or, or_false, decide_eq_true_eq, exists_eq_left', exists_eq_left, exists_eq_right, exists_eq_right', Option.some.injEq, List.cons.injEq, D.int.injEq, D.bl.injEq, D.str.injEq, D.tup.injEq, D.lro.injEq, D.ref.injEq, DO.lst.injEq, and_true, true_and, and_false, false_and, exists_false, exists_const, List.getElem?_cons_zero, List.getElem?_cons_succ, List.map_cons, List.map_nil, List.length_cons, List.length_nil, List.replicate_zero, List.replicate_succ, List.append_nil, List.cons_append, List.nil_append, List.set_cons_zero, List.set_cons_succ, Nat.reduceAdd, Nat.reduceSub, Nat.zero_add, reduceIte, Bool.false_eq_true, reduceCtorEq, if_true, if_false, Bool.not_true, Bool.not_false, exists_and_left]
  refine ⟨⟨by omega, by omega, by omega, by omega, by omega⟩, fun p hp => ?_⟩
  simp only [d__law_nexts_t1, dVar, dC, dOp, dUn, dNil, dCons, dTup, dLst, dCB, dTest, dAnd, dOr, dNot, dAndV, dOrV, dNotV, dIfE, dChain, sNext, sSeq, sBreak, sCont, sDrop, sRet, sRetN, sIf, gdName, gdNil, gdCons, gdTup, gdSub, sAsg, dCall, xOf, sFor, dSeq, dRng1, dRng2, dI, dI0, dB0, dAdd, dIsN, dNotN, isNon, dIx, dSetL, dNeg, one, two, dLen1, dListOf1, dTupOf1, dAbs1, dIntOf1, dII, marg, dAppend1, dExtend1, dIsi, isA, dSl, dPart, dNoPart, dCut, dLc, dYes, sRaise, sTry, exBy, sPar2, sPar3, dIsBl, dNotBl, dBM, dBM0, dEq, dNe, dIn, dSgn, dLc2, dEnum, dListRg1, dListRg2, dTupRg1, dTupRg2, dStrOf1, dRep, dLenSet, dstart, fnE_nx, fnE_rt, fnE_ex, Nat.zero_le, Nat.reduceLeDiff, decide_true, decide_false, true_or, or_true, false_or, or_false, decide_eq_true_eq, exists_eq_left', exists_eq_left, exists_eq_right, exists_eq_right', Option.some.injEq, List.cons.injEq, D.int.injEq, D.bl.injEq, D.str.injEq, D.tup.injEq, D.lro.injEq, D.ref.injEq, DO.lst.injEq, and_true, true_and, and_false, false_and, exists_false, exists_const, List.getElem?_cons_zero, List.getElem?_cons_succ, List.map_cons, List.map_nil, List.length_cons, List.length_nil, List.replicate_zero, List.replicate_succ, List.append_nil, List.cons_append, List.nil_append, List.set_cons_zero, List.set_cons_succ, Nat.reduceAdd, Nat.reduceSub, Nat.zero_add, reduceIte, Bool.false_eq_true, reduceCtorEq, if_true, if_false, Bool.not_true, Bool.not_false, exists_and_left]
  intro f hf
  obtain ⟨pa, pb, hb1⟩ := hb.new (o := .lst (rngD low (low + many - low).toNat)) hp
  obtain ⟨fa, fb, hb2⟩ := hb1.new (o := .lst []) hf
  have hpf : p ≠ f := fresh_ne updD_same hf
  have hf0 : L f = none := by rw [updD_ne hpf.symm] at hf; exact hf
  simp only [d__law_nexts_t2, dVar, dC, dOp, dUn, dNil, dCons, dTup, dLst, dCB, dTest, dAnd, dOr, dNot, dAndV, dOrV, dNotV, dIfE, dChain, sNext, sSeq, sBreak, sCont, sDrop, sRet, sRetN, sIf, gdName, gdNil, gdCons, gdTup, gdSub, sAsg, dCall, xOf, sFor, dSeq, dRng1, dRng2, dI, dI0, dB0, dAdd, dIsN, dNotN, isNon, dIx, dSetL, dNeg, one, two, dLen1, dListOf1, dTupOf1, dAbs1, dIntOf1, dII, marg, dAppend1, dExtend1, dIsi, isA, dSl, dPart, dNoPart, dCut, dLc, dYes, sRaise, sTry, exBy, sPar2, sPar3, dIsBl, dNotBl, dBM, dBM0, dEq, dNe, dIn, dSgn, dLc2, dEnum, dListRg1, dListRg2, dTupRg1, dTupRg2, dStrOf1, dRep, dLenSet, dstart, fnE_nx, fnE_rt, fnE_ex, Nat.zero_le, Nat.reduceLeDiff, decide_true, decide_false, true_or, or_true, false_or, or_false, decide_eq_true_eq, exists_eq_left', exists_eq_left, exists_eq_right, exists_eq_right', Option.some.injEq, List.cons.injEq, D.int.injEq, D.bl.injEq, D.str.injEq, D.tup.injEq, D.lro.injEq, D.ref.injEq, DO.lst.injEq, and_true, true_and, and_false, false_and, exists_false, exists_const, List.getElem?_cons_zero, List.getElem?_cons_succ, List.map_cons, List.map_nil, List.length_cons, List.length_nil, List.replicate_zero, List.replicate_succ, List.append_nil, List.cons_append, List.nil_append, List.set_cons_zero, List.set_cons_succ, Nat.reduceAdd, Nat.reduceSub, Nat.zero_add, reduceIte, Bool.false_eq_true, reduceCtorEq, if_true, if_false, Bool.not_true, Bool.not_false, exists_and_left]
  have h3 : (if many < 3 then many else 3) = min 3 many := by split <;> omega
  rw [h3]
  refine ⟨a, b, _, n, rfl, hb2, by omega, by omega, big_m (by omega), fun r o r0 r1 hb3 => ?_⟩
  refine ⟨⟨by omega, by omega⟩, ?_⟩
  have hlen : (rngD 0 (1 + r).toNat).length ≤ 3 ∧ 1 ≤ (rngD 0 (1 + r).toNat).length ∧ (rngD 0 (1 + r).toNat).length ≤ many := by rw [rngD_length]; omega
  have hst : upd (upd (upd L p (.lst (rngD low (low + many - low).toNat))) f (.lst [])) a o = upd (upd (upd L a o) p (.lst (((List.range many.toNat).map fun (i : Nat) => low + (i : Int)).map .int))) f (.lst []) := by
    funext c
    have e : low + many - low = many := by omega
    unfold upd rngD
    rw [e, List.map_map]
    by_cases h1 : c = a <;> by_cases h2 : c = f <;> by_cases h3 : c = p <;> simp_all <;> rfl
  have hb3' : BagAt (n + 1) (upd L a o) a b := by
    obtain ⟨x, y, z, h1, h2⟩ := hb3.row
    obtain ⟨cs, h4⟩ := hb.cells
    rw [updD_same] at h1
    exact ⟨hb.ne, ⟨cs, by rw [updD_ne hb.ne]; exact h4⟩, x, y, z, by rw [updD_same]; exact h1, h2⟩
  have hnd : ((List.range many.toNat).map fun (i : Nat) => low + (i : Int)).Nodup := by
    unfold List.Nodup
    rw [List.pairwise_map]
    exact List.nodup_range.imp fun h e => h (by omega)
  refine forD_ix (fun i s L' => ∃ (o : DO) (ns xs : List Int), L' = upd (upd (upd L a o) p (.lst (ns.map .int))) f (.lst (xs.map .int)) ∧ BagAt (n + 1 + i) (upd L a o) a b ∧ xs.length = i ∧ (ns.length : Int) + xs.length = many ∧ (ns ++ xs).Nodup ∧ (∀ x, x ∈ ns ++ xs → low ≤ x ∧ x < low + many) ∧
    ∃ o5, s = [some (.ref a), some (.int low), some (.int many), some (.ref p), some (.ref f), o5]) _ ?_ ?_ _ _ ⟨o, _, [], hst, hb3', rfl, by simp; omega, by simpa using hnd, ?_, _, rfl⟩
  · rintro i d hd s L' P hP ⟨o, ns, xs, rfl, hbi, hxl, hsum, hnd, hin, o5, rfl⟩
    have hi : i < (rngD 0 (1 + r).toNat).length := (List.getElem?_eq_some_iff.mp hd).1
    refine ⟨trivial, ?_⟩
    have g1 : upd (upd (upd L a o) p (.lst (ns.map .int))) f (.lst (xs.map .int)) p = some (.lst (ns.map .int)) := by rw [updD_ne hpf, updD_same]
    have g2 : upd (upd (upd L a o) p (.lst (ns.map .int))) f (.lst (xs.map .int)) f = some (.lst (xs.map .int)) := updD_same
    simp only [d__law_nexts_b2, dVar, dC, dOp, dUn, dNil, dCons, dTup, dLst, dCB, dTest, dAnd, dOr, dNot, dAndV, dOrV, dNotV, dIfE, dChain, sNext, sSeq, sBreak, sCont, sDrop, sRet, sRetN, sIf, gdName, gdNil, gdCons, gdTup, gdSub, sAsg, dCall, xOf, sFor, dSeq, dRng1, dRng2, dI, dI0, dB0, dAdd, dIsN, dNotN, isNon, dIx, dSetL, dNeg, one, two, dLen1, dListOf1, dTupOf1, dAbs1, dIntOf1, dII, marg, dAppend1, dExtend1, dIsi, isA, dSl, dPart, dNoPart, dCut, dLc, dYes, sRaise, sTry, exBy, sPar2, sPar3, dIsBl, dNotBl, dBM, dBM0, dEq, dNe, dIn, dSgn, dLc2, dEnum, dListRg1, dListRg2, dTupRg1, dTupRg2, dStrOf1, dRep, dLenSet, dstart, fnE_nx, fnE_rt, fnE_ex, Nat.zero_le, Nat.reduceLeDiff, decide_true, decide_false, true_or, or_true, false_or, or_false, decide_eq_true_eq, exists_eq_left', exists_eq_left, exists_eq_right, exists_eq_right', Option.some.injEq, List.cons.injEq, D.int.injEq, D.bl.injEq, D.str.injEq, D.tup.injEq, D.lro.injEq, D.ref.injEq, DO.lst.injEq, and_true, true_and, and_false, false_and, exists_false, exists_const, List.getElem?_cons_zero, List.getElem?_cons_succ, List.map_cons, List.map_nil, List.length_cons, List.length_nil, List.replicate_zero, List.replicate_succ, List.append_nil, List.cons_append, List.nil_append, List.set_cons_zero, List.set_cons_succ, Nat.reduceAdd, Nat.reduceSub, Nat.zero_add, reduceIte, Bool.false_eq_true, reduceCtorEq, if_true, if_false, Bool.not_true, Bool.not_false, exists_and_left, g1]
    refine ⟨⟨_, lstOf_ref g2⟩, ⟨_, lstOf_ref g1⟩, ?_⟩
    have hb4 : BagAt (n + 1 + i) (upd (upd (upd L a o) p (.lst (ns.map .int))) f (.lst (xs.map .int))) a b := (hbi.off pa pb).off fa fb
    refine ⟨a, b, _, _, rfl, hb4, by omega, by simp; omega, big_m (by simp; omega), fun r o2 r0 r1 hb5 => ?_⟩
    have r1 : r < ns.length := by simpa using r1
    have hk : r.toNat < ns.length := by omega
    have hst : upd (upd (upd (upd L a o) p (.lst (ns.map .int))) f (.lst (xs.map .int))) a o2 = upd (upd (upd L a o2) p (.lst (ns.map .int))) f (.lst (xs.map .int)) := by
      funext c
      unfold upd
      by_cases h1 : c = a <;> by_cases h2 : c = f <;> by_cases h3 : c = p <;> simp_all
    rw [hst] at hb5 ⊢
    have hb6 : BagAt (n + 1 + (i + 1)) (upd L a o2) a b := by
      obtain ⟨x, y, z, h1, h2⟩ := hb5.row
      obtain ⟨cs, h4⟩ := hb.cells
      rw [updD_ne fa.symm, updD_ne pa.symm, updD_same] at h1
      exact ⟨hb.ne, ⟨cs, by rw [updD_ne hb.ne]; exact h4⟩, x, y, z, by rw [updD_same]; exact h1, h2⟩
    refine ⟨ns.map .int, r.toNat, .int ns[r.toNat], by rw [updD_ne hpf, updD_same], by omega, by omega, seqIx r0 (by simpa using r1), by rw [List.getElem?_map, List.getElem?_eq_getElem hk]; rfl, ?_⟩
    rw [map_erase]
    refine ⟨xs.map .int, by rw [updD_ne hpf.symm, updD_same], by simp; omega, hP _ _ ⟨o2, ns.eraseIdx r.toNat, xs ++ [ns[r.toNat]], ?_, hb6, by simp; omega, ?_, ?_, ?_, _, rfl⟩⟩
    · funext c
      unfold upd
      by_cases h2 : c = f <;> by_cases h3 : c = p <;> simp_all
    · rw [List.length_eraseIdx, if_pos hk, List.length_append]
      simp
      omega
    · exact (pop_perm ns xs _ hk).nodup_iff.mpr hnd
    · intro x hx
      exact hin x ((pop_perm ns xs _ hk).mem_iff.mp hx)
  · rintro s L' ⟨o, ns, xs, rfl, hbi, hxl, hsum, hnd, hin, o5, rfl⟩
    refine ⟨trivial, ?_⟩
    simp only [d__law_nexts_t3, dVar, dC, dOp, dUn, dNil, dCons, dTup, dLst, dCB, dTest, dAnd, dOr, dNot, dAndV, dOrV, dNotV, dIfE, dChain, sNext, sSeq, sBreak, sCont, sDrop, sRet, sRetN, sIf, gdName, gdNil, gdCons, gdTup, gdSub, sAsg, dCall, xOf, sFor, dSeq, dRng1, dRng2, dI, dI0, dB0, dAdd, dIsN, dNotN, isNon, dIx, dSetL, dNeg, one, two, dLen1, dListOf1, dTupOf1, dAbs1, dIntOf1, dII, marg, dAppend1, dExtend1, dIsi, isA, dSl, dPart, dNoPart, dCut, dLc, dYes, sRaise, sTry, exBy, sPar2, sPar3, dIsBl, dNotBl, dBM, dBM0, dEq, dNe, dIn, dSgn, dLc2, dEnum, dListRg1, dListRg2, dTupRg1, dTupRg2, dStrOf1, dRep, dLenSet, dstart, fnE_nx, fnE_rt, fnE_ex, Nat.zero_le, Nat.reduceLeDiff, decide_true, decide_false, true_or, or_true, false_or, or_false, decide_eq_true_eq, exists_eq_left', exists_eq_left, exists_eq_right, exists_eq_right', Option.some.injEq, List.cons.injEq, D.int.injEq, D.bl.injEq, D.str.injEq, D.tup.injEq, D.lro.injEq, D.ref.injEq, DO.lst.injEq, and_true, true_and, and_false, false_and, exists_false, exists_const, List.getElem?_cons_zero, List.getElem?_cons_succ, List.map_cons, List.map_nil, List.length_cons, List.length_nil, List.replicate_zero, List.replicate_succ, List.append_nil, List.cons_append, List.nil_append, List.set_cons_zero, List.set_cons_succ, Nat.reduceAdd, Nat.reduceSub, Nat.zero_add, reduceIte, Bool.false_eq_true, reduceCtorEq, if_true, if_false, Bool.not_true, Bool.not_false, exists_and_left]
    refine ⟨_, updD_same, upd L a o, ?_, q xs o (List.nodup_append.mp hnd).2.1 (by omega) (by omega) (fun x hx => hin x (List.mem_append_right _ hx)) (hbi.mono (by omega))⟩
    exact (Le.upd (by rw [updD_ne pa]; exact hp)).trans (Le.upd (by rw [updD_ne hpf.symm, updD_ne fa]; exact hf0))
  · intro x hx
    simp only [List.append_nil] at hx
    obtain ⟨i, hi, rfl⟩ := List.mem_map.mp hx
    have := List.mem_range.mp hi
    omega
/-! what a place is -/
structure Hd where
  nm : Str
  ex : Int
  st : Int
  mn : Int
def hdD (h : Hd) : D := .tup [.str h.nm, .int h.ex, .int h.st, .int h.mn]
def HdsFrom : Int → List Hd → Int → Prop
  | f, [], t => t = f
  | f, h :: hs, t => h.st = f ∧ 1 ≤ h.mn ∧ h.mn ≤ 4000 ∧ 1 ≤ h.ex ∧ h.ex ≤ 24 ∧ HdsFrom (f + h.mn) hs t
def exL (hs : List Hd) : List Int := hs.flatMap fun h => List.replicate h.mn.toNat h.ex
theorem HdsFrom.le : ∀ {f : Int} {hs : List Hd} {t : Int}, HdsFrom f hs t → f ≤ t ∧ ((exL hs).length : Int) = t - f
  | f, [], t, h => by cases (show t = f from h); exact ⟨Int.le_refl _, by simp [exL]⟩
  | f, h :: hs, t, hh => by
    obtain ⟨h1, h2, h3, h4, h5, h6⟩ := hh
    obtain ⟨a, b⟩ := h6.le
    refine ⟨by omega, ?_⟩
    unfold exL at *
    rw [List.flatMap_cons, List.length_append, List.length_replicate]
    omega
theorem HdsFrom.mem : ∀ {f : Int} {hs : List Hd} {t : Int}, HdsFrom f hs t → ∀ h, h ∈ hs → f ≤ h.st ∧ h.st + h.mn ≤ t ∧ 1 ≤ h.mn ∧ h.mn ≤ 4000 ∧ 1 ≤ h.ex ∧ h.ex ≤ 24
  | f, h :: hs, t, hh, x, hx => by
    obtain ⟨h1, h2, h3, h4, h5, h6⟩ := hh
    rcases List.mem_cons.mp hx with rfl | hx
    · exact ⟨by omega, by have := h6.le.1; omega, h2, h3, h4, h5⟩
    · obtain ⟨a, b, c⟩ := h6.mem x hx
      exact ⟨by omega, b, c⟩
def atH (p : Int) (o : Hd) : Bool := decide (o.st ≤ p ∧ p < o.st + o.mn)
theorem HdsFrom.find : ∀ {f : Int} {hs : List Hd} {t : Int}, HdsFrom f hs t → ∀ p : Int, f ≤ p → p < t → ∃ h rest, hs.filter (atH p) = h :: rest ∧ h ∈ hs ∧ h.ex = (exL hs).getD (p - f).toNat 0
  | f, [], t, hh, p, p0, p1 => by cases (show t = f from hh); omega
  | f, h :: hs, t, hh, p, p0, p1 => by
    obtain ⟨h1, h2, h3, h4, h5, h6⟩ := hh
    by_cases hp : p < f + h.mn
    · refine ⟨h, hs.filter (atH p), ?_, List.mem_cons_self, ?_⟩
      · rw [List.filter_cons_of_pos]
        unfold atH; exact decide_eq_true (by omega)
      · unfold exL
        rw [List.flatMap_cons, List.getD_eq_getElem?_getD, List.getElem?_append_left (by simp; omega), List.getElem?_replicate, if_pos (by omega)]
        rfl
    · obtain ⟨h', rest, e1, e2, e3⟩ := h6.find p (by omega) p1
      refine ⟨h', rest, ?_, List.mem_cons_of_mem _ e2, ?_⟩
      · rw [List.filter_cons_of_neg]
        · exact e1
        · unfold atH; simp; omega
      · rw [e3]
        unfold exL
        rw [List.flatMap_cons, List.getD_eq_getElem?_getD, List.getD_eq_getElem?_getD, List.getElem?_append_right (by simp; omega), List.length_replicate]
        congr 2
        omega
abbrev Pl (n : Nat) (d : D) : Prop := Tame (fun _ => none) n d
theorem Pl.tm {n : Nat} {d : D} (h : Pl n d) (hn : n ≤ 30) (L : DH) : Tm L d := ⟨n, hn, h.le fun _ _ e => by cases e⟩
theorem pl_int {n : Nat} {i : Int} : Pl n (.int i) := by cases n <;> trivial
theorem pl_ints {n : Nat} {xs : List Int} (h : xs.length ≤ 16777216) : Pl (n + 1) (.tup (xs.map .int)) := ⟨by simpa using h, fun d hd => by
  obtain ⟨x, _, rfl⟩ := List.mem_map.mp hd
  exact pl_int⟩
theorem pl_str {n : Nat} {z : Str} (h : z.length ≤ 16777216) : Pl n (.str z) := by cases n <;> exact h
theorem pl_tup {n : Nat} {ds : List D} (h : ds.length ≤ 16777216) (h2 : ∀ d, d ∈ ds → Pl n d) : Pl (n + 1) (.tup ds) := ⟨h, h2⟩
theorem pl_3 {n : Nat} {a b c : D} (ha : Pl n a) (hb : Pl n b) (hc : Pl n c) : Pl (n + 1) (.tup [a, b, c]) := ⟨by simp, fun d hd => by
  simp only [List.mem_cons, List.not_mem_nil, or_false] at hd
  rcases hd with rfl | rfl | rfl
  · exact ha
  · exact hb
  · exact hc⟩
theorem pl_2 {n : Nat} {a b : D} (ha : Pl n a) (hb : Pl n b) : Pl (n + 1) (.tup [a, b]) := ⟨by simp, fun d hd => by
  simp only [List.mem_cons, List.not_mem_nil, or_false] at hd
  rcases hd with rfl | rfl
  · exact ha
  · exact hb⟩
def whatOk (exits : List Int) (i j ex : Int) (d : D) : Bool := isMove d i j || isCall d i j exits || isExit d ex
theorem wthn_of {x i j : Int} (h1 : i ≤ x) (h2 : x ≤ j) : wthn (.int x) i j = true := decide_eq_true ⟨h1, h2⟩
theorem all_wthn {xs : List Int} {i j : Int} (h : ∀ x, x ∈ xs → i ≤ x ∧ x ≤ j) : ((xs.map D.int).all fun x => wthn x i j) = true := by
  rw [List.all_map, List.all_eq_true]
  exact fun x hx => wthn_of (h x hx).1 (h x hx).2
theorem map_intV (xs : List Int) : (xs.map D.int).map intV = xs := by
  rw [List.map_map]; exact List.map_id xs
def sp_law_what : SpD := fun ds L Q _ => ∃ (a b h : Addr) (n : Nat) (hs : List Hd) (hd : Hd) (total : Int), ds = [.ref a, .ref h, hdD hd, .int total] ∧ BagAt n L a b ∧ n ≤ 800000000 ∧ h ≠ a ∧ h ≠ b ∧ L h = some (.lst (hs.map hdD)) ∧
  HdsFrom 0 hs total ∧ hd ∈ hs ∧ hs.length ≤ 60 ∧ total ≤ 240000 ∧
  ∀ d o, whatOk (exL hs) hd.st (hd.st + hd.mn) hd.ex d = true → Pl 2 d → BagAt (n + 40) (upd L a o) a b → Q d (upd L a o)
theorem len_law_what : ∀ as L Q E, sp_law_what as L Q E → as.length = 4 := by rintro _ L Q E ⟨a, b, h, n, hs, hd, t, rfl, _⟩; rfl
def d__law_what_t2a2 : DS :=
  (sRet (dTup (dCons (dC (.str "call")) (dCons (dVar 5) (dCons (dCB dTupOf (dCons (dLc (dRng1 (dCons (dVar 6) dNil)) (gdName 8) dYes (dOp dAdd (dOp dIx (dVar 2) (dC (.int 2))) (dCall sp_law_pick (dCons (dVar 0) (dCons (dOp dIx (dVar 2) (dC (.int 3))) dNil)))) [8]) dNil)) dNil)))))
def d__law_what_t2a1 : DS :=
  (sSeq (sAsg (dOp dIx (dLc (dSeq (dVar 1)) (gdName 7) (dTest (dChain dLe dLt (dOp dIx (dVar 7) (dC (.int 2))) (dVar 5) (dOp dAdd (dOp dIx (dVar 7) (dC (.int 2))) (dOp dIx (dVar 7) (dC (.int 3)))))) (dOp dIx (dVar 7) (dC (.int 1))) [7]) (dC (.int 0))) (gdName 6)) d__law_what_t2a2)
def d__law_what_t3 : DS :=
  (sRet (dTup (dCons (dC (.str "exit")) (dCons (dCall sp_law_pick (dCons (dVar 0) (dCons (dOp dIx (dVar 2) (dC (.int 1))) dNil))) dNil))))
def d__law_what_t2 : DS :=
  (sSeq (sIf (dTest (dOp dLt (dVar 4) (dC (.int 6)))) (sSeq (sAsg (dCall sp_law_pick (dCons (dVar 0) (dCons (dVar 3) dNil))) (gdName 5)) d__law_what_t2a1) sNext) d__law_what_t3)
def d__law_what_t1 : DS :=
  (sSeq (sIf (dTest (dOp dLt (dVar 4) (dC (.int 4)))) (sRet (dTup (dCons (dC (.str "move")) (dCons (dCall sp_law_pick (dCons (dVar 0) (dCons (dC (.int 2)) dNil))) (dCons (dCall sp_law_nexts (dCons (dVar 0) (dCons (dOp dIx (dVar 2) (dC (.int 2))) (dCons (dOp dIx (dVar 2) (dC (.int 3))) dNil)))) dNil))))) sNext) d__law_what_t2)
def d__law_what : DS :=
  (sSeq (sAsg (dCall sp_law_pick (dCons (dVar 0) (dCons (dC (.int 8)) dNil))) (gdName 4)) d__law_what_t1)

theorem pure_law_what : ∀ as L Q E, sp_law_what as L Q E → d__law_what (fnEnds Q E) (dstart 9 as) L := by
  rintro as L Q E ⟨a, b, h, n, hs, hd, total, rfl, hb, hn, ha, hhb, hh, hok, hmem, hlen, ht, q⟩
  obtain ⟨m1, m2, m3, m4, m5, m6⟩ := hok.mem hd hmem
  simp only [d__law_what, dVar, dC, dOp, dUn, dNil, dCons, dTup, dLst, dCB, dTest, dAnd, dOr, dNot, dAndV, dOrV, dNotV, dIfE, dChain, sNext, sSeq, sBreak, sCont, sDrop, sRet, sRetN, sIf, gdName, gdNil, gdCons, gdTup, gdSub, sAsg, dCall, xOf, sFor, dSeq, dRng1, dRng2, dI, dI0, dB0, dAdd, dIsN, dNotN, isNon, dIx, dSetL, dNeg, one, two, dLen1, dListOf1, dTupOf1, dAbs1, dIntOf1, dII, marg, dAppend1, dExtend1, dIsi, isA, dSl, dPart, dNoPart, dCut, dLc, dYes, sRaise, sTry, exBy, sPar2, sPar3, dIsBl, dNotBl, dBM, dBM0, dEq, dNe, dIn, dSgn, dLc2, dEnum, dListRg1, dListRg2, dTupRg1, dTupRg2, dStrOf1, dRep, dLenSet, dstart, fnE_nx, fnE_rt, fnE_ex, Nat.zero_le, Nat.reduceLeDiff, decide_true, decide_false, true_or, or_true, false_or, or_false, decide_eq_true_eq, exists_eq_left', exists_eq_left, exists_eq_right, exists_eq_right', Option.some.injEq, List.cons.injEq, D.int.injEq, D.bl.injEq, D.str.injEq, D.tup.injEq, D.lro.injEq, D.ref.injEq, DO.lst.injEq, and_true, true_and, and_false, false_and, exists_false, exists_const, List.getElem?_cons_zero, List.getElem?_cons_succ, List.map_cons, List.map_nil, List.length_cons, List.length_nil, List.replicate_zero, List.replicate_succ, List.append_nil, List.cons_append, List.nil_append, List.set_cons_zero, List.set_cons_succ, Nat.reduceAdd, Nat.reduceSub, Nat.zero_add, reduceIte, Bool.false_eq_true, reduceCtorEq, if_true, if_false, Bool.not_true, Bool.not_false, exists_and_left]
  refine ⟨a, b, 8, n, rfl, hb, by omega, by decide, by decide, fun r o r0 r1 hb1 => ?_⟩
  simp only [d__law_what_t1, d__law_what_t2, d__law_what_t3, dVar, dC, dOp, dUn, dNil, dCons, dTup, dLst, dCB, dTest, dAnd, dOr, dNot, dAndV, dOrV, dNotV, dIfE, dChain, sNext, sSeq, sBreak, sCont, sDrop, sRet, sRetN, sIf, gdName, gdNil, gdCons, gdTup, gdSub, sAsg, dCall, xOf, sFor, dSeq, dRng1, dRng2, dI, dI0, dB0, dAdd, dIsN, dNotN, isNon, dIx, dSetL, dNeg, one, two, dLen1, dListOf1, dTupOf1, dAbs1, dIntOf1, dII, marg, dAppend1, dExtend1, dIsi, isA, dSl, dPart, dNoPart, dCut, dLc, dYes, sRaise, sTry, exBy, sPar2, sPar3, dIsBl, dNotBl, dBM, dBM0, dEq, dNe, dIn, dSgn, dLc2, dEnum, dListRg1, dListRg2, dTupRg1, dTupRg2, dStrOf1, dRep, dLenSet, dstart, fnE_nx, fnE_rt, fnE_ex, Nat.zero_le, Nat.reduceLeDiff, decide_true, decide_false, true_or, or_true, false_or, or_false, decide_eq_true_eq, exists_eq_left', exists_eq_left, exists_eq_right, exists_eq_right', Option.some.injEq, List.cons.injEq, D.int.injEq, D.bl.injEq, D.str.injEq, D.tup.injEq, D.lro.injEq, D.ref.injEq, DO.lst.injEq, and_true, true_and, and_false, false_and, exists_false, exists_const, List.getElem?_cons_zero, List.getElem?_cons_succ, List.map_cons, List.map_nil, List.length_cons, List.length_nil, List.replicate_zero, List.replicate_succ, List.append_nil, List.cons_append, List.nil_append, List.set_cons_zero, List.set_cons_succ, Nat.reduceAdd, Nat.reduceSub, Nat.zero_add, reduceIte, Bool.false_eq_true, reduceCtorEq, if_true, if_false, Bool.not_true, Bool.not_false, exists_and_left, hdD, atI0, atI1, atI2, atI3]
  split
  · refine ⟨a, b, 2, _, rfl, hb1, by omega, by decide, by decide, fun r o r0 r1 hb2 => ?_⟩
    rw [updD_upd] at hb2 ⊢
    refine ⟨a, b, _, hd.st, hd.mn, rfl, hb2, by omega, by omega, by omega, by omega, by omega, fun xs o hnd x1 x3 hin hb3 => ?_⟩
    rw [updD_upd] at hb3 ⊢
    have hin' : ∀ x, x ∈ xs → hd.st ≤ x ∧ x ≤ hd.st + hd.mn - 1 := fun x hx => by have := hin x hx; omega
    refine endOf (q _ _ ?_ (pl_3 (pl_str (by decide +kernel)) pl_int (pl_ints (by omega))) (hb3.mono (by omega)))
    have e1 : isMove (.tup [.str "move", .int r, .tup (xs.map .int)]) hd.st (hd.st + hd.mn) = true := by
      show (isStr (.str "move") "move" && wthn (.int r) 0 1 && isRow (.tup (xs.map .int)) 1 8 && ((xs.map D.int).all fun x => wthn x hd.st (hd.st + hd.mn - 1)) && decide ((xs.map D.int).map intV).Nodup) = true
      rw [all_wthn hin', map_intV, decide_eq_true hnd, wthn_of r0 (by omega), show isRow (.tup (xs.map D.int)) 1 8 = true from decide_eq_true (by rw [List.length_map]; omega)]
      decide +kernel
    unfold whatOk
    rw [e1]; rfl
  · split
    · have hto : 1 ≤ total := by omega
      refine ⟨a, b, total, _, rfl, hb1, by omega, hto, big_m (by omega), fun place o p0 p1 hb2 => ?_⟩
      rw [updD_upd] at hb2 ⊢
      have hh2 : upd L a o h = some (.lst (hs.map hdD)) := by rw [updD_ne ha]; exact hh
      simp only [d__law_what_t2a1, dVar, dC, dOp, dUn, dNil, dCons, dTup, dLst, dCB, dTest, dAnd, dOr, dNot, dAndV, dOrV, dNotV, dIfE, dChain, sNext, sSeq, sBreak, sCont, sDrop, sRet, sRetN, sIf, gdName, gdNil, gdCons, gdTup, gdSub, sAsg, dCall, xOf, sFor, dSeq, dRng1, dRng2, dI, dI0, dB0, dAdd, dIsN, dNotN, isNon, dIx, dSetL, dNeg, one, two, dLen1, dListOf1, dTupOf1, dAbs1, dIntOf1, dII, marg, dAppend1, dExtend1, dIsi, isA, dSl, dPart, dNoPart, dCut, dLc, dYes, sRaise, sTry, exBy, sPar2, sPar3, dIsBl, dNotBl, dBM, dBM0, dEq, dNe, dIn, dSgn, dLc2, dEnum, dListRg1, dListRg2, dTupRg1, dTupRg2, dStrOf1, dRep, dLenSet, dstart, fnE_nx, fnE_rt, fnE_ex, Nat.zero_le, Nat.reduceLeDiff, decide_true, decide_false, true_or, or_true, false_or, or_false, decide_eq_true_eq, exists_eq_left', exists_eq_left, exists_eq_right, exists_eq_right', Option.some.injEq, List.cons.injEq, D.int.injEq, D.bl.injEq, D.str.injEq, D.tup.injEq, D.lro.injEq, D.ref.injEq, DO.lst.injEq, and_true, true_and, and_false, false_and, exists_false, exists_const, List.getElem?_cons_zero, List.getElem?_cons_succ, List.map_cons, List.map_nil, List.length_cons, List.length_nil, List.replicate_zero, List.replicate_succ, List.append_nil, List.cons_append, List.nil_append, List.set_cons_zero, List.set_cons_succ, Nat.reduceAdd, Nat.reduceSub, Nat.zero_add, reduceIte, Bool.false_eq_true, reduceCtorEq, if_true, if_false, Bool.not_true, Bool.not_false, exists_and_left, dwipe]
      refine ⟨_, _, isSeq_ref hh2, ?_⟩
      let keep : D → Bool := fun d => match d with
        | .tup [_, _, .int s, .int m] => decide (s ≤ place ∧ place < s + m)
        | _ => false
      let f : D → D := fun d => match d with
        | .tup [_, x, _, _] => x
        | d => d
      refine lcD_pure keep f _ hh2 _ (fun d hd Kt Kf h1 h2 => ?_) [] (by simp; omega) ?_
      · obtain ⟨x, _, rfl⟩ := List.mem_map.mp hd
        simp only [dVar, dC, dOp, dUn, dNil, dCons, dTup, dLst, dCB, dTest, dAnd, dOr, dNot, dAndV, dOrV, dNotV, dIfE, dChain, sNext, sSeq, sBreak, sCont, sDrop, sRet, sRetN, sIf, gdName, gdNil, gdCons, gdTup, gdSub, sAsg, dCall, xOf, sFor, dSeq, dRng1, dRng2, dI, dI0, dB0, dAdd, dIsN, dNotN, isNon, dIx, dSetL, dNeg, one, two, dLen1, dListOf1, dTupOf1, dAbs1, dIntOf1, dII, marg, dAppend1, dExtend1, dIsi, isA, dSl, dPart, dNoPart, dCut, dLc, dYes, sRaise, sTry, exBy, sPar2, sPar3, dIsBl, dNotBl, dBM, dBM0, dEq, dNe, dIn, dSgn, dLc2, dEnum, dListRg1, dListRg2, dTupRg1, dTupRg2, dStrOf1, dRep, dLenSet, dstart, fnE_nx, fnE_rt, fnE_ex, Nat.zero_le, Nat.reduceLeDiff, decide_true, decide_false, true_or, or_true, false_or, or_false, decide_eq_true_eq, exists_eq_left', exists_eq_left, exists_eq_right, exists_eq_right', Option.some.injEq, List.cons.injEq, D.int.injEq, D.bl.injEq, D.str.injEq, D.tup.injEq, D.lro.injEq, D.ref.injEq, DO.lst.injEq, and_true, true_and, and_false, false_and, exists_false, exists_const, List.getElem?_cons_zero, List.getElem?_cons_succ, List.map_cons, List.map_nil, List.length_cons, List.length_nil, List.replicate_zero, List.replicate_succ, List.append_nil, List.cons_append, List.nil_append, List.set_cons_zero, List.set_cons_succ, Nat.reduceAdd, Nat.reduceSub, Nat.zero_add, reduceIte, Bool.false_eq_true, reduceCtorEq, if_true, if_false, Bool.not_true, Bool.not_false, exists_and_left, hdD, atI2, atI3, atI1]
        have h1 : decide (x.st ≤ place ∧ place < x.st + x.mn) = true → Kt (.int x.ex) (upd L a o) := h1
        have h2 : decide (x.st ≤ place ∧ place < x.st + x.mn) = false → Kf (upd L a o) := h2
        by_cases c1 : x.st ≤ place
        · rw [if_pos c1]
          by_cases c2 : place < x.st + x.mn
          · simp only [c2, dVar, dC, dOp, dUn, dNil, dCons, dTup, dLst, dCB, dTest, dAnd, dOr, dNot, dAndV, dOrV, dNotV, dIfE, dChain, sNext, sSeq, sBreak, sCont, sDrop, sRet, sRetN, sIf, gdName, gdNil, gdCons, gdTup, gdSub, sAsg, dCall, xOf, sFor, dSeq, dRng1, dRng2, dI, dI0, dB0, dAdd, dIsN, dNotN, isNon, dIx, dSetL, dNeg, one, two, dLen1, dListOf1, dTupOf1, dAbs1, dIntOf1, dII, marg, dAppend1, dExtend1, dIsi, isA, dSl, dPart, dNoPart, dCut, dLc, dYes, sRaise, sTry, exBy, sPar2, sPar3, dIsBl, dNotBl, dBM, dBM0, dEq, dNe, dIn, dSgn, dLc2, dEnum, dListRg1, dListRg2, dTupRg1, dTupRg2, dStrOf1, dRep, dLenSet, dstart, fnE_nx, fnE_rt, fnE_ex, Nat.zero_le, Nat.reduceLeDiff, decide_true, decide_false, true_or, or_true, false_or, or_false, decide_eq_true_eq, exists_eq_left', exists_eq_left, exists_eq_right, exists_eq_right', Option.some.injEq, List.cons.injEq, D.int.injEq, D.bl.injEq, D.str.injEq, D.tup.injEq, D.lro.injEq, D.ref.injEq, DO.lst.injEq, and_true, true_and, and_false, false_and, exists_false, exists_const, List.getElem?_cons_zero, List.getElem?_cons_succ, List.map_cons, List.map_nil, List.length_cons, List.length_nil, List.replicate_zero, List.replicate_succ, List.append_nil, List.cons_append, List.nil_append, List.set_cons_zero, List.set_cons_succ, Nat.reduceAdd, Nat.reduceSub, Nat.zero_add, reduceIte, Bool.false_eq_true, reduceCtorEq, if_true, if_false, Bool.not_true, Bool.not_false, exists_and_left]
            exact h1 (decide_eq_true ⟨c1, c2⟩)
          · simp only [c2, dVar, dC, dOp, dUn, dNil, dCons, dTup, dLst, dCB, dTest, dAnd, dOr, dNot, dAndV, dOrV, dNotV, dIfE, dChain, sNext, sSeq, sBreak, sCont, sDrop, sRet, sRetN, sIf, gdName, gdNil, gdCons, gdTup, gdSub, sAsg, dCall, xOf, sFor, dSeq, dRng1, dRng2, dI, dI0, dB0, dAdd, dIsN, dNotN, isNon, dIx, dSetL, dNeg, one, two, dLen1, dListOf1, dTupOf1, dAbs1, dIntOf1, dII, marg, dAppend1, dExtend1, dIsi, isA, dSl, dPart, dNoPart, dCut, dLc, dYes, sRaise, sTry, exBy, sPar2, sPar3, dIsBl, dNotBl, dBM, dBM0, dEq, dNe, dIn, dSgn, dLc2, dEnum, dListRg1, dListRg2, dTupRg1, dTupRg2, dStrOf1, dRep, dLenSet, dstart, fnE_nx, fnE_rt, fnE_ex, Nat.zero_le, Nat.reduceLeDiff, decide_true, decide_false, true_or, or_true, false_or, or_false, decide_eq_true_eq, exists_eq_left', exists_eq_left, exists_eq_right, exists_eq_right', Option.some.injEq, List.cons.injEq, D.int.injEq, D.bl.injEq, D.str.injEq, D.tup.injEq, D.lro.injEq, D.ref.injEq, DO.lst.injEq, and_true, true_and, and_false, false_and, exists_false, exists_const, List.getElem?_cons_zero, List.getElem?_cons_succ, List.map_cons, List.map_nil, List.length_cons, List.length_nil, List.replicate_zero, List.replicate_succ, List.append_nil, List.cons_append, List.nil_append, List.set_cons_zero, List.set_cons_succ, Nat.reduceAdd, Nat.reduceSub, Nat.zero_add, reduceIte, Bool.false_eq_true, reduceCtorEq, if_true, if_false, Bool.not_true, Bool.not_false, exists_and_left]
            exact h2 (decide_eq_false fun h => c2 h.2)
        · rw [if_neg c1]
          exact h2 (decide_eq_false fun h => c1 h.1)
      · intro p hp
        obtain ⟨x, rest, e1, e2, e3⟩ := hok.find place p0 p1
        have ef : ((hs.map hdD).filter keep).map f = .int x.ex :: rest.map fun y => .int y.ex := by
          rw [List.filter_map, List.map_map]
          have : hs.filter (keep ∘ hdD) = hs.filter (atH place) := rfl
          rw [this, e1]
          rfl
        rw [List.nil_append, ef]
        refine ⟨_, updD_same, _, atI0, ?_⟩
        have hb3 := hb2.new (o := .lst (.int x.ex :: rest.map fun y => .int y.ex)) hp
        obtain ⟨pa, pb, hb3⟩ := hb3
        obtain ⟨_, _, _, _, x1, x2⟩ := hok.mem x e2
        simp only [d__law_what_t2a2, dVar, dC, dOp, dUn, dNil, dCons, dTup, dLst, dCB, dTest, dAnd, dOr, dNot, dAndV, dOrV, dNotV, dIfE, dChain, sNext, sSeq, sBreak, sCont, sDrop, sRet, sRetN, sIf, gdName, gdNil, gdCons, gdTup, gdSub, sAsg, dCall, xOf, sFor, dSeq, dRng1, dRng2, dI, dI0, dB0, dAdd, dIsN, dNotN, isNon, dIx, dSetL, dNeg, one, two, dLen1, dListOf1, dTupOf1, dAbs1, dIntOf1, dII, marg, dAppend1, dExtend1, dIsi, isA, dSl, dPart, dNoPart, dCut, dLc, dYes, sRaise, sTry, exBy, sPar2, sPar3, dIsBl, dNotBl, dBM, dBM0, dEq, dNe, dIn, dSgn, dLc2, dEnum, dListRg1, dListRg2, dTupRg1, dTupRg2, dStrOf1, dRep, dLenSet, dstart, fnE_nx, fnE_rt, fnE_ex, Nat.zero_le, Nat.reduceLeDiff, decide_true, decide_false, true_or, or_true, false_or, or_false, decide_eq_true_eq, exists_eq_left', exists_eq_left, exists_eq_right, exists_eq_right', Option.some.injEq, List.cons.injEq, D.int.injEq, D.bl.injEq, D.str.injEq, D.tup.injEq, D.lro.injEq, D.ref.injEq, DO.lst.injEq, and_true, true_and, and_false, false_and, exists_false, exists_const, List.getElem?_cons_zero, List.getElem?_cons_succ, List.map_cons, List.map_nil, List.length_cons, List.length_nil, List.replicate_zero, List.replicate_succ, List.append_nil, List.cons_append, List.nil_append, List.set_cons_zero, List.set_cons_succ, Nat.reduceAdd, Nat.reduceSub, Nat.zero_add, reduceIte, Bool.false_eq_true, reduceCtorEq, if_true, if_false, Bool.not_true, Bool.not_false, exists_and_left, dwipe]
        refine ⟨⟨by omega, by omega⟩, ?_⟩
        have hexl : (rngD 0 x.ex.toNat).length = x.ex.toNat := rngD_length
        refine lcD_ind (fun rest' acc L' => ∃ o, L' = upd (upd L a o) p (.lst (.int x.ex :: rest.map fun y => .int y.ex)) ∧ BagAt (n + 2 + acc.length) (upd L a o) a b ∧ acc.length + rest'.length = x.ex.toNat ∧ ∃ xs : List Int, acc = xs.map .int ∧ ∀ y, y ∈ xs → hd.st ≤ y ∧ y ≤ hd.st + hd.mn - 1) ?_ ?_ _ _ _ ⟨o, rfl, hb2, by simp [hexl], [], rfl, by simp⟩
        · rintro d ds acc L' P hP ⟨o, rfl, hbi, hal, xs, rfl, hin⟩
          refine ⟨trivial, ?_⟩
          simp only [dVar, dC, dOp, dUn, dNil, dCons, dTup, dLst, dCB, dTest, dAnd, dOr, dNot, dAndV, dOrV, dNotV, dIfE, dChain, sNext, sSeq, sBreak, sCont, sDrop, sRet, sRetN, sIf, gdName, gdNil, gdCons, gdTup, gdSub, sAsg, dCall, xOf, sFor, dSeq, dRng1, dRng2, dI, dI0, dB0, dAdd, dIsN, dNotN, isNon, dIx, dSetL, dNeg, one, two, dLen1, dListOf1, dTupOf1, dAbs1, dIntOf1, dII, marg, dAppend1, dExtend1, dIsi, isA, dSl, dPart, dNoPart, dCut, dLc, dYes, sRaise, sTry, exBy, sPar2, sPar3, dIsBl, dNotBl, dBM, dBM0, dEq, dNe, dIn, dSgn, dLc2, dEnum, dListRg1, dListRg2, dTupRg1, dTupRg2, dStrOf1, dRep, dLenSet, dstart, fnE_nx, fnE_rt, fnE_ex, Nat.zero_le, Nat.reduceLeDiff, decide_true, decide_false, true_or, or_true, false_or, or_false, decide_eq_true_eq, exists_eq_left', exists_eq_left, exists_eq_right, exists_eq_right', Option.some.injEq, List.cons.injEq, D.int.injEq, D.bl.injEq, D.str.injEq, D.tup.injEq, D.lro.injEq, D.ref.injEq, DO.lst.injEq, and_true, true_and, and_false, false_and, exists_false, exists_const, List.getElem?_cons_zero, List.getElem?_cons_succ, List.map_cons, List.map_nil, List.length_cons, List.length_nil, List.replicate_zero, List.replicate_succ, List.append_nil, List.cons_append, List.nil_append, List.set_cons_zero, List.set_cons_succ, Nat.reduceAdd, Nat.reduceSub, Nat.zero_add, reduceIte, Bool.false_eq_true, reduceCtorEq, if_true, if_false, Bool.not_true, Bool.not_false, exists_and_left, hdD, atI2, atI3]
          have hal' : xs.length < x.ex.toNat := by simp at hal; omega
          refine ⟨a, b, hd.mn, _, rfl, hbi.off pa pb, by simp; omega, by omega, big_m (by omega), fun r o2 r0 r1 hb4 => ?_⟩
          simp only [dVar, dC, dOp, dUn, dNil, dCons, dTup, dLst, dCB, dTest, dAnd, dOr, dNot, dAndV, dOrV, dNotV, dIfE, dChain, sNext, sSeq, sBreak, sCont, sDrop, sRet, sRetN, sIf, gdName, gdNil, gdCons, gdTup, gdSub, sAsg, dCall, xOf, sFor, dSeq, dRng1, dRng2, dI, dI0, dB0, dAdd, dIsN, dNotN, isNon, dIx, dSetL, dNeg, one, two, dLen1, dListOf1, dTupOf1, dAbs1, dIntOf1, dII, marg, dAppend1, dExtend1, dIsi, isA, dSl, dPart, dNoPart, dCut, dLc, dYes, sRaise, sTry, exBy, sPar2, sPar3, dIsBl, dNotBl, dBM, dBM0, dEq, dNe, dIn, dSgn, dLc2, dEnum, dListRg1, dListRg2, dTupRg1, dTupRg2, dStrOf1, dRep, dLenSet, dstart, fnE_nx, fnE_rt, fnE_ex, Nat.zero_le, Nat.reduceLeDiff, decide_true, decide_false, true_or, or_true, false_or, or_false, decide_eq_true_eq, exists_eq_left', exists_eq_left, exists_eq_right, exists_eq_right', Option.some.injEq, List.cons.injEq, D.int.injEq, D.bl.injEq, D.str.injEq, D.tup.injEq, D.lro.injEq, D.ref.injEq, DO.lst.injEq, and_true, true_and, and_false, false_and, exists_false, exists_const, List.getElem?_cons_zero, List.getElem?_cons_succ, List.map_cons, List.map_nil, List.length_cons, List.length_nil, List.replicate_zero, List.replicate_succ, List.append_nil, List.cons_append, List.nil_append, List.set_cons_zero, List.set_cons_succ, Nat.reduceAdd, Nat.reduceSub, Nat.zero_add, reduceIte, Bool.false_eq_true, reduceCtorEq, if_true, if_false, Bool.not_true, Bool.not_false, exists_and_left]
          have hst : upd (upd (upd L a o) p (.lst (.int x.ex :: rest.map fun y => .int y.ex))) a o2 = upd (upd L a o2) p (.lst (.int x.ex :: rest.map fun y => .int y.ex)) := by
            funext c
            unfold upd
            by_cases h1 : c = a <;> by_cases h3 : c = p <;> simp_all
          rw [hst] at hb4 ⊢
          refine ⟨by simp; omega, hP _ _ ⟨o2, rfl, ?_, by simp at hal ⊢; omega, xs ++ [hd.st + r], by simp, fun y hy => ?_⟩⟩
          · obtain ⟨x, y, z, h1, h2⟩ := hb4.row
            obtain ⟨cs, h4⟩ := hb.cells
            rw [updD_ne pa.symm, updD_same] at h1
            exact ⟨hb.ne, ⟨cs, by rw [updD_ne hb.ne]; exact h4⟩, x, y, z, by rw [updD_same]; exact h1, by simp at h2 ⊢; omega⟩
          · rcases List.mem_append.mp hy with h | h
            · exact hin y h
            · have : y = hd.st + r := by simpa using h
              omega
        · rintro acc L' ⟨o, rfl, hbi, hal, xs, rfl, hin⟩
          refine ⟨trivial, fun p2 hp2 => ?_⟩
          refine ⟨_, updD_same, upd L a o, (Le.upd (by rw [updD_ne pa]; rw [updD_ne pa] at hp; exact hp)).trans (Le.upd hp2), q _ _ ?_ (pl_3 (pl_str (by decide +kernel)) pl_int (pl_ints (by simp at hal; omega))) (hbi.mono (by simp at hal ⊢; omega))⟩
          have hal' : (xs.length : Int) = x.ex := by simp at hal; omega
          have hexL := hok.le.2
          have e1 : isCall (.tup [.str "call", .int place, .tup (xs.map .int)]) hd.st (hd.st + hd.mn) (exL hs) = true := by
            show (isStr (.str "call") "call" && wthn (.int place) 0 (((exL hs).length : Int) - 1) && isRow (.tup (xs.map .int)) ((exL hs).getD place.toNat 0) ((exL hs).getD place.toNat 0) && ((xs.map D.int).all fun x => wthn x hd.st (hd.st + hd.mn - 1))) = true
            rw [Int.sub_zero] at e3
            rw [all_wthn hin, wthn_of p0 (by omega), ← e3, show isRow (.tup (xs.map D.int)) x.ex x.ex = true from decide_eq_true (by rw [List.length_map]; omega)]
            decide +kernel
          unfold whatOk
          rw [e1]; simp
    · refine ⟨a, b, hd.ex, _, rfl, hb1, by omega, by omega, big_m (by omega), fun r o r0 r1 hb2 => ?_⟩
      rw [updD_upd] at hb2 ⊢
      refine endOf (q _ _ ?_ (pl_2 (pl_str (by decide +kernel)) pl_int) (hb2.mono (by omega)))
      have e1 : isExit (.tup [.str "exit", .int r]) hd.ex = true := by
        show (isStr (.str "exit") "exit" && wthn (.int r) 0 (hd.ex - 1)) = true
        rw [wthn_of r0 (by omega)]
        decide +kernel
      unfold whatOk
      rw [e1]; simp
/-! what lies beside the bag -/
def Ext (a : Addr) (L L' : DH) : Prop := ∀ c v, c ≠ a → L c = some v → L' c = some v
theorem Ext.refl {a : Addr} {L : DH} : Ext a L L := fun _ _ _ h => h
theorem Ext.bag {a : Addr} {L L' : DH} {o : DO} (h : Ext a L L') : Ext a L (upd L' a o) := fun c v n e => by rw [updD_ne n]; exact h c v n e
theorem Ext.new {a p : Addr} {L L' : DH} {o : DO} (h : Ext a L L') (hp : L' p = none) : Ext a L (upd L' p o) := fun c v n e => by
  have := h c v n e
  rw [updD_ne (fresh_ne this hp)]; exact this
theorem Ext.own {a u : Addr} {L L' : DH} {o : DO} (h : Ext a L L') (hu : L u = none) : Ext a L (upd L' u o) := fun c v n e => by
  rw [updD_ne (fresh_ne e hu)]; exact h c v n e
theorem Ext.back {a b : Addr} {L L' : DH} {n m : Nat} (h : Ext a L L') (hb : BagAt m L a b) (hb' : BagAt n L' a b) : ∃ o, Le (upd L a o) L' ∧ BagAt n (upd L a o) a b := by
  obtain ⟨x, y, z, h1, h2⟩ := hb'.row
  refine ⟨_, fun c v e => ?_, hb.ne, ?_, x, y, z, updD_same, h2⟩
  · by_cases hc : c = a
    · subst hc; rw [updD_same] at e; rw [← e]; exact h1
    · rw [updD_ne hc] at e; exact h c v hc e
  · rw [updD_ne hb.ne]; exact hb.cells
/-! the drawn program -/
structure GenProg (d : D) (procs exits size : Int) : Prop where
  ok : isProg d = true
  pl : Pl 6 d
  procs : ((tupV d).length : Int) ≤ procs
  each : ∀ e, e ∈ tupV d → exD e ≤ exits ∧ ((plD e).length : Int) ≤ size
def sp_law_program : SpD := fun ds L Q _ => ∃ (a b : Addr) (n : Nat) (procs exits size marks : Int), ds = [.ref a, .int procs, .int exits, .int size, .int marks] ∧ BagAt n L a b ∧ n ≤ 600000000 ∧ 1 ≤ procs ∧ procs ≤ 60 ∧ 1 ≤ exits ∧ exits ≤ 24 ∧ 1 ≤ size ∧ size ≤ 4000 ∧ procs * size ≤ 4000 ∧ 1 ≤ marks ∧ marks ≤ 1000 ∧
  ∀ d o, GenProg d procs exits size → BagAt (n + 200000) (upd L a o) a b → Q d (upd L a o)
theorem len_law_program : ∀ as L Q E, sp_law_program as L Q E → as.length = 5 := by rintro _ L Q E ⟨a, b, n, p, e, s, m, rfl, _⟩; rfl
def d__law_program_t2b2 : DS :=
  (sAsg (dOp dAdd (dVar 11) (dVar 12)) (gdName 11))
def d__law_program_t2b1 : DS :=
  (sSeq (sDrop (dBM chkL (marg dAppend1) (dVar 10) (dCons (dTup (dCons (dCall sp_law_name (dCons (dVar 0) (dCons (dVar 9) dNil))) (dCons (dOp dAdd (dC (.int 1)) (dCall sp_law_pick (dCons (dVar 0) (dCons (dVar 2) dNil)))) (dCons (dVar 11) (dCons (dVar 12) dNil))))) dNil))) d__law_program_t2b2)
def d__law_program_b2 : DS :=
  (sSeq (sAsg (dOp dAdd (dC (.int 1)) (dCall sp_law_pick (dCons (dVar 0) (dCons (dVar 3) dNil)))) (gdName 12)) d__law_program_t2b1)
def d__law_program_t4b1 : DS :=
  (sDrop (dBM chkL (marg dAppend1) (dVar 7) (dCons (dTup (dCons (dOp dIx (dVar 8) (dC (.int 0))) (dCons (dOp dIx (dVar 8) (dC (.int 1))) (dCons (dCB dTupOf (dCons (dVar 13) dNil)) dNil)))) dNil)))
def d__law_program_b4 : DS :=
  (sSeq (sAsg (dLc (dRng1 (dCons (dOp dIx (dVar 8) (dC (.int 3))) dNil)) (gdName 6) dYes (dTup (dCons (dOp dIx (dVar 5) (dCall sp_law_pick (dCons (dVar 0) (dCons (dVar 4) dNil)))) (dCons (dCall sp_law_what (dCons (dVar 0) (dCons (dVar 10) (dCons (dVar 8) (dCons (dVar 11) dNil))))) dNil))) [6]) (gdName 13)) d__law_program_t4b1)
def d__law_program_t5 : DS :=
  (sRet (dCB dTupOf (dCons (dVar 7) dNil)))
def d__law_program_t4 : DS :=
  (sSeq (sFor (dSeq (dVar 10)) (gdName 8)
  d__law_program_b4) d__law_program_t5)
def d__law_program_t3 : DS :=
  (sSeq (sAsg (dLst dNil) (gdName 7)) d__law_program_t4)
def d__law_program_t2 : DS :=
  (sSeq (sFor (dRng1 (dCons (dOp dAdd (dC (.int 1)) (dCall sp_law_pick (dCons (dVar 0) (dCons (dVar 1) dNil)))) dNil)) (gdName 6)
  d__law_program_b2) d__law_program_t3)
def d__law_program_t1 : DS :=
  (sSeq (sAsg (dTup (dCons (dLst dNil) (dCons (dLst dNil) (dCons (dC (.int 0)) dNil)))) (gdTup 3 (gdCons (gdName 9) (gdCons (gdName 10) (gdCons (gdName 11) gdNil))))) d__law_program_t2)
def d__law_program : DS :=
  (sSeq (sAsg (dLc (dRng1 (dCons (dVar 4) dNil)) (gdName 6) dYes (dCall sp_law_pick (dCons (dVar 0) (dCons (dC (.int 10)) dNil))) [6]) (gdName 5)) d__law_program_t1)

/-- entries against the heads -/
structure EntOk (exits : List Int) (h : Hd) (e : D) : Prop where
  eq : e = .tup [.str h.nm, .int h.ex, .tup (plD e)]
  len : ((plD e).length : Int) = h.mn
  all : ((plD e).all fun x => isPlc x h.st (h.st + h.mn) exits) = true
  pl : Pl 5 e
inductive Ents (exits : List Int) : List Hd → List D → Prop
  | nil : Ents exits [] []
  | cons {h : Hd} {e : D} {hs : List Hd} {es : List D} : EntOk exits h e → Ents exits hs es → Ents exits (h :: hs) (e :: es)
theorem Ents.snoc {exits : List Int} {hs : List Hd} {es : List D} {h : Hd} {e : D} (r : Ents exits hs es) (k : EntOk exits h e) : Ents exits (hs ++ [h]) (es ++ [e]) := by
  induction r with
  | nil => exact .cons k .nil
  | cons a _ ih => exact .cons a ih
theorem Ents.names {exits : List Int} {hs : List Hd} {es : List D} (r : Ents exits hs es) : es.map nmD = hs.map (·.nm) := by
  induction r with
  | nil => rfl
  | cons a _ ih => rw [List.map_cons, List.map_cons, ih, a.eq]; rfl
theorem Ents.exits {ex : List Int} {hs : List Hd} {es : List D} (r : Ents ex hs es) (hm : ∀ h, h ∈ hs → 1 ≤ h.mn) : exitsI es = exL hs := by
  induction r with
  | nil => rfl
  | @cons h e hs es a _ ih =>
    have ih := ih fun h hh => hm h (List.mem_cons_of_mem _ hh)
    unfold exitsI exL at *
    rw [List.flatMap_cons, List.flatMap_cons, ih]
    congr 1
    have e1 : exD e = h.ex := by rw [a.eq]; rfl
    have e2 : (plD e).length = h.mn.toNat := by have := a.len; omega
    rw [e1, ← e2, List.map_const']
theorem Ents.len {ex : List Int} {hs : List Hd} {es : List D} (r : Ents ex hs es) : es.length = hs.length := by
  induction r with
  | nil => rfl
  | cons _ _ ih => simp [ih]
theorem Ents.sum {ex : List Int} {hs : List Hd} {es : List D} (r : Ents ex hs es) : ∀ {f t : Int}, HdsFrom f hs t → ((es.map fun e => ((plD e).length : Int))).sum = t - f := by
  induction r with
  | nil => intro f t h; cases (show t = f from h); simp
  | @cons h e hs es a _ ih =>
    intro f t hh
    obtain ⟨h1, h2, h3, h4, h5, h6⟩ := hh
    rw [List.map_cons, List.sum_cons, ih h6, a.len]
    omega
theorem Ents.all {ex : List Int} {hs : List Hd} {es : List D} (r : Ents ex hs es) : ∀ {f t : Int}, HdsFrom f hs t → allPl ex f es = true := by
  induction r with
  | nil => intro f t h; rfl
  | @cons h e hs es a _ ih =>
    intro f t hh
    obtain ⟨h1, h2, h3, h4, h5, h6⟩ := hh
    have e1 := a.all
    have e2 := ih h6
    rw [h1] at e1
    show (((plD e).all fun x => isPlc x f (f + (plD e).length) ex) && allPl ex (f + (plD e).length) es) = true
    rw [a.len, e1, e2]; rfl
theorem Ents.mem {ex : List Int} {hs : List Hd} {es : List D} (r : Ents ex hs es) : ∀ e, e ∈ es → ∃ h, h ∈ hs ∧ EntOk ex h e := by
  induction r with
  | nil => intro e h; cases h
  | @cons h e hs es a _ ih =>
    intro x hx
    rcases List.mem_cons.mp hx with rfl | hx
    · exact ⟨h, List.mem_cons_self, a⟩
    · obtain ⟨k, h1, h2⟩ := ih x hx
      exact ⟨k, List.mem_cons_of_mem _ h1, h2⟩
theorem gen_ok {hs : List Hd} {es : List D} {t procs exits size : Int} (r : Ents (exL hs) hs es) (hf : HdsFrom 0 hs t) (ht : t ≤ 4000) (h1 : 1 ≤ hs.length) (hp : (hs.length : Int) ≤ procs) (h60 : procs ≤ 60) (hn : (hs.map (·.nm)).Nodup) (hl : ∀ h, h ∈ hs → lowName h.nm = true)
    (he : ∀ h, h ∈ hs → h.ex ≤ exits ∧ h.mn ≤ size) : GenProg (.tup es) procs exits size := by
  have hmem := fun e he => r.mem e he
  refine ⟨?_, ⟨by rw [r.len]; omega, fun e he => let ⟨h, _, k⟩ := hmem e he; k.pl⟩, by show (es.length : Int) ≤ procs; rw [r.len]; exact hp, fun e hee => ?_⟩
  · unfold isProg
    have e1 : areHeads (.tup es) = true := by
      show (decide (1 ≤ (es.length : Int) ∧ (es.length : Int) ≤ 60) && es.all isHead && decide (es.map nmD).Nodup && decide (((es.map fun e => ((plD e).length : Int))).sum ≤ 4000)) = true
      rw [r.names, decide_eq_true hn, r.sum hf, r.len, decide_eq_true (by omega), decide_eq_true (by omega : t - 0 ≤ 4000)]
      have : es.all isHead = true := by
        rw [List.all_eq_true]
        intro e he
        obtain ⟨h, hh, k⟩ := hmem e he
        obtain ⟨_, _, b1, b2, b3, b4⟩ := hf.mem h hh
        have hln := k.len
        rw [k.eq]
        show (isLow (.str h.nm) && wthn (.int h.ex) 1 24 && isRow (.tup (plD e)) 1 4000) = true
        rw [show isLow (.str h.nm) = true from hl h hh, wthn_of b3 b4, show isRow (.tup (plD e)) 1 4000 = true from decide_eq_true (by omega)]
        rfl
      rw [this]; rfl
    have e2 : exitsI (tupV (.tup es)) = exL hs := r.exits fun h hh => (hf.mem h hh).2.2.1
    rw [e1, e2]
    exact r.all hf
  · obtain ⟨h, hh, k⟩ := hmem e hee
    have e1 : exD e = h.ex := by rw [k.eq]; rfl
    rw [e1, k.len]
    exact he h hh
theorem HdsFrom.snoc : ∀ {f : Int} {hs : List Hd} {t : Int} {h : Hd}, HdsFrom f hs t → h.st = t → 1 ≤ h.mn → h.mn ≤ 4000 → 1 ≤ h.ex → h.ex ≤ 24 → HdsFrom f (hs ++ [h]) (t + h.mn)
  | f, [], t, h, hh, e, a, b, c, d => by
    cases (show t = f from hh)
    exact ⟨e, a, b, c, d, rfl⟩
  | f, x :: hs, t, h, hh, e, a, b, c, d => by
    obtain ⟨h1, h2, h3, h4, h5, h6⟩ := hh
    exact ⟨h1, h2, h3, h4, h5, h6.snoc e a b c d⟩
theorem HdsFrom.at_ : ∀ {f : Int} {hs : List Hd} {t : Int}, HdsFrom f hs t → ∀ h, h ∈ hs → (exL hs).getD (h.st - f).toNat 0 = h.ex
  | f, x :: hs, t, hh, h, hx => by
    obtain ⟨h1, h2, h3, h4, h5, h6⟩ := hh
    unfold exL
    rcases List.mem_cons.mp hx with rfl | hx
    · rw [List.flatMap_cons, List.getD_eq_getElem?_getD, List.getElem?_append_left (by simp; omega), List.getElem?_replicate, if_pos (by omega)]
      rfl
    · have := h6.at_ h hx
      have hm := h6.mem h hx
      unfold exL at this
      rw [List.flatMap_cons, List.getD_eq_getElem?_getD, List.getElem?_append_right (by simp; omega), List.length_replicate, ← List.getD_eq_getElem?_getD, ← this]
      congr 1
      omega
theorem exL_take {hs : List Hd} {i : Nat} {h : Hd} (e : hs[i]? = some h) : exL (hs.take (i + 1)) = exL (hs.take i) ++ List.replicate h.mn.toNat h.ex := by
  unfold exL
  rw [List.take_succ, e, List.flatMap_append]
  simp
theorem exL_le (hs : List Hd) (i : Nat) : (exL (hs.take i)).length ≤ (exL hs).length := by
  have : exL hs = exL (hs.take i) ++ exL (hs.drop i) := by unfold exL; rw [← List.flatMap_append, List.take_append_drop]
  rw [this, List.length_append]; omega
/-- the second loop: places drawn -/
structure PrgJ (a b pr h f : Addr) (L0 : DH) (row : List Int) (hs : List Hd) (es : List D) (n : Nat) (L : DH) : Prop where
  bag : BagAt n L a b
  ext : Ext a L0 L
  row : L pr = some (.lst (row.map .int))
  h : L h = some (.lst (hs.map hdD))
  f : L f = some (.lst es)
/-- the first loop: heads drawn -/
structure PrgI (a b pr u h : Addr) (L0 : DH) (row : List Int) (n i : Nat) (size exits : Int) (hs : List Hd) (t : Int) (L : DH) : Prop where
  bag : BagAt n L a b
  ext : Ext a L0 L
  row : L pr = some (.lst (row.map .int))
  u : L u = some (.lst ((hs.map (·.nm)).map .str))
  h : L h = some (.lst (hs.map hdD))
  len : hs.length = i
  from_ : HdsFrom 0 hs t
  tot : t ≤ i * size
  nd : (hs.map (·.nm)).Nodup
  low : ∀ x, x ∈ hs → lowName x.nm = true
  lim : ∀ x, x ∈ hs → x.ex ≤ exits ∧ x.mn ≤ size
theorem lowName_len {z : Str} (h : lowName z = true) : z.length ≤ 10 := by
  unfold lowName at h
  simp only [Bool.and_eq_true, decide_eq_true_eq] at h
  omega
theorem BagAt.after {n m : Nat} {L : DH} {a b p : Addr} {o o2 : DO} (h : BagAt n (upd (upd L p o) a o2) a b) (pa : p ≠ a) (h0 : BagAt m L a b) : BagAt n (upd L a o2) a b := by
  obtain ⟨x, y, z, h1, h2⟩ := h.row
  rw [updD_same] at h1
  exact ⟨h0.ne, by rw [updD_ne h0.ne]; exact h0.cells, x, y, z, by rw [updD_same]; exact h1, h2⟩
theorem pure_law_program : ∀ as L Q E, sp_law_program as L Q E → d__law_program (fnEnds Q E) (dstart 14 as) L := by
  rintro as L Q E ⟨a, b, n, procs, exits, size, marks, rfl, hb, hn, p1, p2, e1, e2, s1, s2, ps, k1, k2, q⟩
  simp only [d__law_program, dVar, dC, dOp, dUn, dNil, dCons, dTup, dLst, dCB, dTest, dAnd, dOr, dNot, dAndV, dOrV, dNotV, dIfE, dChain, sNext, sSeq, sBreak, sCont, sDrop, sRet, sRetN, sIf, gdName, gdNil, gdCons, gdTup, gdSub, sAsg, dCall, xOf, sFor, dSeq, dRng1, dRng2, dI, dI0, dB0, dAdd, dIsN, dNotN, isNon, dIx, dSetL, dNeg, one, two, dLen1, dListOf1, dTupOf1, dAbs1, dIntOf1, dII, marg, dAppend1, dExtend1, dIsi, isA, dSl, dPart, dNoPart, dCut, dLc, dYes, sRaise, sTry, exBy, sPar2, sPar3, dIsBl, dNotBl, dBM, dBM0, dEq, dNe, dIn, dSgn, dLc2, dEnum, dListRg1, dListRg2, dTupRg1, dTupRg2, dStrOf1, dRep, dLenSet, dstart, fnE_nx, fnE_rt, fnE_ex, Nat.zero_le, Nat.reduceLeDiff, decide_true, decide_false, true_or, or_true, false_or, or_false, decide_eq_true_eq, exists_eq_left', exists_eq_left, exists_eq_right, exists_eq_right', Option.some.injEq, List.cons.injEq, D.int.injEq, D.bl.injEq, D.str.injEq, D.tup.injEq, D.lro.injEq, D.ref.injEq, DO.lst.injEq, and_true, true_and, and_false, false_and, exists_false, exists_const, List.getElem?_cons_zero, List.getElem?_cons_succ, List.map_cons, List.map_nil, List.length_cons, List.length_nil, List.replicate_zero, List.replicate_succ, List.append_nil, List.cons_append, List.nil_append, List.set_cons_zero, List.set_cons_succ, Nat.reduceAdd, Nat.reduceSub, Nat.zero_add, reduceIte, Bool.false_eq_true, reduceCtorEq, if_true, if_false, Bool.not_true, Bool.not_false, exists_and_left, dwipe]
  refine ⟨⟨by omega, by omega⟩, ?_⟩
  refine lcD_ind (fun rest acc L' => BagAt (n + acc.length) L' a b ∧ Ext a L L' ∧ acc.length + rest.length = marks.toNat ∧ ∃ xs : List Int, acc = xs.map .int ∧ ∀ x, x ∈ xs → 0 ≤ x ∧ x ≤ 9) ?_ ?_ _ _ _ ⟨hb, .refl, by simp [rngD_length], [], rfl, by simp⟩
  · rintro d rest acc L' P hP ⟨hb', hx, hl, xs, rfl, hin⟩
    refine ⟨trivial, ?_⟩
    simp only [dVar, dC, dOp, dUn, dNil, dCons, dTup, dLst, dCB, dTest, dAnd, dOr, dNot, dAndV, dOrV, dNotV, dIfE, dChain, sNext, sSeq, sBreak, sCont, sDrop, sRet, sRetN, sIf, gdName, gdNil, gdCons, gdTup, gdSub, sAsg, dCall, xOf, sFor, dSeq, dRng1, dRng2, dI, dI0, dB0, dAdd, dIsN, dNotN, isNon, dIx, dSetL, dNeg, one, two, dLen1, dListOf1, dTupOf1, dAbs1, dIntOf1, dII, marg, dAppend1, dExtend1, dIsi, isA, dSl, dPart, dNoPart, dCut, dLc, dYes, sRaise, sTry, exBy, sPar2, sPar3, dIsBl, dNotBl, dBM, dBM0, dEq, dNe, dIn, dSgn, dLc2, dEnum, dListRg1, dListRg2, dTupRg1, dTupRg2, dStrOf1, dRep, dLenSet, dstart, fnE_nx, fnE_rt, fnE_ex, Nat.zero_le, Nat.reduceLeDiff, decide_true, decide_false, true_or, or_true, false_or, or_false, decide_eq_true_eq, exists_eq_left', exists_eq_left, exists_eq_right, exists_eq_right', Option.some.injEq, List.cons.injEq, D.int.injEq, D.bl.injEq, D.str.injEq, D.tup.injEq, D.lro.injEq, D.ref.injEq, DO.lst.injEq, and_true, true_and, and_false, false_and, exists_false, exists_const, List.getElem?_cons_zero, List.getElem?_cons_succ, List.map_cons, List.map_nil, List.length_cons, List.length_nil, List.replicate_zero, List.replicate_succ, List.append_nil, List.cons_append, List.nil_append, List.set_cons_zero, List.set_cons_succ, Nat.reduceAdd, Nat.reduceSub, Nat.zero_add, reduceIte, Bool.false_eq_true, reduceCtorEq, if_true, if_false, Bool.not_true, Bool.not_false, exists_and_left]
    refine ⟨a, b, 10, _, rfl, hb', by simp at hl ⊢; omega, by decide, by decide, fun r o r0 r1 hb2 => ⟨by simp at hl ⊢; omega, hP _ _ ⟨by simp at hb2 ⊢; exact hb2, hx.bag, by simp at hl ⊢; omega, xs ++ [r], by simp, fun y hy => ?_⟩⟩⟩
    rcases List.mem_append.mp hy with h | h
    · exact hin y h
    · have : y = r := by simpa using h
      omega
  rintro acc L1 ⟨hb1, hx1, hl1, row, rfl, hrow⟩
  have hl1 : row.length = marks.toNat := by simpa using hl1
  have hb1 : BagAt (n + 1000) L1 a b := hb1.mono (by simp; omega)
  refine ⟨trivial, fun pr hpr => ?_⟩
  obtain ⟨pra, prb, hb2⟩ := hb1.new (o := .lst (row.map .int)) hpr
  have hx2 := hx1.new (o := .lst (row.map .int)) hpr
  simp only [d__law_program_t1, dVar, dC, dOp, dUn, dNil, dCons, dTup, dLst, dCB, dTest, dAnd, dOr, dNot, dAndV, dOrV, dNotV, dIfE, dChain, sNext, sSeq, sBreak, sCont, sDrop, sRet, sRetN, sIf, gdName, gdNil, gdCons, gdTup, gdSub, sAsg, dCall, xOf, sFor, dSeq, dRng1, dRng2, dI, dI0, dB0, dAdd, dIsN, dNotN, isNon, dIx, dSetL, dNeg, one, two, dLen1, dListOf1, dTupOf1, dAbs1, dIntOf1, dII, marg, dAppend1, dExtend1, dIsi, isA, dSl, dPart, dNoPart, dCut, dLc, dYes, sRaise, sTry, exBy, sPar2, sPar3, dIsBl, dNotBl, dBM, dBM0, dEq, dNe, dIn, dSgn, dLc2, dEnum, dListRg1, dListRg2, dTupRg1, dTupRg2, dStrOf1, dRep, dLenSet, dstart, fnE_nx, fnE_rt, fnE_ex, Nat.zero_le, Nat.reduceLeDiff, decide_true, decide_false, true_or, or_true, false_or, or_false, decide_eq_true_eq, exists_eq_left', exists_eq_left, exists_eq_right, exists_eq_right', Option.some.injEq, List.cons.injEq, D.int.injEq, D.bl.injEq, D.str.injEq, D.tup.injEq, D.lro.injEq, D.ref.injEq, DO.lst.injEq, and_true, true_and, and_false, false_and, exists_false, exists_const, List.getElem?_cons_zero, List.getElem?_cons_succ, List.map_cons, List.map_nil, List.length_cons, List.length_nil, List.replicate_zero, List.replicate_succ, List.append_nil, List.cons_append, List.nil_append, List.set_cons_zero, List.set_cons_succ, Nat.reduceAdd, Nat.reduceSub, Nat.zero_add, reduceIte, Bool.false_eq_true, reduceCtorEq, if_true, if_false, Bool.not_true, Bool.not_false, exists_and_left]
  intro u hu h hh
  obtain ⟨ua, ub, hb3⟩ := hb2.new (o := .lst []) hu
  have hx3 := hx2.new (o := .lst []) hu
  obtain ⟨ha, hhb, hb4⟩ := hb3.new (o := .lst []) hh
  have hx4 := hx3.new (o := .lst []) hh
  have npu : pr ≠ u := fresh_ne updD_same hu
  have nuh : u ≠ h := fresh_ne updD_same hh
  have nph : pr ≠ h := fresh_ne (by rw [updD_ne npu, updD_same]) hh
  have fu : L u = none := by
    cases e : L u with
    | none => rfl
    | some v => have := hx2 u v ua e; rw [hu] at this; cases this
  have fh : L h = none := by
    cases e : L h with
    | none => rfl
    | some v => have := hx3 h v ha e; rw [hh] at this; cases this
  simp only [d__law_program_t2, dVar, dC, dOp, dUn, dNil, dCons, dTup, dLst, dCB, dTest, dAnd, dOr, dNot, dAndV, dOrV, dNotV, dIfE, dChain, sNext, sSeq, sBreak, sCont, sDrop, sRet, sRetN, sIf, gdName, gdNil, gdCons, gdTup, gdSub, sAsg, dCall, xOf, sFor, dSeq, dRng1, dRng2, dI, dI0, dB0, dAdd, dIsN, dNotN, isNon, dIx, dSetL, dNeg, one, two, dLen1, dListOf1, dTupOf1, dAbs1, dIntOf1, dII, marg, dAppend1, dExtend1, dIsi, isA, dSl, dPart, dNoPart, dCut, dLc, dYes, sRaise, sTry, exBy, sPar2, sPar3, dIsBl, dNotBl, dBM, dBM0, dEq, dNe, dIn, dSgn, dLc2, dEnum, dListRg1, dListRg2, dTupRg1, dTupRg2, dStrOf1, dRep, dLenSet, dstart, fnE_nx, fnE_rt, fnE_ex, Nat.zero_le, Nat.reduceLeDiff, decide_true, decide_false, true_or, or_true, false_or, or_false, decide_eq_true_eq, exists_eq_left', exists_eq_left, exists_eq_right, exists_eq_right', Option.some.injEq, List.cons.injEq, D.int.injEq, D.bl.injEq, D.str.injEq, D.tup.injEq, D.lro.injEq, D.ref.injEq, DO.lst.injEq, and_true, true_and, and_false, false_and, exists_false, exists_const, List.getElem?_cons_zero, List.getElem?_cons_succ, List.map_cons, List.map_nil, List.length_cons, List.length_nil, List.replicate_zero, List.replicate_succ, List.append_nil, List.cons_append, List.nil_append, List.set_cons_zero, List.set_cons_succ, Nat.reduceAdd, Nat.reduceSub, Nat.zero_add, reduceIte, Bool.false_eq_true, reduceCtorEq, if_true, if_false, Bool.not_true, Bool.not_false, exists_and_left]
  refine ⟨a, b, procs, _, rfl, hb4, by omega, p1, big_m (by omega), fun r o r0 r1 hb5 => ?_⟩
  refine ⟨⟨by omega, by omega⟩, ?_⟩
  have hlen : (rngD 0 (1 + r).toNat).length = (1 + r).toNat := rngD_length
  refine forD_ix (fun i s L' => ∃ hs t, PrgI a b pr u h L row (n + 1001 + 10 * i) i size exits hs t L' ∧
    ∃ o6 o12, s = [some (.ref a), some (.int procs), some (.int exits), some (.int size), some (.int marks), some (.ref pr), o6, none, none, some (.ref u), some (.ref h), some (.int t), o12, none]) _ ?_ ?_ _ _
    ⟨[], 0, ⟨hb5, hx4.bag, by rw [updD_ne pra, updD_ne nph, updD_ne npu, updD_same], by rw [updD_ne ua, updD_ne nuh, updD_same]; rfl, by rw [updD_ne ha, updD_same]; rfl, rfl, rfl, by simp, by simp, by simp, by simp⟩, _, _, rfl⟩
  · rintro i d hd s L' P hP ⟨hs, t, I, o6, o12, rfl⟩
    have hi : i < (rngD 0 (1 + r).toNat).length := (List.getElem?_eq_some_iff.mp hd).1
    have hi60 : i < 60 := by omega
    refine ⟨trivial, ?_⟩
    simp only [d__law_program_b2, dVar, dC, dOp, dUn, dNil, dCons, dTup, dLst, dCB, dTest, dAnd, dOr, dNot, dAndV, dOrV, dNotV, dIfE, dChain, sNext, sSeq, sBreak, sCont, sDrop, sRet, sRetN, sIf, gdName, gdNil, gdCons, gdTup, gdSub, sAsg, dCall, xOf, sFor, dSeq, dRng1, dRng2, dI, dI0, dB0, dAdd, dIsN, dNotN, isNon, dIx, dSetL, dNeg, one, two, dLen1, dListOf1, dTupOf1, dAbs1, dIntOf1, dII, marg, dAppend1, dExtend1, dIsi, isA, dSl, dPart, dNoPart, dCut, dLc, dYes, sRaise, sTry, exBy, sPar2, sPar3, dIsBl, dNotBl, dBM, dBM0, dEq, dNe, dIn, dSgn, dLc2, dEnum, dListRg1, dListRg2, dTupRg1, dTupRg2, dStrOf1, dRep, dLenSet, dstart, fnE_nx, fnE_rt, fnE_ex, Nat.zero_le, Nat.reduceLeDiff, decide_true, decide_false, true_or, or_true, false_or, or_false, decide_eq_true_eq, exists_eq_left', exists_eq_left, exists_eq_right, exists_eq_right', Option.some.injEq, List.cons.injEq, D.int.injEq, D.bl.injEq, D.str.injEq, D.tup.injEq, D.lro.injEq, D.ref.injEq, DO.lst.injEq, and_true, true_and, and_false, false_and, exists_false, exists_const, List.getElem?_cons_zero, List.getElem?_cons_succ, List.map_cons, List.map_nil, List.length_cons, List.length_nil, List.replicate_zero, List.replicate_succ, List.append_nil, List.cons_append, List.nil_append, List.set_cons_zero, List.set_cons_succ, Nat.reduceAdd, Nat.reduceSub, Nat.zero_add, reduceIte, Bool.false_eq_true, reduceCtorEq, if_true, if_false, Bool.not_true, Bool.not_false, exists_and_left]
    refine ⟨a, b, size, _, rfl, I.bag, by omega, s1, big_m (by omega), fun m o m0 m1 hb6 => ?_⟩
    simp only [d__law_program_t2b1, d__law_program_t2b2, dVar, dC, dOp, dUn, dNil, dCons, dTup, dLst, dCB, dTest, dAnd, dOr, dNot, dAndV, dOrV, dNotV, dIfE, dChain, sNext, sSeq, sBreak, sCont, sDrop, sRet, sRetN, sIf, gdName, gdNil, gdCons, gdTup, gdSub, sAsg, dCall, xOf, sFor, dSeq, dRng1, dRng2, dI, dI0, dB0, dAdd, dIsN, dNotN, isNon, dIx, dSetL, dNeg, one, two, dLen1, dListOf1, dTupOf1, dAbs1, dIntOf1, dII, marg, dAppend1, dExtend1, dIsi, isA, dSl, dPart, dNoPart, dCut, dLc, dYes, sRaise, sTry, exBy, sPar2, sPar3, dIsBl, dNotBl, dBM, dBM0, dEq, dNe, dIn, dSgn, dLc2, dEnum, dListRg1, dListRg2, dTupRg1, dTupRg2, dStrOf1, dRep, dLenSet, dstart, fnE_nx, fnE_rt, fnE_ex, Nat.zero_le, Nat.reduceLeDiff, decide_true, decide_false, true_or, or_true, false_or, or_false, decide_eq_true_eq, exists_eq_left', exists_eq_left, exists_eq_right, exists_eq_right', Option.some.injEq, List.cons.injEq, D.int.injEq, D.bl.injEq, D.str.injEq, D.tup.injEq, D.lro.injEq, D.ref.injEq, DO.lst.injEq, and_true, true_and, and_false, false_and, exists_false, exists_const, List.getElem?_cons_zero, List.getElem?_cons_succ, List.map_cons, List.map_nil, List.length_cons, List.length_nil, List.replicate_zero, List.replicate_succ, List.append_nil, List.cons_append, List.nil_append, List.set_cons_zero, List.set_cons_succ, Nat.reduceAdd, Nat.reduceSub, Nat.zero_add, reduceIte, Bool.false_eq_true, reduceCtorEq, if_true, if_false, Bool.not_true, Bool.not_false, exists_and_left]
    have hu6 : upd L' a o u = some (.lst ((hs.map (·.nm)).map .str)) := by rw [updD_ne ua]; exact I.u
    have hh6 : upd L' a o h = some (.lst (hs.map hdD)) := by rw [updD_ne ha]; exact I.h
    refine ⟨⟨_, lstOf_ref hh6⟩, ?_⟩
    refine ⟨a, b, u, _, hs.map (·.nm), rfl, hb6, by omega, ua, ub, hu6, by rw [List.length_map, I.len]; omega, fun z o7 z1 z2 hb7 => ?_⟩
    rw [updD_upd] at hb7 ⊢
    refine ⟨a, b, exits, _, rfl, hb7, by omega, e1, big_m (by omega), fun x o8 x0 x1 hb8 => ?_⟩
    simp only [dVar, dC, dOp, dUn, dNil, dCons, dTup, dLst, dCB, dTest, dAnd, dOr, dNot, dAndV, dOrV, dNotV, dIfE, dChain, sNext, sSeq, sBreak, sCont, sDrop, sRet, sRetN, sIf, gdName, gdNil, gdCons, gdTup, gdSub, sAsg, dCall, xOf, sFor, dSeq, dRng1, dRng2, dI, dI0, dB0, dAdd, dIsN, dNotN, isNon, dIx, dSetL, dNeg, one, two, dLen1, dListOf1, dTupOf1, dAbs1, dIntOf1, dII, marg, dAppend1, dExtend1, dIsi, isA, dSl, dPart, dNoPart, dCut, dLc, dYes, sRaise, sTry, exBy, sPar2, sPar3, dIsBl, dNotBl, dBM, dBM0, dEq, dNe, dIn, dSgn, dLc2, dEnum, dListRg1, dListRg2, dTupRg1, dTupRg2, dStrOf1, dRep, dLenSet, dstart, fnE_nx, fnE_rt, fnE_ex, Nat.zero_le, Nat.reduceLeDiff, decide_true, decide_false, true_or, or_true, false_or, or_false, decide_eq_true_eq, exists_eq_left', exists_eq_left, exists_eq_right, exists_eq_right', Option.some.injEq, List.cons.injEq, D.int.injEq, D.bl.injEq, D.str.injEq, D.tup.injEq, D.lro.injEq, D.ref.injEq, DO.lst.injEq, and_true, true_and, and_false, false_and, exists_false, exists_const, List.getElem?_cons_zero, List.getElem?_cons_succ, List.map_cons, List.map_nil, List.length_cons, List.length_nil, List.replicate_zero, List.replicate_succ, List.append_nil, List.cons_append, List.nil_append, List.set_cons_zero, List.set_cons_succ, Nat.reduceAdd, Nat.reduceSub, Nat.zero_add, reduceIte, Bool.false_eq_true, reduceCtorEq, if_true, if_false, Bool.not_true, Bool.not_false, exists_and_left]
    have hh8 : upd (upd (upd L' a o7) u (.lst ((hs.map (·.nm) ++ [z]).map .str))) a o8 h = some (.lst (hs.map hdD)) := by rw [updD_ne ha, updD_ne nuh.symm, updD_ne ha]; exact I.h
    refine ⟨_, hh8, by rw [List.length_map, I.len]; omega, ?_⟩
    have hmul : ((i + 1 : Nat) : Int) * size = i * size + size := by push_cast; rw [Int.add_mul, Int.one_mul]
    refine hP _ _ ⟨hs ++ [⟨z, 1 + x, t, 1 + m⟩], t + (1 + m), ⟨(hb8.off ha hhb).mono (by omega), ?_, ?_, ?_, ?_, ?_, ?_, ?_, ?_, ?_, ?_⟩, _, _, rfl⟩
    · exact ((I.ext.bag.own fu).bag).own fh
    · rw [updD_ne nph, updD_ne pra, updD_ne npu, updD_ne pra]; exact I.row
    · rw [updD_ne nuh, updD_ne ua, updD_same]; simp
    · rw [updD_same]; simp [hdD]
    · simp [I.len]
    · exact I.from_.snoc rfl (by show 1 ≤ 1 + m; omega) (by show 1 + m ≤ 4000; omega) (by show 1 ≤ 1 + x; omega) (by show 1 + x ≤ 24; omega)
    · have := I.tot
      omega
    · rw [List.map_append, List.nodup_append]
      refine ⟨I.nd, by simp, fun y hy w hw e => ?_⟩
      have : w = z := by simpa using hw
      subst this e
      exact z2 hy
    · intro y hy
      rcases List.mem_append.mp hy with hy | hy
      · exact I.low y hy
      · have : y = ⟨z, 1 + x, t, 1 + m⟩ := by simpa using hy
        subst this; exact z1
    · intro y hy
      rcases List.mem_append.mp hy with hy | hy
      · exact I.lim y hy
      · have : y = ⟨z, 1 + x, t, 1 + m⟩ := by simpa using hy
        subst this
        exact ⟨by show 1 + x ≤ exits; omega, by show 1 + m ≤ size; omega⟩
  · rintro s L' ⟨hs, t, I, o6, o12, rfl⟩
    refine ⟨trivial, ?_⟩
    rw [hlen] at I
    have hl : hs.length = (1 + r).toNat := I.len
    have ht : t ≤ 4000 := by
      have g1 := I.tot
      have g2 : (((1 + r).toNat : Nat) : Int) * size ≤ procs * size := Int.mul_le_mul_of_nonneg_right (by omega) (by omega)
      omega
    have hexl := I.from_.le
    simp only [d__law_program_t3, dVar, dC, dOp, dUn, dNil, dCons, dTup, dLst, dCB, dTest, dAnd, dOr, dNot, dAndV, dOrV, dNotV, dIfE, dChain, sNext, sSeq, sBreak, sCont, sDrop, sRet, sRetN, sIf, gdName, gdNil, gdCons, gdTup, gdSub, sAsg, dCall, xOf, sFor, dSeq, dRng1, dRng2, dI, dI0, dB0, dAdd, dIsN, dNotN, isNon, dIx, dSetL, dNeg, one, two, dLen1, dListOf1, dTupOf1, dAbs1, dIntOf1, dII, marg, dAppend1, dExtend1, dIsi, isA, dSl, dPart, dNoPart, dCut, dLc, dYes, sRaise, sTry, exBy, sPar2, sPar3, dIsBl, dNotBl, dBM, dBM0, dEq, dNe, dIn, dSgn, dLc2, dEnum, dListRg1, dListRg2, dTupRg1, dTupRg2, dStrOf1, dRep, dLenSet, dstart, fnE_nx, fnE_rt, fnE_ex, Nat.zero_le, Nat.reduceLeDiff, decide_true, decide_false, true_or, or_true, false_or, or_false, decide_eq_true_eq, exists_eq_left', exists_eq_left, exists_eq_right, exists_eq_right', Option.some.injEq, List.cons.injEq, D.int.injEq, D.bl.injEq, D.str.injEq, D.tup.injEq, D.lro.injEq, D.ref.injEq, DO.lst.injEq, and_true, true_and, and_false, false_and, exists_false, exists_const, List.getElem?_cons_zero, List.getElem?_cons_succ, List.map_cons, List.map_nil, List.length_cons, List.length_nil, List.replicate_zero, List.replicate_succ, List.append_nil, List.cons_append, List.nil_append, List.set_cons_zero, List.set_cons_succ, Nat.reduceAdd, Nat.reduceSub, Nat.zero_add, reduceIte, Bool.false_eq_true, reduceCtorEq, if_true, if_false, Bool.not_true, Bool.not_false, exists_and_left]
    intro f hf
    obtain ⟨fa, fb, hb9⟩ := I.bag.new (o := .lst []) hf
    have nhf : h ≠ f := fresh_ne I.h hf
    have npf : pr ≠ f := fresh_ne I.row hf
    have ff : L f = none := by
      cases e : L f with
      | none => rfl
      | some v => have := I.ext f v fa e; rw [hf] at this; cases this
    simp only [d__law_program_t4, dVar, dC, dOp, dUn, dNil, dCons, dTup, dLst, dCB, dTest, dAnd, dOr, dNot, dAndV, dOrV, dNotV, dIfE, dChain, sNext, sSeq, sBreak, sCont, sDrop, sRet, sRetN, sIf, gdName, gdNil, gdCons, gdTup, gdSub, sAsg, dCall, xOf, sFor, dSeq, dRng1, dRng2, dI, dI0, dB0, dAdd, dIsN, dNotN, isNon, dIx, dSetL, dNeg, one, two, dLen1, dListOf1, dTupOf1, dAbs1, dIntOf1, dII, marg, dAppend1, dExtend1, dIsi, isA, dSl, dPart, dNoPart, dCut, dLc, dYes, sRaise, sTry, exBy, sPar2, sPar3, dIsBl, dNotBl, dBM, dBM0, dEq, dNe, dIn, dSgn, dLc2, dEnum, dListRg1, dListRg2, dTupRg1, dTupRg2, dStrOf1, dRep, dLenSet, dstart, fnE_nx, fnE_rt, fnE_ex, Nat.zero_le, Nat.reduceLeDiff, decide_true, decide_false, true_or, or_true, false_or, or_false, decide_eq_true_eq, exists_eq_left', exists_eq_left, exists_eq_right, exists_eq_right', Option.some.injEq, List.cons.injEq, D.int.injEq, D.bl.injEq, D.str.injEq, D.tup.injEq, D.lro.injEq, D.ref.injEq, DO.lst.injEq, and_true, true_and, and_false, false_and, exists_false, exists_const, List.getElem?_cons_zero, List.getElem?_cons_succ, List.map_cons, List.map_nil, List.length_cons, List.length_nil, List.replicate_zero, List.replicate_succ, List.append_nil, List.cons_append, List.nil_append, List.set_cons_zero, List.set_cons_succ, Nat.reduceAdd, Nat.reduceSub, Nat.zero_add, reduceIte, Bool.false_eq_true, reduceCtorEq, if_true, if_false, Bool.not_true, Bool.not_false, exists_and_left]
    have hhf : upd L' f (.lst []) h = some (.lst (hs.map hdD)) := by rw [updD_ne nhf]; exact I.h
    refine ⟨_, _, isSeq_ref hhf, ?_⟩
    refine forD_ix (fun i s L' => (∃ es, PrgJ a b pr h f L row hs es (n + 2000 + 41 * (exL (hs.take i)).length) L' ∧ Ents (exL hs) (hs.take i) es) ∧
      ∃ o6 o8 o9 o12 o13, s = [some (.ref a), some (.int procs), some (.int exits), some (.int size), some (.int marks), some (.ref pr), o6, some (.ref f), o8, o9, some (.ref h), some (.int t), o12, o13]) _ ?_ ?_ _ _
      ⟨⟨[], ⟨hb9.mono (by omega), I.ext.own ff, by rw [updD_ne npf]; exact I.row, hhf, updD_same⟩, .nil⟩, _, _, _, _, _, rfl⟩
    · rintro i d hd s L' P hP ⟨⟨es, J, r⟩, o6, o8, o9, o12, o13, rfl⟩
      rw [List.getElem?_map] at hd
      obtain ⟨x, hx, rfl⟩ := Option.map_eq_some_iff.mp hd
      have hxm : x ∈ hs := List.mem_of_getElem? hx
      obtain ⟨b1, b2, b3, b4, b5, b6⟩ := I.from_.mem x hxm
      refine ⟨J.h, ?_⟩
      have hfu := exL_take hx
      have hfl := exL_le hs (i + 1)
      rw [hfu, List.length_append, List.length_replicate] at hfl
      simp only [d__law_program_b4, dVar, dC, dOp, dUn, dNil, dCons, dTup, dLst, dCB, dTest, dAnd, dOr, dNot, dAndV, dOrV, dNotV, dIfE, dChain, sNext, sSeq, sBreak, sCont, sDrop, sRet, sRetN, sIf, gdName, gdNil, gdCons, gdTup, gdSub, sAsg, dCall, xOf, sFor, dSeq, dRng1, dRng2, dI, dI0, dB0, dAdd, dIsN, dNotN, isNon, dIx, dSetL, dNeg, one, two, dLen1, dListOf1, dTupOf1, dAbs1, dIntOf1, dII, marg, dAppend1, dExtend1, dIsi, isA, dSl, dPart, dNoPart, dCut, dLc, dYes, sRaise, sTry, exBy, sPar2, sPar3, dIsBl, dNotBl, dBM, dBM0, dEq, dNe, dIn, dSgn, dLc2, dEnum, dListRg1, dListRg2, dTupRg1, dTupRg2, dStrOf1, dRep, dLenSet, dstart, fnE_nx, fnE_rt, fnE_ex, Nat.zero_le, Nat.reduceLeDiff, decide_true, decide_false, true_or, or_true, false_or, or_false, decide_eq_true_eq, exists_eq_left', exists_eq_left, exists_eq_right, exists_eq_right', Option.some.injEq, List.cons.injEq, D.int.injEq, D.bl.injEq, D.str.injEq, D.tup.injEq, D.lro.injEq, D.ref.injEq, DO.lst.injEq, and_true, true_and, and_false, false_and, exists_false, exists_const, List.getElem?_cons_zero, List.getElem?_cons_succ, List.map_cons, List.map_nil, List.length_cons, List.length_nil, List.replicate_zero, List.replicate_succ, List.append_nil, List.cons_append, List.nil_append, List.set_cons_zero, List.set_cons_succ, Nat.reduceAdd, Nat.reduceSub, Nat.zero_add, reduceIte, Bool.false_eq_true, reduceCtorEq, if_true, if_false, Bool.not_true, Bool.not_false, exists_and_left, hdD, atI3, dwipe]
      refine ⟨⟨by omega, by omega⟩, ?_⟩
      refine lcD_ind (fun rest acc L3 => PrgJ a b pr h f L row hs es (n + 2000 + 41 * (exL (hs.take i)).length + 41 * acc.length) L3 ∧ acc.length + rest.length = x.mn.toNat ∧ ∀ y, y ∈ acc → isPlc y x.st (x.st + x.mn) (exL hs) = true ∧ Pl 3 y) ?_ ?_ _ _ _ ⟨J, by simp [rngD_length], by simp⟩
      · rintro d rest acc L3 P2 hP2 ⟨J3, hal, hin⟩
        have hal' : acc.length < x.mn.toNat := by simp at hal; omega
        refine ⟨trivial, ?_⟩
        simp only [dVar, dC, dOp, dUn, dNil, dCons, dTup, dLst, dCB, dTest, dAnd, dOr, dNot, dAndV, dOrV, dNotV, dIfE, dChain, sNext, sSeq, sBreak, sCont, sDrop, sRet, sRetN, sIf, gdName, gdNil, gdCons, gdTup, gdSub, sAsg, dCall, xOf, sFor, dSeq, dRng1, dRng2, dI, dI0, dB0, dAdd, dIsN, dNotN, isNon, dIx, dSetL, dNeg, one, two, dLen1, dListOf1, dTupOf1, dAbs1, dIntOf1, dII, marg, dAppend1, dExtend1, dIsi, isA, dSl, dPart, dNoPart, dCut, dLc, dYes, sRaise, sTry, exBy, sPar2, sPar3, dIsBl, dNotBl, dBM, dBM0, dEq, dNe, dIn, dSgn, dLc2, dEnum, dListRg1, dListRg2, dTupRg1, dTupRg2, dStrOf1, dRep, dLenSet, dstart, fnE_nx, fnE_rt, fnE_ex, Nat.zero_le, Nat.reduceLeDiff, decide_true, decide_false, true_or, or_true, false_or, or_false, decide_eq_true_eq, exists_eq_left', exists_eq_left, exists_eq_right, exists_eq_right', Option.some.injEq, List.cons.injEq, D.int.injEq, D.bl.injEq, D.str.injEq, D.tup.injEq, D.lro.injEq, D.ref.injEq, DO.lst.injEq, and_true, true_and, and_false, false_and, exists_false, exists_const, List.getElem?_cons_zero, List.getElem?_cons_succ, List.map_cons, List.map_nil, List.length_cons, List.length_nil, List.replicate_zero, List.replicate_succ, List.append_nil, List.cons_append, List.nil_append, List.set_cons_zero, List.set_cons_succ, Nat.reduceAdd, Nat.reduceSub, Nat.zero_add, reduceIte, Bool.false_eq_true, reduceCtorEq, if_true, if_false, Bool.not_true, Bool.not_false, exists_and_left]
        refine ⟨a, b, marks, _, rfl, J3.bag, by omega, k1, big_m (by omega), fun m o m0 m1 hb10 => ?_⟩
        obtain ⟨v, hv, hvm⟩ := atI_ints (ns := row) m0 (by omega)
        refine ⟨row.map .int, by rw [updD_ne pra]; exact J3.row, _, hv, ?_⟩
        refine ⟨a, b, h, _, hs, x, t, rfl, hb10, by omega, ha, hhb, by rw [updD_ne ha]; exact J3.h, I.from_, hxm, by omega, by omega, fun w o2 w1 w2 hb11 => ?_⟩
        rw [updD_upd] at hb11 ⊢
        have hv2 := hrow v hvm
        refine ⟨by omega, hP2 _ _ ⟨⟨hb11.mono (by simp; omega), J3.ext.bag, by rw [updD_ne pra]; exact J3.row, by rw [updD_ne ha]; exact J3.h, by rw [updD_ne fa]; exact J3.f⟩, by simp at hal ⊢; omega, fun y hy => ?_⟩⟩
        rcases List.mem_append.mp hy with hy | hy
        · exact hin y hy
        · have : y = .tup [.int v, w] := by simpa using hy
          subst this
          refine ⟨?_, pl_2 pl_int w2⟩
          have hex := I.from_.at_ x hxm
          rw [Int.sub_zero] at hex
          show (wthn (.int v) 0 9 && (isMove w x.st (x.st + x.mn) || isCall w x.st (x.st + x.mn) (exL hs) || isExit w ((exL hs).getD x.st.toNat 0))) = true
          rw [hex, wthn_of hv2.1 hv2.2]
          exact w1
      · rintro acc L3 ⟨J3, hal, hin⟩
        have hal : acc.length = x.mn.toNat := by simpa using hal
        refine ⟨trivial, fun p3 hp3 => ?_⟩
        obtain ⟨p3a, p3b, hb12⟩ := J3.bag.new (o := .lst acc) hp3
        have n1 : pr ≠ p3 := fresh_ne J3.row hp3
        have n2 : h ≠ p3 := fresh_ne J3.h hp3
        have n3 : f ≠ p3 := fresh_ne J3.f hp3
        have hf3 : upd L3 p3 (.lst acc) f = some (.lst es) := by rw [updD_ne n3]; exact J3.f
        simp only [d__law_program_t4b1, dVar, dC, dOp, dUn, dNil, dCons, dTup, dLst, dCB, dTest, dAnd, dOr, dNot, dAndV, dOrV, dNotV, dIfE, dChain, sNext, sSeq, sBreak, sCont, sDrop, sRet, sRetN, sIf, gdName, gdNil, gdCons, gdTup, gdSub, sAsg, dCall, xOf, sFor, dSeq, dRng1, dRng2, dI, dI0, dB0, dAdd, dIsN, dNotN, isNon, dIx, dSetL, dNeg, one, two, dLen1, dListOf1, dTupOf1, dAbs1, dIntOf1, dII, marg, dAppend1, dExtend1, dIsi, isA, dSl, dPart, dNoPart, dCut, dLc, dYes, sRaise, sTry, exBy, sPar2, sPar3, dIsBl, dNotBl, dBM, dBM0, dEq, dNe, dIn, dSgn, dLc2, dEnum, dListRg1, dListRg2, dTupRg1, dTupRg2, dStrOf1, dRep, dLenSet, dstart, fnE_nx, fnE_rt, fnE_ex, Nat.zero_le, Nat.reduceLeDiff, decide_true, decide_false, true_or, or_true, false_or, or_false, decide_eq_true_eq, exists_eq_left', exists_eq_left, exists_eq_right, exists_eq_right', Option.some.injEq, List.cons.injEq, D.int.injEq, D.bl.injEq, D.str.injEq, D.tup.injEq, D.lro.injEq, D.ref.injEq, DO.lst.injEq, and_true, true_and, and_false, false_and, exists_false, exists_const, List.getElem?_cons_zero, List.getElem?_cons_succ, List.map_cons, List.map_nil, List.length_cons, List.length_nil, List.replicate_zero, List.replicate_succ, List.append_nil, List.cons_append, List.nil_append, List.set_cons_zero, List.set_cons_succ, Nat.reduceAdd, Nat.reduceSub, Nat.zero_add, reduceIte, Bool.false_eq_true, reduceCtorEq, if_true, if_false, Bool.not_true, Bool.not_false, exists_and_left, atI0, atI1, updD_same]
        refine ⟨⟨_, lstOf_ref hf3⟩, ?_⟩
        have hel : es.length ≤ 60 := by rw [r.len, List.length_take]; omega
        refine ⟨_, hf3, by omega, hP _ _ ⟨⟨es ++ [.tup [.str x.nm, .int x.ex, .tup acc]], ⟨(hb12.off fa fb).mono (by rw [hfu, List.length_append, List.length_replicate]; omega), (J3.ext.new hp3).own ff, by rw [updD_ne npf, updD_ne n1]; exact J3.row, by rw [updD_ne nhf, updD_ne n2]; exact J3.h, updD_same⟩, ?_⟩, _, _, _, _, _, rfl⟩⟩
        rw [List.take_succ, hx]
        refine r.snoc ⟨rfl, by show (acc.length : Int) = x.mn; omega, List.all_eq_true.mpr fun y hy => (hin y hy).1, pl_3 (pl_str (by have := lowName_len (I.low x hxm); omega)) pl_int (pl_tup (by omega) fun y hy => (hin y hy).2)⟩
    · rintro s L' ⟨⟨es, J, r⟩, o6, o8, o9, o12, o13, rfl⟩
      rw [List.length_map, List.take_length] at J r
      refine ⟨J.h, ?_⟩
      simp only [d__law_program_t5, dVar, dC, dOp, dUn, dNil, dCons, dTup, dLst, dCB, dTest, dAnd, dOr, dNot, dAndV, dOrV, dNotV, dIfE, dChain, sNext, sSeq, sBreak, sCont, sDrop, sRet, sRetN, sIf, gdName, gdNil, gdCons, gdTup, gdSub, sAsg, dCall, xOf, sFor, dSeq, dRng1, dRng2, dI, dI0, dB0, dAdd, dIsN, dNotN, isNon, dIx, dSetL, dNeg, one, two, dLen1, dListOf1, dTupOf1, dAbs1, dIntOf1, dII, marg, dAppend1, dExtend1, dIsi, isA, dSl, dPart, dNoPart, dCut, dLc, dYes, sRaise, sTry, exBy, sPar2, sPar3, dIsBl, dNotBl, dBM, dBM0, dEq, dNe, dIn, dSgn, dLc2, dEnum, dListRg1, dListRg2, dTupRg1, dTupRg2, dStrOf1, dRep, dLenSet, dstart, fnE_nx, fnE_rt, fnE_ex, Nat.zero_le, Nat.reduceLeDiff, decide_true, decide_false, true_or, or_true, false_or, or_false, decide_eq_true_eq, exists_eq_left', exists_eq_left, exists_eq_right, exists_eq_right', Option.some.injEq, List.cons.injEq, D.int.injEq, D.bl.injEq, D.str.injEq, D.tup.injEq, D.lro.injEq, D.ref.injEq, DO.lst.injEq, and_true, true_and, and_false, false_and, exists_false, exists_const, List.getElem?_cons_zero, List.getElem?_cons_succ, List.map_cons, List.map_nil, List.length_cons, List.length_nil, List.replicate_zero, List.replicate_succ, List.append_nil, List.cons_append, List.nil_append, List.set_cons_zero, List.set_cons_succ, Nat.reduceAdd, Nat.reduceSub, Nat.zero_add, reduceIte, Bool.false_eq_true, reduceCtorEq, if_true, if_false, Bool.not_true, Bool.not_false, exists_and_left]
      obtain ⟨o, hle, hb13⟩ := J.ext.back hb J.bag
      refine ⟨_, J.f, _, hle, q _ o (gen_ok r I.from_ ht (by omega) (by omega) p2 I.nd I.low I.lim) (hb13.mono ?_)⟩
      have := hexl.2
      omega
end D2

set_option Elab.async false
set_option linter.all false
set_option maxRecDepth 100000
set_option maxHeartbeats 1000000
namespace D2
open PySem PySem.Spec PyProof.Rows L2
/-! ### what a program holds -/
theorem GenProg.tm {d : D} {p e s : Int} (h : GenProg d p e s) (L : DH) : Tm L d := h.pl.tm (by decide) L
structure Prg (es : List D) : Prop where
  hd : ∀ e, e ∈ es → isHead e = true
  len : 1 ≤ es.length ∧ es.length ≤ 60
  sum : (es.flatMap plD).length ≤ 4000
theorem prg_of {d : D} (h : isProg d = true) : ∃ es, d = .tup es ∧ Prg es := by
  unfold isProg at h
  rw [Bool.and_eq_true] at h
  obtain ⟨es, rfl, h1, h2, h3, h4, h5⟩ := areHeads_of h.1
  rw [sum_len] at h5
  exact ⟨es, rfl, h3, ⟨h1, h2⟩, by omega⟩
theorem Prg.hd3 {es : List D} (h : Prg es) {e : D} (he : e ∈ es) : Hd3 e := Hd3.of (h.hd e he)
def sp_flat : SpD := fun ds L Q _ => ∃ es, ds = [.tup es] ∧ Prg es ∧ ∀ p, L p = none → Q (.ref p) (upd L p (.lst (es.flatMap plD)))
theorem len_flat : ∀ as L Q E, sp_flat as L Q E → as.length = 1 := by rintro _ L Q E ⟨d, rfl, _⟩; rfl
def d_flat : DS :=
  (sRet (dLc2 (dSeq (dVar 0)) (gdName 1) dYes (dSeq (dOp dIx (dVar 1) (dC (.int 2)))) (gdName 2) dYes (dVar 2) [1, 2] [2]))

theorem pure_flat : ∀ as L Q E, sp_flat as L Q E → d_flat (fnEnds Q E) (dstart 3 as) L := by
  rintro as L Q E ⟨es, rfl, hp, q⟩
  simp only [d_flat, dVar, dC, dOp, dUn, dNil, dCons, dTup, dLst, dCB, dTest, dAnd, dOr, dNot, dAndV, dOrV, dNotV, dIfE, dChain, sNext, sSeq, sBreak, sCont, sDrop, sRet, sRetN, sIf, gdName, gdNil, gdCons, gdTup, gdSub, sAsg, dCall, xOf, sFor, dSeq, dRng1, dRng2, dI, dI0, dB0, dAdd, dIsN, dNotN, isNon, dIx, dSetL, dNeg, one, two, dLen1, dListOf1, dTupOf1, dAbs1, dIntOf1, dII, marg, dAppend1, dExtend1, dIsi, isA, dSl, dPart, dNoPart, dCut, dLc, dYes, sRaise, sTry, exBy, sPar2, sPar3, dIsBl, dNotBl, dBM, dBM0, dEq, dNe, dIn, dSgn, dLc2, dEnum, dListRg1, dListRg2, dTupRg1, dTupRg2, dStrOf1, dRep, dLenSet, dstart, fnE_nx, fnE_rt, fnE_ex, Nat.zero_le, Nat.reduceLeDiff, decide_true, decide_false, true_or, or_true, false_or, or_false, decide_eq_true_eq, exists_eq_left', exists_eq_left, exists_eq_right, exists_eq_right', Option.some.injEq, List.cons.injEq, D.int.injEq, D.bl.injEq, D.str.injEq, D.tup.injEq, D.lro.injEq, D.ref.injEq, DO.lst.injEq, and_true, true_and, and_false, false_and, exists_false, exists_const, List.getElem?_cons_zero, List.getElem?_cons_succ, List.map_cons, List.map_nil, List.length_cons, List.length_nil, List.replicate_zero, List.replicate_succ, List.append_nil, List.cons_append, List.nil_append, List.set_cons_zero, List.set_cons_succ, Nat.reduceAdd, Nat.reduceSub, Nat.zero_add, reduceIte, Bool.false_eq_true, reduceCtorEq, if_true, if_false, Bool.not_true, Bool.not_false, exists_and_left, dwipe]
  refine ⟨es, _, rfl, ?_⟩
  refine lc2D_map plD L trivial es (fun d hd acc Kt hl hK Kf => ?_) [] (by have := hp.sum; simp only [List.length_nil]; omega) ?_
  · obtain ⟨z, x, ps, rfl⟩ := isHead_ex (hp.hd d hd)
    simp only [dVar, dC, dOp, dUn, dNil, dCons, dTup, dLst, dCB, dTest, dAnd, dOr, dNot, dAndV, dOrV, dNotV, dIfE, dChain, sNext, sSeq, sBreak, sCont, sDrop, sRet, sRetN, sIf, gdName, gdNil, gdCons, gdTup, gdSub, sAsg, dCall, xOf, sFor, dSeq, dRng1, dRng2, dI, dI0, dB0, dAdd, dIsN, dNotN, isNon, dIx, dSetL, dNeg, one, two, dLen1, dListOf1, dTupOf1, dAbs1, dIntOf1, dII, marg, dAppend1, dExtend1, dIsi, isA, dSl, dPart, dNoPart, dCut, dLc, dYes, sRaise, sTry, exBy, sPar2, sPar3, dIsBl, dNotBl, dBM, dBM0, dEq, dNe, dIn, dSgn, dLc2, dEnum, dListRg1, dListRg2, dTupRg1, dTupRg2, dStrOf1, dRep, dLenSet, dstart, fnE_nx, fnE_rt, fnE_ex, Nat.zero_le, Nat.reduceLeDiff, decide_true, decide_false, true_or, or_true, false_or, or_false, decide_eq_true_eq, exists_eq_left', exists_eq_left, exists_eq_right, exists_eq_right', Option.some.injEq, List.cons.injEq, D.int.injEq, D.bl.injEq, D.str.injEq, D.tup.injEq, D.lro.injEq, D.ref.injEq, DO.lst.injEq, and_true, true_and, and_false, false_and, exists_false, exists_const, List.getElem?_cons_zero, List.getElem?_cons_succ, List.map_cons, List.map_nil, List.length_cons, List.length_nil, List.replicate_zero, List.replicate_succ, List.append_nil, List.cons_append, List.nil_append, List.set_cons_zero, List.set_cons_succ, Nat.reduceAdd, Nat.reduceSub, Nat.zero_add, reduceIte, Bool.false_eq_true, reduceCtorEq, if_true, if_false, Bool.not_true, Bool.not_false, exists_and_left, dwipe, atI2]
    refine ⟨_, _, rfl, ?_⟩
    refine lcD_map (fun d => d) L trivial ps (fun d hd Kt hK Kf => ?_) acc hl (by simpa [plD] using hK)
    simp only [dVar, dC, dOp, dUn, dNil, dCons, dTup, dLst, dCB, dTest, dAnd, dOr, dNot, dAndV, dOrV, dNotV, dIfE, dChain, sNext, sSeq, sBreak, sCont, sDrop, sRet, sRetN, sIf, gdName, gdNil, gdCons, gdTup, gdSub, sAsg, dCall, xOf, sFor, dSeq, dRng1, dRng2, dI, dI0, dB0, dAdd, dIsN, dNotN, isNon, dIx, dSetL, dNeg, one, two, dLen1, dListOf1, dTupOf1, dAbs1, dIntOf1, dII, marg, dAppend1, dExtend1, dIsi, isA, dSl, dPart, dNoPart, dCut, dLc, dYes, sRaise, sTry, exBy, sPar2, sPar3, dIsBl, dNotBl, dBM, dBM0, dEq, dNe, dIn, dSgn, dLc2, dEnum, dListRg1, dListRg2, dTupRg1, dTupRg2, dStrOf1, dRep, dLenSet, dstart, fnE_nx, fnE_rt, fnE_ex, Nat.zero_le, Nat.reduceLeDiff, decide_true, decide_false, true_or, or_true, false_or, or_false, decide_eq_true_eq, exists_eq_left', exists_eq_left, exists_eq_right, exists_eq_right', Option.some.injEq, List.cons.injEq, D.int.injEq, D.bl.injEq, D.str.injEq, D.tup.injEq, D.lro.injEq, D.ref.injEq, DO.lst.injEq, and_true, true_and, and_false, false_and, exists_false, exists_const, List.getElem?_cons_zero, List.getElem?_cons_succ, List.map_cons, List.map_nil, List.length_cons, List.length_nil, List.replicate_zero, List.replicate_succ, List.append_nil, List.cons_append, List.nil_append, List.set_cons_zero, List.set_cons_succ, Nat.reduceAdd, Nat.reduceSub, Nat.zero_add, reduceIte, Bool.false_eq_true, reduceCtorEq, if_true, if_false, Bool.not_true, Bool.not_false, exists_and_left]
    exact hK
  · intro p hp
    rw [List.nil_append]
    exact endOf (q p hp)
def ownI : Nat → List D → List Int
  | _, [] => []
  | i, e :: es => List.replicate (plD e).length (i : Int) ++ ownI (i + 1) es
theorem ownI_len : ∀ (i : Nat) (es : List D), (ownI i es).length = (es.flatMap plD).length
  | _, [] => rfl
  | i, e :: es => by simp only [ownI, List.length_append, List.length_replicate, List.flatMap_cons, ownI_len (i + 1) es]
def sp_owner_table : SpD := fun ds L Q _ => ∃ es, ds = [.tup es] ∧ Prg es ∧ ∀ p, L p = none → Q (.ref p) (upd L p (.lst ((ownI 0 es).map .int)))
theorem len_owner_table : ∀ as L Q E, sp_owner_table as L Q E → as.length = 1 := by rintro _ L Q E ⟨d, rfl, _⟩; rfl
def d_owner_table : DS :=
  (sRet (dLc2 (dEnum (dCons (dVar 0) dNil)) (gdTup 2 (gdCons (gdName 2) (gdCons (gdName 3) gdNil))) dYes (dSeq (dOp dIx (dVar 3) (dC (.int 2)))) (gdName 1) dYes (dVar 2) [2, 3, 1] [1]))

theorem own_flat : ∀ (i : Nat) (es : List D), (enumD i es).flatMap (fun d => match d with
    | .tup [.int k, e] => (plD e).map fun _ => D.int k
    | _ => []) = (ownI i es).map .int
  | _, [] => rfl
  | i, e :: es => by
    show ((plD e).map fun _ => D.int (i : Nat)) ++ (enumD (i + 1) es).flatMap _ = _
    rw [own_flat (i + 1) es]
    rw [ownI, List.map_append, List.map_replicate, List.map_const']
theorem enumD_mem {es : List D} {i : Nat} {x : D} (h : x ∈ enumD i es) : ∃ k e, e ∈ es ∧ x = .tup [.int k, e] := by
  obtain ⟨j, hj⟩ := List.getElem?_of_mem h
  obtain ⟨d, h1, h2⟩ := enumD_get i j es x hj
  exact ⟨_, d, List.mem_of_getElem? h1, h2⟩
theorem pure_owner_table : ∀ as L Q E, sp_owner_table as L Q E → d_owner_table (fnEnds Q E) (dstart 4 as) L := by
  rintro as L Q E ⟨es, rfl, hp, q⟩
  simp only [d_owner_table, dVar, dC, dOp, dUn, dNil, dCons, dTup, dLst, dCB, dTest, dAnd, dOr, dNot, dAndV, dOrV, dNotV, dIfE, dChain, sNext, sSeq, sBreak, sCont, sDrop, sRet, sRetN, sIf, gdName, gdNil, gdCons, gdTup, gdSub, sAsg, dCall, xOf, sFor, dSeq, dRng1, dRng2, dI, dI0, dB0, dAdd, dIsN, dNotN, isNon, dIx, dSetL, dNeg, one, two, dLen1, dListOf1, dTupOf1, dAbs1, dIntOf1, dII, marg, dAppend1, dExtend1, dIsi, isA, dSl, dPart, dNoPart, dCut, dLc, dYes, sRaise, sTry, exBy, sPar2, sPar3, dIsBl, dNotBl, dBM, dBM0, dEq, dNe, dIn, dSgn, dLc2, dEnum, dListRg1, dListRg2, dTupRg1, dTupRg2, dStrOf1, dRep, dLenSet, dstart, fnE_nx, fnE_rt, fnE_ex, Nat.zero_le, Nat.reduceLeDiff, decide_true, decide_false, true_or, or_true, false_or, or_false, decide_eq_true_eq, exists_eq_left', exists_eq_left, exists_eq_right, exists_eq_right', Option.some.injEq, List.cons.injEq, D.int.injEq, D.bl.injEq, D.str.injEq, D.tup.injEq, D.lro.injEq, D.ref.injEq, DO.lst.injEq, and_true, true_and, and_false, false_and, exists_false, exists_const, List.getElem?_cons_zero, List.getElem?_cons_succ, List.map_cons, List.map_nil, List.length_cons, List.length_nil, List.replicate_zero, List.replicate_succ, List.append_nil, List.cons_append, List.nil_append, List.set_cons_zero, List.set_cons_succ, Nat.reduceAdd, Nat.reduceSub, Nat.zero_add, reduceIte, Bool.false_eq_true, reduceCtorEq, if_true, if_false, Bool.not_true, Bool.not_false, exists_and_left, dwipe]
  refine ⟨es, _, rfl, ?_⟩
  refine lc2D_map (fun d => match d with
    | .tup [.int k, e] => (plD e).map fun _ => D.int k
    | _ => []) L trivial _ (fun d hd acc Kt hl hK Kf => ?_) [] (by rw [own_flat, List.length_map, ownI_len]; have := hp.sum; simp only [List.length_nil]; omega) ?_
  · obtain ⟨k, e, he, rfl⟩ := enumD_mem hd
    obtain ⟨z, x, ps, rfl⟩ := isHead_ex (hp.hd e he)
    simp only [dVar, dC, dOp, dUn, dNil, dCons, dTup, dLst, dCB, dTest, dAnd, dOr, dNot, dAndV, dOrV, dNotV, dIfE, dChain, sNext, sSeq, sBreak, sCont, sDrop, sRet, sRetN, sIf, gdName, gdNil, gdCons, gdTup, gdSub, sAsg, dCall, xOf, sFor, dSeq, dRng1, dRng2, dI, dI0, dB0, dAdd, dIsN, dNotN, isNon, dIx, dSetL, dNeg, one, two, dLen1, dListOf1, dTupOf1, dAbs1, dIntOf1, dII, marg, dAppend1, dExtend1, dIsi, isA, dSl, dPart, dNoPart, dCut, dLc, dYes, sRaise, sTry, exBy, sPar2, sPar3, dIsBl, dNotBl, dBM, dBM0, dEq, dNe, dIn, dSgn, dLc2, dEnum, dListRg1, dListRg2, dTupRg1, dTupRg2, dStrOf1, dRep, dLenSet, dstart, fnE_nx, fnE_rt, fnE_ex, Nat.zero_le, Nat.reduceLeDiff, decide_true, decide_false, true_or, or_true, false_or, or_false, decide_eq_true_eq, exists_eq_left', exists_eq_left, exists_eq_right, exists_eq_right', Option.some.injEq, List.cons.injEq, D.int.injEq, D.bl.injEq, D.str.injEq, D.tup.injEq, D.lro.injEq, D.ref.injEq, DO.lst.injEq, and_true, true_and, and_false, false_and, exists_false, exists_const, List.getElem?_cons_zero, List.getElem?_cons_succ, List.map_cons, List.map_nil, List.length_cons, List.length_nil, List.replicate_zero, List.replicate_succ, List.append_nil, List.cons_append, List.nil_append, List.set_cons_zero, List.set_cons_succ, Nat.reduceAdd, Nat.reduceSub, Nat.zero_add, reduceIte, Bool.false_eq_true, reduceCtorEq, if_true, if_false, Bool.not_true, Bool.not_false, exists_and_left, dwipe, atI2]
    refine ⟨_, _, rfl, ?_⟩
    refine lcD_map (fun _ => .int k) L trivial ps (fun d hd Kt hK Kf => ?_) acc (by simpa [plD] using hl) (by simpa [plD] using hK)
    simp only [dVar, dC, dOp, dUn, dNil, dCons, dTup, dLst, dCB, dTest, dAnd, dOr, dNot, dAndV, dOrV, dNotV, dIfE, dChain, sNext, sSeq, sBreak, sCont, sDrop, sRet, sRetN, sIf, gdName, gdNil, gdCons, gdTup, gdSub, sAsg, dCall, xOf, sFor, dSeq, dRng1, dRng2, dI, dI0, dB0, dAdd, dIsN, dNotN, isNon, dIx, dSetL, dNeg, one, two, dLen1, dListOf1, dTupOf1, dAbs1, dIntOf1, dII, marg, dAppend1, dExtend1, dIsi, isA, dSl, dPart, dNoPart, dCut, dLc, dYes, sRaise, sTry, exBy, sPar2, sPar3, dIsBl, dNotBl, dBM, dBM0, dEq, dNe, dIn, dSgn, dLc2, dEnum, dListRg1, dListRg2, dTupRg1, dTupRg2, dStrOf1, dRep, dLenSet, dstart, fnE_nx, fnE_rt, fnE_ex, Nat.zero_le, Nat.reduceLeDiff, decide_true, decide_false, true_or, or_true, false_or, or_false, decide_eq_true_eq, exists_eq_left', exists_eq_left, exists_eq_right, exists_eq_right', Option.some.injEq, List.cons.injEq, D.int.injEq, D.bl.injEq, D.str.injEq, D.tup.injEq, D.lro.injEq, D.ref.injEq, DO.lst.injEq, and_true, true_and, and_false, false_and, exists_false, exists_const, List.getElem?_cons_zero, List.getElem?_cons_succ, List.map_cons, List.map_nil, List.length_cons, List.length_nil, List.replicate_zero, List.replicate_succ, List.append_nil, List.cons_append, List.nil_append, List.set_cons_zero, List.set_cons_succ, Nat.reduceAdd, Nat.reduceSub, Nat.zero_add, reduceIte, Bool.false_eq_true, reduceCtorEq, if_true, if_false, Bool.not_true, Bool.not_false, exists_and_left]
    exact hK
  · intro p hp
    rw [List.nil_append, own_flat]
    exact endOf (q p hp)
def sp_checked_program : SpD := fun ds L Q E => ∃ d, ds = [d] ∧ Tm L d ∧ (isProg d = true → Q .non L) ∧ (isProg d = false → E "BadProgram" [] L)
theorem len_checked_program : ∀ as L Q E, sp_checked_program as L Q E → as.length = 1 := by rintro _ L Q E ⟨d, rfl, _⟩; rfl
def d_checked_program : DS :=
  (sIf (dNot (dTest (dCall sp_is_program (dCons (dVar 0) dNil)))) (sRaise "BadProgram") sNext)

theorem pure_checked_program : ∀ as L Q E, sp_checked_program as L Q E → d_checked_program (fnEnds Q E) (dstart 1 as) L := by
  rintro as L Q E ⟨d, rfl, hk, q1, q2⟩
  simp only [d_checked_program, dVar, dC, dOp, dUn, dNil, dCons, dTup, dLst, dCB, dTest, dAnd, dOr, dNot, dAndV, dOrV, dNotV, dIfE, dChain, sNext, sSeq, sBreak, sCont, sDrop, sRet, sRetN, sIf, gdName, gdNil, gdCons, gdTup, gdSub, sAsg, dCall, xOf, sFor, dSeq, dRng1, dRng2, dI, dI0, dB0, dAdd, dIsN, dNotN, isNon, dIx, dSetL, dNeg, one, two, dLen1, dListOf1, dTupOf1, dAbs1, dIntOf1, dII, marg, dAppend1, dExtend1, dIsi, isA, dSl, dPart, dNoPart, dCut, dLc, dYes, sRaise, sTry, exBy, sPar2, sPar3, dIsBl, dNotBl, dBM, dBM0, dEq, dNe, dIn, dSgn, dLc2, dEnum, dListRg1, dListRg2, dTupRg1, dTupRg2, dStrOf1, dRep, dLenSet, dstart, fnE_nx, fnE_rt, fnE_ex, Nat.zero_le, Nat.reduceLeDiff, decide_true, decide_false, true_or, or_true, false_or, or_false, decide_eq_true_eq, exists_eq_left', exists_eq_left, exists_eq_right, exists_eq_right', Option.some.injEq, List.cons.injEq, D.int.injEq, D.bl.injEq, D.str.injEq, D.tup.injEq, D.lro.injEq, D.ref.injEq, DO.lst.injEq, and_true, true_and, and_false, false_and, exists_false, exists_const, List.getElem?_cons_zero, List.getElem?_cons_succ, List.map_cons, List.map_nil, List.length_cons, List.length_nil, List.replicate_zero, List.replicate_succ, List.append_nil, List.cons_append, List.nil_append, List.set_cons_zero, List.set_cons_succ, Nat.reduceAdd, Nat.reduceSub, Nat.zero_add, reduceIte, Bool.false_eq_true, reduceCtorEq, if_true, if_false, Bool.not_true, Bool.not_false, exists_and_left]
  refine ⟨d, rfl, hk, ?_⟩
  cases h : isProg d with
  | true => simp only [dVar, dC, dOp, dUn, dNil, dCons, dTup, dLst, dCB, dTest, dAnd, dOr, dNot, dAndV, dOrV, dNotV, dIfE, dChain, sNext, sSeq, sBreak, sCont, sDrop, sRet, sRetN, sIf, gdName, gdNil, gdCons, gdTup, gdSub, sAsg, dCall, xOf, sFor, dSeq, dRng1, dRng2, dI, dI0, dB0, dAdd, dIsN, dNotN, isNon, dIx, dSetL, dNeg, one, two, dLen1, dListOf1, dTupOf1, dAbs1, dIntOf1, dII, marg, dAppend1, dExtend1, dIsi, isA, dSl, dPart, dNoPart, dCut, dLc, dYes, sRaise, sTry, exBy, sPar2, sPar3, dIsBl, dNotBl, dBM, dBM0, dEq, dNe, dIn, dSgn, dLc2, dEnum, dListRg1, dListRg2, dTupRg1, dTupRg2, dStrOf1, dRep, dLenSet, dstart, fnE_nx, fnE_rt, fnE_ex, Nat.zero_le, Nat.reduceLeDiff, decide_true, decide_false, true_or, or_true, false_or, or_false, decide_eq_true_eq, exists_eq_left', exists_eq_left, exists_eq_right, exists_eq_right', Option.some.injEq, List.cons.injEq, D.int.injEq, D.bl.injEq, D.str.injEq, D.tup.injEq, D.lro.injEq, D.ref.injEq, DO.lst.injEq, and_true, true_and, and_false, false_and, exists_false, exists_const, List.getElem?_cons_zero, List.getElem?_cons_succ, List.map_cons, List.map_nil, List.length_cons, List.length_nil, List.replicate_zero, List.replicate_succ, List.append_nil, List.cons_append, List.nil_append, List.set_cons_zero, List.set_cons_succ, Nat.reduceAdd, Nat.reduceSub, Nat.zero_add, reduceIte, Bool.false_eq_true, reduceCtorEq, if_true, if_false, Bool.not_true, Bool.not_false, exists_and_left]; exact endOf (q1 h)
  | false => simp only [dVar, dC, dOp, dUn, dNil, dCons, dTup, dLst, dCB, dTest, dAnd, dOr, dNot, dAndV, dOrV, dNotV, dIfE, dChain, sNext, sSeq, sBreak, sCont, sDrop, sRet, sRetN, sIf, gdName, gdNil, gdCons, gdTup, gdSub, sAsg, dCall, xOf, sFor, dSeq, dRng1, dRng2, dI, dI0, dB0, dAdd, dIsN, dNotN, isNon, dIx, dSetL, dNeg, one, two, dLen1, dListOf1, dTupOf1, dAbs1, dIntOf1, dII, marg, dAppend1, dExtend1, dIsi, isA, dSl, dPart, dNoPart, dCut, dLc, dYes, sRaise, sTry, exBy, sPar2, sPar3, dIsBl, dNotBl, dBM, dBM0, dEq, dNe, dIn, dSgn, dLc2, dEnum, dListRg1, dListRg2, dTupRg1, dTupRg2, dStrOf1, dRep, dLenSet, dstart, fnE_nx, fnE_rt, fnE_ex, Nat.zero_le, Nat.reduceLeDiff, decide_true, decide_false, true_or, or_true, false_or, or_false, decide_eq_true_eq, exists_eq_left', exists_eq_left, exists_eq_right, exists_eq_right', Option.some.injEq, List.cons.injEq, D.int.injEq, D.bl.injEq, D.str.injEq, D.tup.injEq, D.lro.injEq, D.ref.injEq, DO.lst.injEq, and_true, true_and, and_false, false_and, exists_false, exists_const, List.getElem?_cons_zero, List.getElem?_cons_succ, List.map_cons, List.map_nil, List.length_cons, List.length_nil, List.replicate_zero, List.replicate_succ, List.append_nil, List.cons_append, List.nil_append, List.set_cons_zero, List.set_cons_succ, Nat.reduceAdd, Nat.reduceSub, Nat.zero_add, reduceIte, Bool.false_eq_true, reduceCtorEq, if_true, if_false, Bool.not_true, Bool.not_false, exists_and_left]; exact endX (q2 h)
def total (es : List D) : Int := (es.flatMap plD).length
theorem startsI_len : ∀ (f : Int) (es : List D), (startsI f es).length = es.length + 1
  | _, [] => rfl
  | f, e :: es => by simp only [startsI, List.length_cons, startsI_len]
theorem atI_neg1 {xs : List D} {x : D} (h : xs[xs.length - 1]? = some x) (hl : 1 ≤ xs.length) : atI xs (-1) = some x := by
  have h2 : ixN xs.length (-1) = some (xs.length - 1) := by
    unfold ixN
    rw [if_neg (by omega), if_pos (by omega)]
    congr 1
    omega
  unfold atI
  rw [h2]
  exact h
theorem starts_last (es : List D) : atI ((startsI 0 es).map D.int) (-1) = some (.int (total es)) := by
  refine atI_neg1 ?_ (by rw [List.length_map, startsI_len]; omega)
  rw [List.length_map, startsI_len, List.getElem?_map, show es.length + 1 - 1 = es.length by omega, startsI_get es 0 es.length (Nat.le_refl _), List.take_length]
  simp [total]
def sp_checked_place : SpD := fun ds L Q E => ∃ es d, ds = [.tup es, d] ∧ Prg es ∧ Known L d ∧ (wthn d 0 (total es - 1) = true → Q .non L) ∧ (wthn d 0 (total es - 1) = false → E "BadPlace" [] L)
theorem len_checked_place : ∀ as L Q E, sp_checked_place as L Q E → as.length = 2 := by rintro _ L Q E ⟨d, e, rfl, _⟩; rfl
def d_checked_place : DS :=
  (sIf (dNot (dTest (dCall sp_within (dCons (dVar 1) (dCons (dC (.int 0)) (dCons (dOp dSub (dOp dIx (dCall sp_starts_of (dCons (dVar 0) dNil)) (dUn dNeg (dC (.int 1)))) (dC (.int 1))) dNil)))))) (sRaise "BadPlace") sNext)

theorem pure_checked_place : ∀ as L Q E, sp_checked_place as L Q E → d_checked_place (fnEnds Q E) (dstart 2 as) L := by
  rintro as L Q E ⟨es, d, rfl, hp, hk, q1, q2⟩
  simp only [d_checked_place, dVar, dC, dOp, dUn, dNil, dCons, dTup, dLst, dCB, dTest, dAnd, dOr, dNot, dAndV, dOrV, dNotV, dIfE, dChain, sNext, sSeq, sBreak, sCont, sDrop, sRet, sRetN, sIf, gdName, gdNil, gdCons, gdTup, gdSub, sAsg, dCall, xOf, sFor, dSeq, dRng1, dRng2, dI, dI0, dB0, dAdd, dIsN, dNotN, isNon, dIx, dSetL, dNeg, one, two, dLen1, dListOf1, dTupOf1, dAbs1, dIntOf1, dII, marg, dAppend1, dExtend1, dIsi, isA, dSl, dPart, dNoPart, dCut, dLc, dYes, sRaise, sTry, exBy, sPar2, sPar3, dIsBl, dNotBl, dBM, dBM0, dEq, dNe, dIn, dSgn, dLc2, dEnum, dListRg1, dListRg2, dTupRg1, dTupRg2, dStrOf1, dRep, dLenSet, dstart, fnE_nx, fnE_rt, fnE_ex, Nat.zero_le, Nat.reduceLeDiff, decide_true, decide_false, true_or, or_true, false_or, or_false, decide_eq_true_eq, exists_eq_left', exists_eq_left, exists_eq_right, exists_eq_right', Option.some.injEq, List.cons.injEq, D.int.injEq, D.bl.injEq, D.str.injEq, D.tup.injEq, D.lro.injEq, D.ref.injEq, DO.lst.injEq, and_true, true_and, and_false, false_and, exists_false, exists_const, List.getElem?_cons_zero, List.getElem?_cons_succ, List.map_cons, List.map_nil, List.length_cons, List.length_nil, List.replicate_zero, List.replicate_succ, List.append_nil, List.cons_append, List.nil_append, List.set_cons_zero, List.set_cons_succ, Nat.reduceAdd, Nat.reduceSub, Nat.zero_add, reduceIte, Bool.false_eq_true, reduceCtorEq, if_true, if_false, Bool.not_true, Bool.not_false, exists_and_left]
  have hl := hp.len
  refine ⟨es, rfl, by omega, fun e he => hp.hd3 he, fun p hp2 => ?_⟩
  simp only [dVar, dC, dOp, dUn, dNil, dCons, dTup, dLst, dCB, dTest, dAnd, dOr, dNot, dAndV, dOrV, dNotV, dIfE, dChain, sNext, sSeq, sBreak, sCont, sDrop, sRet, sRetN, sIf, gdName, gdNil, gdCons, gdTup, gdSub, sAsg, dCall, xOf, sFor, dSeq, dRng1, dRng2, dI, dI0, dB0, dAdd, dIsN, dNotN, isNon, dIx, dSetL, dNeg, one, two, dLen1, dListOf1, dTupOf1, dAbs1, dIntOf1, dII, marg, dAppend1, dExtend1, dIsi, isA, dSl, dPart, dNoPart, dCut, dLc, dYes, sRaise, sTry, exBy, sPar2, sPar3, dIsBl, dNotBl, dBM, dBM0, dEq, dNe, dIn, dSgn, dLc2, dEnum, dListRg1, dListRg2, dTupRg1, dTupRg2, dStrOf1, dRep, dLenSet, dstart, fnE_nx, fnE_rt, fnE_ex, Nat.zero_le, Nat.reduceLeDiff, decide_true, decide_false, true_or, or_true, false_or, or_false, decide_eq_true_eq, exists_eq_left', exists_eq_left, exists_eq_right, exists_eq_right', Option.some.injEq, List.cons.injEq, D.int.injEq, D.bl.injEq, D.str.injEq, D.tup.injEq, D.lro.injEq, D.ref.injEq, DO.lst.injEq, and_true, true_and, and_false, false_and, exists_false, exists_const, List.getElem?_cons_zero, List.getElem?_cons_succ, List.map_cons, List.map_nil, List.length_cons, List.length_nil, List.replicate_zero, List.replicate_succ, List.append_nil, List.cons_append, List.nil_append, List.set_cons_zero, List.set_cons_succ, Nat.reduceAdd, Nat.reduceSub, Nat.zero_add, reduceIte, Bool.false_eq_true, reduceCtorEq, if_true, if_false, Bool.not_true, Bool.not_false, exists_and_left, updD_same, starts_last]
  refine ⟨d, _, _, rfl, hk.le (Le.upd hp2), ?_⟩
  cases h : wthn d 0 (total es - 1) with
  | true => simp only [dVar, dC, dOp, dUn, dNil, dCons, dTup, dLst, dCB, dTest, dAnd, dOr, dNot, dAndV, dOrV, dNotV, dIfE, dChain, sNext, sSeq, sBreak, sCont, sDrop, sRet, sRetN, sIf, gdName, gdNil, gdCons, gdTup, gdSub, sAsg, dCall, xOf, sFor, dSeq, dRng1, dRng2, dI, dI0, dB0, dAdd, dIsN, dNotN, isNon, dIx, dSetL, dNeg, one, two, dLen1, dListOf1, dTupOf1, dAbs1, dIntOf1, dII, marg, dAppend1, dExtend1, dIsi, isA, dSl, dPart, dNoPart, dCut, dLc, dYes, sRaise, sTry, exBy, sPar2, sPar3, dIsBl, dNotBl, dBM, dBM0, dEq, dNe, dIn, dSgn, dLc2, dEnum, dListRg1, dListRg2, dTupRg1, dTupRg2, dStrOf1, dRep, dLenSet, dstart, fnE_nx, fnE_rt, fnE_ex, Nat.zero_le, Nat.reduceLeDiff, decide_true, decide_false, true_or, or_true, false_or, or_false, decide_eq_true_eq, exists_eq_left', exists_eq_left, exists_eq_right, exists_eq_right', Option.some.injEq, List.cons.injEq, D.int.injEq, D.bl.injEq, D.str.injEq, D.tup.injEq, D.lro.injEq, D.ref.injEq, DO.lst.injEq, and_true, true_and, and_false, false_and, exists_false, exists_const, List.getElem?_cons_zero, List.getElem?_cons_succ, List.map_cons, List.map_nil, List.length_cons, List.length_nil, List.replicate_zero, List.replicate_succ, List.append_nil, List.cons_append, List.nil_append, List.set_cons_zero, List.set_cons_succ, Nat.reduceAdd, Nat.reduceSub, Nat.zero_add, reduceIte, Bool.false_eq_true, reduceCtorEq, if_true, if_false, Bool.not_true, Bool.not_false, exists_and_left]; exact ⟨L, Le.upd hp2, q1 h⟩
  | false => simp only [dVar, dC, dOp, dUn, dNil, dCons, dTup, dLst, dCB, dTest, dAnd, dOr, dNot, dAndV, dOrV, dNotV, dIfE, dChain, sNext, sSeq, sBreak, sCont, sDrop, sRet, sRetN, sIf, gdName, gdNil, gdCons, gdTup, gdSub, sAsg, dCall, xOf, sFor, dSeq, dRng1, dRng2, dI, dI0, dB0, dAdd, dIsN, dNotN, isNon, dIx, dSetL, dNeg, one, two, dLen1, dListOf1, dTupOf1, dAbs1, dIntOf1, dII, marg, dAppend1, dExtend1, dIsi, isA, dSl, dPart, dNoPart, dCut, dLc, dYes, sRaise, sTry, exBy, sPar2, sPar3, dIsBl, dNotBl, dBM, dBM0, dEq, dNe, dIn, dSgn, dLc2, dEnum, dListRg1, dListRg2, dTupRg1, dTupRg2, dStrOf1, dRep, dLenSet, dstart, fnE_nx, fnE_rt, fnE_ex, Nat.zero_le, Nat.reduceLeDiff, decide_true, decide_false, true_or, or_true, false_or, or_false, decide_eq_true_eq, exists_eq_left', exists_eq_left, exists_eq_right, exists_eq_right', Option.some.injEq, List.cons.injEq, D.int.injEq, D.bl.injEq, D.str.injEq, D.tup.injEq, D.lro.injEq, D.ref.injEq, DO.lst.injEq, and_true, true_and, and_false, false_and, exists_false, exists_const, List.getElem?_cons_zero, List.getElem?_cons_succ, List.map_cons, List.map_nil, List.length_cons, List.length_nil, List.replicate_zero, List.replicate_succ, List.append_nil, List.cons_append, List.nil_append, List.set_cons_zero, List.set_cons_succ, Nat.reduceAdd, Nat.reduceSub, Nat.zero_add, reduceIte, Bool.false_eq_true, reduceCtorEq, if_true, if_false, Bool.not_true, Bool.not_false, exists_and_left]; exact ⟨L, Le.upd hp2, q2 h⟩
/-! the law's own readings -/
def sp_law_flat : SpD := fun ds L Q _ => ∃ es, ds = [.tup es] ∧ Prg es ∧ ∀ p, L p = none → Q (.ref p) (upd L p (.lst (es.flatMap plD)))
theorem len_law_flat : ∀ as L Q E, sp_law_flat as L Q E → as.length = 1 := by rintro _ L Q E ⟨d, rfl, _⟩; rfl
def d__law_flat_b1 : DS :=
  (sDrop (dBM chkL (marg dExtend1) (dVar 1) (dCons (dCB dListOf (dCons (dVar 4) dNil)) dNil)))
def d__law_flat_t2 : DS :=
  (sRet (dVar 1))
def d__law_flat_t1 : DS :=
  (sSeq (sFor (dSeq (dVar 0)) (gdTup 3 (gdCons (gdName 2) (gdCons (gdName 3) (gdCons (gdName 4) gdNil))))
  d__law_flat_b1) d__law_flat_t2)
def d__law_flat : DS :=
  (sSeq (sAsg (dLst dNil) (gdName 1)) d__law_flat_t1)

theorem le_upd {L L' : DH} {p : Addr} {o : DO} (h : Le L L') (hp : L p = none) (e : L' p = some o) : Le (upd L p o) L' := fun c v hc => by
  by_cases h1 : c = p
  · subst h1; rw [updD_same] at hc; rw [← hc]; exact e
  · rw [updD_ne h1] at hc; exact h c v hc
theorem le_own {L L' : DH} {p : Addr} {o : DO} (h : Le L L') (hp : L p = none) : Le L (upd L' p o) := fun c v e => by
  rw [updD_ne (fresh_ne e hp)]; exact h c v e
theorem pure_law_flat : ∀ as L Q E, sp_law_flat as L Q E → d__law_flat (fnEnds Q E) (dstart 5 as) L := by
  rintro as L Q E ⟨es, rfl, hp, q⟩
  simp only [d__law_flat, dVar, dC, dOp, dUn, dNil, dCons, dTup, dLst, dCB, dTest, dAnd, dOr, dNot, dAndV, dOrV, dNotV, dIfE, dChain, sNext, sSeq, sBreak, sCont, sDrop, sRet, sRetN, sIf, gdName, gdNil, gdCons, gdTup, gdSub, sAsg, dCall, xOf, sFor, dSeq, dRng1, dRng2, dI, dI0, dB0, dAdd, dIsN, dNotN, isNon, dIx, dSetL, dNeg, one, two, dLen1, dListOf1, dTupOf1, dAbs1, dIntOf1, dII, marg, dAppend1, dExtend1, dIsi, isA, dSl, dPart, dNoPart, dCut, dLc, dYes, sRaise, sTry, exBy, sPar2, sPar3, dIsBl, dNotBl, dBM, dBM0, dEq, dNe, dIn, dSgn, dLc2, dEnum, dListRg1, dListRg2, dTupRg1, dTupRg2, dStrOf1, dRep, dLenSet, dstart, fnE_nx, fnE_rt, fnE_ex, Nat.zero_le, Nat.reduceLeDiff, decide_true, decide_false, true_or, or_true, false_or, or_false, decide_eq_true_eq, exists_eq_left', exists_eq_left, exists_eq_right, exists_eq_right', Option.some.injEq, List.cons.injEq, D.int.injEq, D.bl.injEq, D.str.injEq, D.tup.injEq, D.lro.injEq, D.ref.injEq, DO.lst.injEq, and_true, true_and, and_false, false_and, exists_false, exists_const, List.getElem?_cons_zero, List.getElem?_cons_succ, List.map_cons, List.map_nil, List.length_cons, List.length_nil, List.replicate_zero, List.replicate_succ, List.append_nil, List.cons_append, List.nil_append, List.set_cons_zero, List.set_cons_succ, Nat.reduceAdd, Nat.reduceSub, Nat.zero_add, reduceIte, Bool.false_eq_true, reduceCtorEq, if_true, if_false, Bool.not_true, Bool.not_false, exists_and_left]
  intro p hp0
  simp only [d__law_flat_t1, dVar, dC, dOp, dUn, dNil, dCons, dTup, dLst, dCB, dTest, dAnd, dOr, dNot, dAndV, dOrV, dNotV, dIfE, dChain, sNext, sSeq, sBreak, sCont, sDrop, sRet, sRetN, sIf, gdName, gdNil, gdCons, gdTup, gdSub, sAsg, dCall, xOf, sFor, dSeq, dRng1, dRng2, dI, dI0, dB0, dAdd, dIsN, dNotN, isNon, dIx, dSetL, dNeg, one, two, dLen1, dListOf1, dTupOf1, dAbs1, dIntOf1, dII, marg, dAppend1, dExtend1, dIsi, isA, dSl, dPart, dNoPart, dCut, dLc, dYes, sRaise, sTry, exBy, sPar2, sPar3, dIsBl, dNotBl, dBM, dBM0, dEq, dNe, dIn, dSgn, dLc2, dEnum, dListRg1, dListRg2, dTupRg1, dTupRg2, dStrOf1, dRep, dLenSet, dstart, fnE_nx, fnE_rt, fnE_ex, Nat.zero_le, Nat.reduceLeDiff, decide_true, decide_false, true_or, or_true, false_or, or_false, decide_eq_true_eq, exists_eq_left', exists_eq_left, exists_eq_right, exists_eq_right', Option.some.injEq, List.cons.injEq, D.int.injEq, D.bl.injEq, D.str.injEq, D.tup.injEq, D.lro.injEq, D.ref.injEq, DO.lst.injEq, and_true, true_and, and_false, false_and, exists_false, exists_const, List.getElem?_cons_zero, List.getElem?_cons_succ, List.map_cons, List.map_nil, List.length_cons, List.length_nil, List.replicate_zero, List.replicate_succ, List.append_nil, List.cons_append, List.nil_append, List.set_cons_zero, List.set_cons_succ, Nat.reduceAdd, Nat.reduceSub, Nat.zero_add, reduceIte, Bool.false_eq_true, reduceCtorEq, if_true, if_false, Bool.not_true, Bool.not_false, exists_and_left]
  refine ⟨es, _, rfl, ?_⟩
  have hs := hp.sum
  refine forD_ix (fun i s L' => Le L L' ∧ L' p = some (.lst ((es.take i).flatMap plD)) ∧ ∃ o2 o3 o4, s = [some (.tup es), some (.ref p), o2, o3, o4]) _ ?_ ?_ _ _ ⟨Le.upd hp0, updD_same, _, _, _, rfl⟩
  · rintro i d hd s L' P hP ⟨hle, hf, o2, o3, o4, rfl⟩
    obtain ⟨z, x, ps, rfl⟩ := isHead_ex (hp.hd d (List.mem_of_getElem? hd))
    have htk : (es.take (i + 1)).flatMap plD = (es.take i).flatMap plD ++ ps := by rw [List.take_succ, hd]; simp [plD]
    have hlt : ((es.take (i + 1)).flatMap plD).length ≤ (es.flatMap plD).length := by
      have : es.flatMap plD = (es.take (i + 1)).flatMap plD ++ (es.drop (i + 1)).flatMap plD := by rw [← List.flatMap_append, List.take_append_drop]
      rw [this, List.length_append]; omega
    rw [htk, List.length_append] at hlt
    refine ⟨trivial, ?_⟩
    simp only [d__law_flat_b1, dVar, dC, dOp, dUn, dNil, dCons, dTup, dLst, dCB, dTest, dAnd, dOr, dNot, dAndV, dOrV, dNotV, dIfE, dChain, sNext, sSeq, sBreak, sCont, sDrop, sRet, sRetN, sIf, gdName, gdNil, gdCons, gdTup, gdSub, sAsg, dCall, xOf, sFor, dSeq, dRng1, dRng2, dI, dI0, dB0, dAdd, dIsN, dNotN, isNon, dIx, dSetL, dNeg, one, two, dLen1, dListOf1, dTupOf1, dAbs1, dIntOf1, dII, marg, dAppend1, dExtend1, dIsi, isA, dSl, dPart, dNoPart, dCut, dLc, dYes, sRaise, sTry, exBy, sPar2, sPar3, dIsBl, dNotBl, dBM, dBM0, dEq, dNe, dIn, dSgn, dLc2, dEnum, dListRg1, dListRg2, dTupRg1, dTupRg2, dStrOf1, dRep, dLenSet, dstart, fnE_nx, fnE_rt, fnE_ex, Nat.zero_le, Nat.reduceLeDiff, decide_true, decide_false, true_or, or_true, false_or, or_false, decide_eq_true_eq, exists_eq_left', exists_eq_left, exists_eq_right, exists_eq_right', Option.some.injEq, List.cons.injEq, D.int.injEq, D.bl.injEq, D.str.injEq, D.tup.injEq, D.lro.injEq, D.ref.injEq, DO.lst.injEq, and_true, true_and, and_false, false_and, exists_false, exists_const, List.getElem?_cons_zero, List.getElem?_cons_succ, List.map_cons, List.map_nil, List.length_cons, List.length_nil, List.replicate_zero, List.replicate_succ, List.append_nil, List.cons_append, List.nil_append, List.set_cons_zero, List.set_cons_succ, Nat.reduceAdd, Nat.reduceSub, Nat.zero_add, reduceIte, Bool.false_eq_true, reduceCtorEq, if_true, if_false, Bool.not_true, Bool.not_false, exists_and_left]
    refine ⟨⟨_, lstOf_ref hf⟩, fun p2 hp2 => ?_⟩
    have hne : p ≠ p2 := fresh_ne hf hp2
    refine ⟨(es.take i).flatMap plD, by rw [updD_ne hne]; exact hf, ps, updD_same, by omega, ?_⟩
    refine hP _ _ ⟨le_own (hle.trans (Le.upd hp2)) hp0, by rw [updD_same, htk], _, _, _, rfl⟩
  · rintro s L' ⟨hle, hf, o2, o3, o4, rfl⟩
    refine ⟨trivial, ?_⟩
    rw [List.take_length] at hf
    simp only [d__law_flat_t2, dVar, dC, dOp, dUn, dNil, dCons, dTup, dLst, dCB, dTest, dAnd, dOr, dNot, dAndV, dOrV, dNotV, dIfE, dChain, sNext, sSeq, sBreak, sCont, sDrop, sRet, sRetN, sIf, gdName, gdNil, gdCons, gdTup, gdSub, sAsg, dCall, xOf, sFor, dSeq, dRng1, dRng2, dI, dI0, dB0, dAdd, dIsN, dNotN, isNon, dIx, dSetL, dNeg, one, two, dLen1, dListOf1, dTupOf1, dAbs1, dIntOf1, dII, marg, dAppend1, dExtend1, dIsi, isA, dSl, dPart, dNoPart, dCut, dLc, dYes, sRaise, sTry, exBy, sPar2, sPar3, dIsBl, dNotBl, dBM, dBM0, dEq, dNe, dIn, dSgn, dLc2, dEnum, dListRg1, dListRg2, dTupRg1, dTupRg2, dStrOf1, dRep, dLenSet, dstart, fnE_nx, fnE_rt, fnE_ex, Nat.zero_le, Nat.reduceLeDiff, decide_true, decide_false, true_or, or_true, false_or, or_false, decide_eq_true_eq, exists_eq_left', exists_eq_left, exists_eq_right, exists_eq_right', Option.some.injEq, List.cons.injEq, D.int.injEq, D.bl.injEq, D.str.injEq, D.tup.injEq, D.lro.injEq, D.ref.injEq, DO.lst.injEq, and_true, true_and, and_false, false_and, exists_false, exists_const, List.getElem?_cons_zero, List.getElem?_cons_succ, List.map_cons, List.map_nil, List.length_cons, List.length_nil, List.replicate_zero, List.replicate_succ, List.append_nil, List.cons_append, List.nil_append, List.set_cons_zero, List.set_cons_succ, Nat.reduceAdd, Nat.reduceSub, Nat.zero_add, reduceIte, Bool.false_eq_true, reduceCtorEq, if_true, if_false, Bool.not_true, Bool.not_false, exists_and_left]
    exact ⟨_, le_upd hle hp0 hf, q p hp0⟩
def sp_law_owners : SpD := fun ds L Q _ => ∃ es, ds = [.tup es] ∧ Prg es ∧ ∀ p, L p = none → Q (.ref p) (upd L p (.lst ((ownI 0 es).map .int)))
theorem len_law_owners : ∀ as L Q E, sp_law_owners as L Q E → as.length = 1 := by rintro _ L Q E ⟨d, rfl, _⟩; rfl
def d__law_owners_b1 : DS :=
  (sDrop (dBM chkL (marg dExtend1) (dVar 1) (dCons (dOp dRep (dLst (dCons (dVar 2) dNil)) (dCB dLen (dCons (dOp dIx (dOp dIx (dVar 0) (dVar 2)) (dC (.int 2))) dNil))) dNil)))
def d__law_owners_t2 : DS :=
  (sRet (dVar 1))
def d__law_owners_t1 : DS :=
  (sSeq (sFor (dRng1 (dCons (dCB dLen (dCons (dVar 0) dNil)) dNil)) (gdName 2)
  d__law_owners_b1) d__law_owners_t2)
def d__law_owners : DS :=
  (sSeq (sAsg (dLst dNil) (gdName 1)) d__law_owners_t1)

theorem ownI_take : ∀ (es : List D) (j i : Nat) (e : D), es[i]? = some e → ownI j (es.take (i + 1)) = ownI j (es.take i) ++ List.replicate (plD e).length ((j + i : Nat) : Int)
  | e0 :: es, j, 0, e, h => by
    have : e0 = e := by simpa using h
    subst this
    simp [ownI]
  | e0 :: es, j, i + 1, e, h => by
    rw [List.take_succ_cons, List.take_succ_cons, ownI, ownI, ownI_take es (j + 1) i e (by simpa using h), List.append_assoc]
    congr 4
    omega
theorem pure_law_owners : ∀ as L Q E, sp_law_owners as L Q E → d__law_owners (fnEnds Q E) (dstart 3 as) L := by
  rintro as L Q E ⟨es, rfl, hp, q⟩
  simp only [d__law_owners, dVar, dC, dOp, dUn, dNil, dCons, dTup, dLst, dCB, dTest, dAnd, dOr, dNot, dAndV, dOrV, dNotV, dIfE, dChain, sNext, sSeq, sBreak, sCont, sDrop, sRet, sRetN, sIf, gdName, gdNil, gdCons, gdTup, gdSub, sAsg, dCall, xOf, sFor, dSeq, dRng1, dRng2, dI, dI0, dB0, dAdd, dIsN, dNotN, isNon, dIx, dSetL, dNeg, one, two, dLen1, dListOf1, dTupOf1, dAbs1, dIntOf1, dII, marg, dAppend1, dExtend1, dIsi, isA, dSl, dPart, dNoPart, dCut, dLc, dYes, sRaise, sTry, exBy, sPar2, sPar3, dIsBl, dNotBl, dBM, dBM0, dEq, dNe, dIn, dSgn, dLc2, dEnum, dListRg1, dListRg2, dTupRg1, dTupRg2, dStrOf1, dRep, dLenSet, dstart, fnE_nx, fnE_rt, fnE_ex, Nat.zero_le, Nat.reduceLeDiff, decide_true, decide_false, true_or, or_true, false_or, or_false, decide_eq_true_eq, exists_eq_left', exists_eq_left, exists_eq_right, exists_eq_right', Option.some.injEq, List.cons.injEq, D.int.injEq, D.bl.injEq, D.str.injEq, D.tup.injEq, D.lro.injEq, D.ref.injEq, DO.lst.injEq, and_true, true_and, and_false, false_and, exists_false, exists_const, List.getElem?_cons_zero, List.getElem?_cons_succ, List.map_cons, List.map_nil, List.length_cons, List.length_nil, List.replicate_zero, List.replicate_succ, List.append_nil, List.cons_append, List.nil_append, List.set_cons_zero, List.set_cons_succ, Nat.reduceAdd, Nat.reduceSub, Nat.zero_add, reduceIte, Bool.false_eq_true, reduceCtorEq, if_true, if_false, Bool.not_true, Bool.not_false, exists_and_left]
  intro p hp0
  simp only [d__law_owners_t1, dVar, dC, dOp, dUn, dNil, dCons, dTup, dLst, dCB, dTest, dAnd, dOr, dNot, dAndV, dOrV, dNotV, dIfE, dChain, sNext, sSeq, sBreak, sCont, sDrop, sRet, sRetN, sIf, gdName, gdNil, gdCons, gdTup, gdSub, sAsg, dCall, xOf, sFor, dSeq, dRng1, dRng2, dI, dI0, dB0, dAdd, dIsN, dNotN, isNon, dIx, dSetL, dNeg, one, two, dLen1, dListOf1, dTupOf1, dAbs1, dIntOf1, dII, marg, dAppend1, dExtend1, dIsi, isA, dSl, dPart, dNoPart, dCut, dLc, dYes, sRaise, sTry, exBy, sPar2, sPar3, dIsBl, dNotBl, dBM, dBM0, dEq, dNe, dIn, dSgn, dLc2, dEnum, dListRg1, dListRg2, dTupRg1, dTupRg2, dStrOf1, dRep, dLenSet, dstart, fnE_nx, fnE_rt, fnE_ex, Nat.zero_le, Nat.reduceLeDiff, decide_true, decide_false, true_or, or_true, false_or, or_false, decide_eq_true_eq, exists_eq_left', exists_eq_left, exists_eq_right, exists_eq_right', Option.some.injEq, List.cons.injEq, D.int.injEq, D.bl.injEq, D.str.injEq, D.tup.injEq, D.lro.injEq, D.ref.injEq, DO.lst.injEq, and_true, true_and, and_false, false_and, exists_false, exists_const, List.getElem?_cons_zero, List.getElem?_cons_succ, List.map_cons, List.map_nil, List.length_cons, List.length_nil, List.replicate_zero, List.replicate_succ, List.append_nil, List.cons_append, List.nil_append, List.set_cons_zero, List.set_cons_succ, Nat.reduceAdd, Nat.reduceSub, Nat.zero_add, reduceIte, Bool.false_eq_true, reduceCtorEq, if_true, if_false, Bool.not_true, Bool.not_false, exists_and_left]
  have hs := hp.sum
  have hl := hp.len
  refine ⟨⟨by omega, by omega⟩, ?_⟩
  refine forD_ix (fun i s L' => Le L L' ∧ L' p = some (.lst ((ownI 0 (es.take i)).map .int)) ∧ ∃ o2, s = [some (.tup es), some (.ref p), o2]) _ ?_ ?_ _ _ ⟨Le.upd hp0, updD_same, _, rfl⟩
  · rintro i d hd s L' P hP ⟨hle, hf, o2, rfl⟩
    obtain ⟨rfl, hi⟩ := rngD_get hd
    have hi : i < es.length := by omega
    have hei : es[i]? = some es[i] := List.getElem?_eq_getElem hi
    generalize es[i] = e at hei
    obtain ⟨z, x, ps, rfl⟩ := isHead_ex (hp.hd e (List.mem_of_getElem? hei))
    have htk := ownI_take es 0 i _ hei
    have hlt : (ownI 0 (es.take (i + 1))).length ≤ (es.flatMap plD).length := by
      rw [ownI_len]
      have : es.flatMap plD = (es.take (i + 1)).flatMap plD ++ (es.drop (i + 1)).flatMap plD := by rw [← List.flatMap_append, List.take_append_drop]
      rw [this, List.length_append]; omega
    rw [htk, List.length_append, List.length_replicate] at hlt
    have hlt : (ownI 0 (es.take i)).length + ps.length ≤ (es.flatMap plD).length := hlt
    have hat : atI es (0 + (i : Int)) = some (.tup [.str z, .int x, .tup ps]) := by rw [Int.zero_add]; exact atI_nat hei
    refine ⟨trivial, ?_⟩
    simp only [d__law_owners_b1, dVar, dC, dOp, dUn, dNil, dCons, dTup, dLst, dCB, dTest, dAnd, dOr, dNot, dAndV, dOrV, dNotV, dIfE, dChain, sNext, sSeq, sBreak, sCont, sDrop, sRet, sRetN, sIf, gdName, gdNil, gdCons, gdTup, gdSub, sAsg, dCall, xOf, sFor, dSeq, dRng1, dRng2, dI, dI0, dB0, dAdd, dIsN, dNotN, isNon, dIx, dSetL, dNeg, one, two, dLen1, dListOf1, dTupOf1, dAbs1, dIntOf1, dII, marg, dAppend1, dExtend1, dIsi, isA, dSl, dPart, dNoPart, dCut, dLc, dYes, sRaise, sTry, exBy, sPar2, sPar3, dIsBl, dNotBl, dBM, dBM0, dEq, dNe, dIn, dSgn, dLc2, dEnum, dListRg1, dListRg2, dTupRg1, dTupRg2, dStrOf1, dRep, dLenSet, dstart, fnE_nx, fnE_rt, fnE_ex, Nat.zero_le, Nat.reduceLeDiff, decide_true, decide_false, true_or, or_true, false_or, or_false, decide_eq_true_eq, exists_eq_left', exists_eq_left, exists_eq_right, exists_eq_right', Option.some.injEq, List.cons.injEq, D.int.injEq, D.bl.injEq, D.str.injEq, D.tup.injEq, D.lro.injEq, D.ref.injEq, DO.lst.injEq, and_true, true_and, and_false, false_and, exists_false, exists_const, List.getElem?_cons_zero, List.getElem?_cons_succ, List.map_cons, List.map_nil, List.length_cons, List.length_nil, List.replicate_zero, List.replicate_succ, List.append_nil, List.cons_append, List.nil_append, List.set_cons_zero, List.set_cons_succ, Nat.reduceAdd, Nat.reduceSub, Nat.zero_add, reduceIte, Bool.false_eq_true, reduceCtorEq, if_true, if_false, Bool.not_true, Bool.not_false, exists_and_left, hat, atI2]
    refine ⟨⟨_, lstOf_ref hf⟩, fun p2 hp2 => ?_⟩
    have hne : p ≠ p2 := fresh_ne hf hp2
    have hps : (ps.length : Int).toNat = ps.length := by omega
    refine ⟨_, updD_same, by omega, by omega, by rw [hps]; simp; omega, fun p3 hp3 => ?_⟩
    rw [hps]
    have hf2 : upd L' p2 (.lst [.int (0 + (i : Int))]) p = some (.lst ((ownI 0 (es.take i)).map .int)) := by rw [updD_ne hne]; exact hf
    have hne3 : p ≠ p3 := fresh_ne hf2 hp3
    have hfl : (List.replicate ps.length [D.int (0 + (i : Int))]).flatten = List.replicate ps.length (.int (i : Int)) := by
      rw [Int.zero_add]
      generalize ps.length = k
      induction k with
      | zero => rfl
      | succ k ih => rw [List.replicate_succ, List.flatten_cons, ih]; rfl
    rw [hfl]
    refine ⟨_, by rw [updD_ne hne3]; exact hf2, _, updD_same, by simp; omega, hP _ _ ⟨le_own ((hle.trans (Le.upd hp2)).trans (Le.upd hp3)) hp0, ?_, _, rfl⟩⟩
    rw [updD_same, htk, List.map_append, List.map_replicate]
    simp [plD]
  · rintro s L' ⟨hle, hf, o2, rfl⟩
    refine ⟨trivial, ?_⟩
    have e : (rngD 0 (es.length : Int).toNat).length = es.length := by rw [rngD_length]; omega
    rw [e, List.take_length] at hf
    simp only [d__law_owners_t2, dVar, dC, dOp, dUn, dNil, dCons, dTup, dLst, dCB, dTest, dAnd, dOr, dNot, dAndV, dOrV, dNotV, dIfE, dChain, sNext, sSeq, sBreak, sCont, sDrop, sRet, sRetN, sIf, gdName, gdNil, gdCons, gdTup, gdSub, sAsg, dCall, xOf, sFor, dSeq, dRng1, dRng2, dI, dI0, dB0, dAdd, dIsN, dNotN, isNon, dIx, dSetL, dNeg, one, two, dLen1, dListOf1, dTupOf1, dAbs1, dIntOf1, dII, marg, dAppend1, dExtend1, dIsi, isA, dSl, dPart, dNoPart, dCut, dLc, dYes, sRaise, sTry, exBy, sPar2, sPar3, dIsBl, dNotBl, dBM, dBM0, dEq, dNe, dIn, dSgn, dLc2, dEnum, dListRg1, dListRg2, dTupRg1, dTupRg2, dStrOf1, dRep, dLenSet, dstart, fnE_nx, fnE_rt, fnE_ex, Nat.zero_le, Nat.reduceLeDiff, decide_true, decide_false, true_or, or_true, false_or, or_false, decide_eq_true_eq, exists_eq_left', exists_eq_left, exists_eq_right, exists_eq_right', Option.some.injEq, List.cons.injEq, D.int.injEq, D.bl.injEq, D.str.injEq, D.tup.injEq, D.lro.injEq, D.ref.injEq, DO.lst.injEq, and_true, true_and, and_false, false_and, exists_false, exists_const, List.getElem?_cons_zero, List.getElem?_cons_succ, List.map_cons, List.map_nil, List.length_cons, List.length_nil, List.replicate_zero, List.replicate_succ, List.append_nil, List.cons_append, List.nil_append, List.set_cons_zero, List.set_cons_succ, Nat.reduceAdd, Nat.reduceSub, Nat.zero_add, reduceIte, Bool.false_eq_true, reduceCtorEq, if_true, if_false, Bool.not_true, Bool.not_false, exists_and_left]
    exact ⟨_, le_upd hle hp0 hf, q p hp0⟩
/-! the law's equality, met where both are one and the same -/
def sp_law_same : Nat → SpD
  | 0 => fun _ _ _ _ => False
  | n + 1 => fun ds L Q _ => ∃ d, ds = [d, d] ∧ Pl n d ∧ Q (.bl true) L
theorem len_law_same (n : Nat) : ∀ as L Q E, sp_law_same (n + 1) as L Q E → as.length = 2 := by rintro _ L Q E ⟨d, rfl, _⟩; rfl
def d__law_same_t0a1 (n : Nat) : DS :=
  (sRet (dOp dEq (dLc (dRng1 (dCons (dCB dLen (dCons (dVar 1) dNil)) dNil)) (gdName 2) (dNot (dTest (dCall (sp_law_same n) (dCons (dOp dIx (dVar 0) (dVar 2)) (dCons (dOp dIx (dVar 1) (dVar 2)) dNil))))) (dVar 2) [2]) (dLst dNil)))
def d__law_same_t2 (n : Nat) : DS :=
  (sRet (dAndV (dOp dEq (dIsi .str (dVar 0)) (dIsi .str (dVar 1))) (dAndV (dOp dEq (dOp dIsN (dVar 0) (dC .non)) (dOp dIsN (dVar 1) (dC .non))) (dOp dEq (dVar 0) (dVar 1)))))
def d__law_same_t1 (n : Nat) : DS :=
  (sSeq (sIf (dOr (dTest (dIsi .tup (dVar 0))) (dTest (dOp dNe (dIsi .bool (dVar 0)) (dIsi .bool (dVar 1))))) (sRet (dC (.bl false))) sNext) (d__law_same_t2 n))
def d__law_same (n : Nat) : DS :=
  (sSeq (sIf (dTest (dIsi .tup (dVar 1))) (sSeq (sIf (dOr (dNot (dTest (dIsi .tup (dVar 0)))) (dTest (dOp dNe (dCB dLen (dCons (dVar 0) dNil)) (dCB dLen (dCons (dVar 1) dNil))))) (sRet (dC (.bl false))) sNext) (d__law_same_t0a1 n)) sNext) (d__law_same_t1 n))

theorem eqD_self {L : DH} {d : D} {n : Nat} (h : Pl n d) (ht : ∀ xs, d ≠ .tup xs) : eqD L d d = some true := by
  cases d with
  | non => rw [eqD_of (pyL_non _) (pyL_non _)]; rfl
  | bl b => rw [eqD_of (pyL_bl _ _) (pyL_bl _ _)]; cases b <;> rfl
  | int i => rw [eqD_int]; simp
  | str z => rw [eqD_str]; simp
  | tup xs => exact absurd rfl (ht xs)
  | lro xs => cases n <;> exact h.elim
  | ref a => cases n <;> (obtain ⟨p, e⟩ := h; cases e)
theorem eqD_bl {L : DH} (a b : Bool) : eqD L (.bl a) (.bl b) = some (a == b) := by
  rw [eqD_of (pyL_bl _ _) (pyL_bl _ _)]; cases a <;> cases b <;> rfl
theorem eq_nils {L : DH} {p q : Addr} (hp : L p = some (.lst [])) (hq : L q = some (.lst [])) : eqD L (.ref p) (.ref q) = some true := by
  rw [eqD_of (by rw [show (60 : Nat) = 59 + 1 from rfl, pyL_ref _ hp]; rfl) (by rw [show (60 : Nat) = 59 + 1 from rfl, pyL_ref _ hq]; rfl)]
  rfl
theorem pure_law_same (n : Nat) : ∀ as L Q E, sp_law_same (n + 1) as L Q E → d__law_same n (fnEnds Q E) (dstart 3 as) L := by
  rintro as L Q E ⟨d, rfl, hp, q⟩
  cases d with
  | tup xs =>
    cases n with
    | zero => exact hp.elim
    | succ n =>
    simp only [d__law_same, d__law_same_t0a1, dVar, dC, dOp, dUn, dNil, dCons, dTup, dLst, dCB, dTest, dAnd, dOr, dNot, dAndV, dOrV, dNotV, dIfE, dChain, sNext, sSeq, sBreak, sCont, sDrop, sRet, sRetN, sIf, gdName, gdNil, gdCons, gdTup, gdSub, sAsg, dCall, xOf, sFor, dSeq, dRng1, dRng2, dI, dI0, dB0, dAdd, dIsN, dNotN, isNon, dIx, dSetL, dNeg, one, two, dLen1, dListOf1, dTupOf1, dAbs1, dIntOf1, dII, marg, dAppend1, dExtend1, dIsi, isA, dSl, dPart, dNoPart, dCut, dLc, dYes, sRaise, sTry, exBy, sPar2, sPar3, dIsBl, dNotBl, dBM, dBM0, dEq, dNe, dIn, dSgn, dLc2, dEnum, dListRg1, dListRg2, dTupRg1, dTupRg2, dStrOf1, dRep, dLenSet, dstart, fnE_nx, fnE_rt, fnE_ex, Nat.zero_le, Nat.reduceLeDiff, decide_true, decide_false, true_or, or_true, false_or, or_false, decide_eq_true_eq, exists_eq_left', exists_eq_left, exists_eq_right, exists_eq_right', Option.some.injEq, List.cons.injEq, D.int.injEq, D.bl.injEq, D.str.injEq, D.tup.injEq, D.lro.injEq, D.ref.injEq, DO.lst.injEq, and_true, true_and, and_false, false_and, exists_false, exists_const, List.getElem?_cons_zero, List.getElem?_cons_succ, List.map_cons, List.map_nil, List.length_cons, List.length_nil, List.replicate_zero, List.replicate_succ, List.append_nil, List.cons_append, List.nil_append, List.set_cons_zero, List.set_cons_succ, Nat.reduceAdd, Nat.reduceSub, Nat.zero_add, reduceIte, Bool.false_eq_true, reduceCtorEq, if_true, if_false, Bool.not_true, Bool.not_false, exists_and_left, eqD_int, dwipe, bne_self_eq_false, beq_self_eq_true]
    have hl := hp.1
    refine ⟨⟨by omega, by omega⟩, ?_⟩
    refine lcD_pure (fun _ => false) id L trivial _ (fun d hd Kt Kf h1 h2 => ?_) [] (by rw [rngD_length]; simp; omega) ?_
    · obtain ⟨i, rfl, i0, i1⟩ := mem_rngD hd
      obtain ⟨x, hx, _, hxm⟩ := atI_in (xs := xs) i0 (by omega)
      simp only [dVar, dC, dOp, dUn, dNil, dCons, dTup, dLst, dCB, dTest, dAnd, dOr, dNot, dAndV, dOrV, dNotV, dIfE, dChain, sNext, sSeq, sBreak, sCont, sDrop, sRet, sRetN, sIf, gdName, gdNil, gdCons, gdTup, gdSub, sAsg, dCall, xOf, sFor, dSeq, dRng1, dRng2, dI, dI0, dB0, dAdd, dIsN, dNotN, isNon, dIx, dSetL, dNeg, one, two, dLen1, dListOf1, dTupOf1, dAbs1, dIntOf1, dII, marg, dAppend1, dExtend1, dIsi, isA, dSl, dPart, dNoPart, dCut, dLc, dYes, sRaise, sTry, exBy, sPar2, sPar3, dIsBl, dNotBl, dBM, dBM0, dEq, dNe, dIn, dSgn, dLc2, dEnum, dListRg1, dListRg2, dTupRg1, dTupRg2, dStrOf1, dRep, dLenSet, dstart, fnE_nx, fnE_rt, fnE_ex, Nat.zero_le, Nat.reduceLeDiff, decide_true, decide_false, true_or, or_true, false_or, or_false, decide_eq_true_eq, exists_eq_left', exists_eq_left, exists_eq_right, exists_eq_right', Option.some.injEq, List.cons.injEq, D.int.injEq, D.bl.injEq, D.str.injEq, D.tup.injEq, D.lro.injEq, D.ref.injEq, DO.lst.injEq, and_true, true_and, and_false, false_and, exists_false, exists_const, List.getElem?_cons_zero, List.getElem?_cons_succ, List.map_cons, List.map_nil, List.length_cons, List.length_nil, List.replicate_zero, List.replicate_succ, List.append_nil, List.cons_append, List.nil_append, List.set_cons_zero, List.set_cons_succ, Nat.reduceAdd, Nat.reduceSub, Nat.zero_add, reduceIte, Bool.false_eq_true, reduceCtorEq, if_true, if_false, Bool.not_true, Bool.not_false, exists_and_left, hx]
      exact ⟨x, rfl, hp.2 x hxm, true, rfl, by simpa using h2 rfl⟩
    · intro p hp0 p2 hp2
      have hne : p ≠ p2 := fresh_ne updD_same hp2
      have e : ([] ++ ((rngD 0 (xs.length : Int).toNat).filter fun _ => false).map id) = ([] : List D) := by simp
      rw [e] at hp2 ⊢
      refine ⟨true, eq_nils (by rw [updD_ne hne, updD_same]) updD_same, L, (Le.upd hp0).trans (Le.upd hp2), q⟩
  | ref a => cases n <;> (obtain ⟨p, e⟩ := hp; cases e)
  | lro a => cases n <;> exact hp.elim
  | int i =>
    have q' := endOf q
    simp only [d__law_same, d__law_same_t0a1, d__law_same_t2, d__law_same_t1, dVar, dC, dOp, dUn, dNil, dCons, dTup, dLst, dCB, dTest, dAnd, dOr, dNot, dAndV, dOrV, dNotV, dIfE, dChain, sNext, sSeq, sBreak, sCont, sDrop, sRet, sRetN, sIf, gdName, gdNil, gdCons, gdTup, gdSub, sAsg, dCall, xOf, sFor, dSeq, dRng1, dRng2, dI, dI0, dB0, dAdd, dIsN, dNotN, isNon, dIx, dSetL, dNeg, one, two, dLen1, dListOf1, dTupOf1, dAbs1, dIntOf1, dII, marg, dAppend1, dExtend1, dIsi, isA, dSl, dPart, dNoPart, dCut, dLc, dYes, sRaise, sTry, exBy, sPar2, sPar3, dIsBl, dNotBl, dBM, dBM0, dEq, dNe, dIn, dSgn, dLc2, dEnum, dListRg1, dListRg2, dTupRg1, dTupRg2, dStrOf1, dRep, dLenSet, dstart, fnE_nx, fnE_rt, fnE_ex, Nat.zero_le, Nat.reduceLeDiff, decide_true, decide_false, true_or, or_true, false_or, or_false, decide_eq_true_eq, exists_eq_left', exists_eq_left, exists_eq_right, exists_eq_right', Option.some.injEq, List.cons.injEq, D.int.injEq, D.bl.injEq, D.str.injEq, D.tup.injEq, D.lro.injEq, D.ref.injEq, DO.lst.injEq, and_true, true_and, and_false, false_and, exists_false, exists_const, List.getElem?_cons_zero, List.getElem?_cons_succ, List.map_cons, List.map_nil, List.length_cons, List.length_nil, List.replicate_zero, List.replicate_succ, List.append_nil, List.cons_append, List.nil_append, List.set_cons_zero, List.set_cons_succ, Nat.reduceAdd, Nat.reduceSub, Nat.zero_add, reduceIte, Bool.false_eq_true, reduceCtorEq, if_true, if_false, Bool.not_true, Bool.not_false, exists_and_left, eqD_int, eqD_bl, bne_self_eq_false, beq_self_eq_true]
    exact q'
  | str z =>
    have q' := endOf q
    simp only [d__law_same, d__law_same_t0a1, d__law_same_t2, d__law_same_t1, dVar, dC, dOp, dUn, dNil, dCons, dTup, dLst, dCB, dTest, dAnd, dOr, dNot, dAndV, dOrV, dNotV, dIfE, dChain, sNext, sSeq, sBreak, sCont, sDrop, sRet, sRetN, sIf, gdName, gdNil, gdCons, gdTup, gdSub, sAsg, dCall, xOf, sFor, dSeq, dRng1, dRng2, dI, dI0, dB0, dAdd, dIsN, dNotN, isNon, dIx, dSetL, dNeg, one, two, dLen1, dListOf1, dTupOf1, dAbs1, dIntOf1, dII, marg, dAppend1, dExtend1, dIsi, isA, dSl, dPart, dNoPart, dCut, dLc, dYes, sRaise, sTry, exBy, sPar2, sPar3, dIsBl, dNotBl, dBM, dBM0, dEq, dNe, dIn, dSgn, dLc2, dEnum, dListRg1, dListRg2, dTupRg1, dTupRg2, dStrOf1, dRep, dLenSet, dstart, fnE_nx, fnE_rt, fnE_ex, Nat.zero_le, Nat.reduceLeDiff, decide_true, decide_false, true_or, or_true, false_or, or_false, decide_eq_true_eq, exists_eq_left', exists_eq_left, exists_eq_right, exists_eq_right', Option.some.injEq, List.cons.injEq, D.int.injEq, D.bl.injEq, D.str.injEq, D.tup.injEq, D.lro.injEq, D.ref.injEq, DO.lst.injEq, and_true, true_and, and_false, false_and, exists_false, exists_const, List.getElem?_cons_zero, List.getElem?_cons_succ, List.map_cons, List.map_nil, List.length_cons, List.length_nil, List.replicate_zero, List.replicate_succ, List.append_nil, List.cons_append, List.nil_append, List.set_cons_zero, List.set_cons_succ, Nat.reduceAdd, Nat.reduceSub, Nat.zero_add, reduceIte, Bool.false_eq_true, reduceCtorEq, if_true, if_false, Bool.not_true, Bool.not_false, exists_and_left, eqD_str, eqD_bl, bne_self_eq_false, beq_self_eq_true]
    exact q'
  | bl b =>
    have q' := endOf q
    simp only [d__law_same, d__law_same_t0a1, d__law_same_t2, d__law_same_t1, dVar, dC, dOp, dUn, dNil, dCons, dTup, dLst, dCB, dTest, dAnd, dOr, dNot, dAndV, dOrV, dNotV, dIfE, dChain, sNext, sSeq, sBreak, sCont, sDrop, sRet, sRetN, sIf, gdName, gdNil, gdCons, gdTup, gdSub, sAsg, dCall, xOf, sFor, dSeq, dRng1, dRng2, dI, dI0, dB0, dAdd, dIsN, dNotN, isNon, dIx, dSetL, dNeg, one, two, dLen1, dListOf1, dTupOf1, dAbs1, dIntOf1, dII, marg, dAppend1, dExtend1, dIsi, isA, dSl, dPart, dNoPart, dCut, dLc, dYes, sRaise, sTry, exBy, sPar2, sPar3, dIsBl, dNotBl, dBM, dBM0, dEq, dNe, dIn, dSgn, dLc2, dEnum, dListRg1, dListRg2, dTupRg1, dTupRg2, dStrOf1, dRep, dLenSet, dstart, fnE_nx, fnE_rt, fnE_ex, Nat.zero_le, Nat.reduceLeDiff, decide_true, decide_false, true_or, or_true, false_or, or_false, decide_eq_true_eq, exists_eq_left', exists_eq_left, exists_eq_right, exists_eq_right', Option.some.injEq, List.cons.injEq, D.int.injEq, D.bl.injEq, D.str.injEq, D.tup.injEq, D.lro.injEq, D.ref.injEq, DO.lst.injEq, and_true, true_and, and_false, false_and, exists_false, exists_const, List.getElem?_cons_zero, List.getElem?_cons_succ, List.map_cons, List.map_nil, List.length_cons, List.length_nil, List.replicate_zero, List.replicate_succ, List.append_nil, List.cons_append, List.nil_append, List.set_cons_zero, List.set_cons_succ, Nat.reduceAdd, Nat.reduceSub, Nat.zero_add, reduceIte, Bool.false_eq_true, reduceCtorEq, if_true, if_false, Bool.not_true, Bool.not_false, exists_and_left, eqD_bl, bne_self_eq_false, beq_self_eq_true]
    exact q'
  | non =>
    have q' := endOf q
    simp only [d__law_same, d__law_same_t0a1, d__law_same_t2, d__law_same_t1, dVar, dC, dOp, dUn, dNil, dCons, dTup, dLst, dCB, dTest, dAnd, dOr, dNot, dAndV, dOrV, dNotV, dIfE, dChain, sNext, sSeq, sBreak, sCont, sDrop, sRet, sRetN, sIf, gdName, gdNil, gdCons, gdTup, gdSub, sAsg, dCall, xOf, sFor, dSeq, dRng1, dRng2, dI, dI0, dB0, dAdd, dIsN, dNotN, isNon, dIx, dSetL, dNeg, one, two, dLen1, dListOf1, dTupOf1, dAbs1, dIntOf1, dII, marg, dAppend1, dExtend1, dIsi, isA, dSl, dPart, dNoPart, dCut, dLc, dYes, sRaise, sTry, exBy, sPar2, sPar3, dIsBl, dNotBl, dBM, dBM0, dEq, dNe, dIn, dSgn, dLc2, dEnum, dListRg1, dListRg2, dTupRg1, dTupRg2, dStrOf1, dRep, dLenSet, dstart, fnE_nx, fnE_rt, fnE_ex, Nat.zero_le, Nat.reduceLeDiff, decide_true, decide_false, true_or, or_true, false_or, or_false, decide_eq_true_eq, exists_eq_left', exists_eq_left, exists_eq_right, exists_eq_right', Option.some.injEq, List.cons.injEq, D.int.injEq, D.bl.injEq, D.str.injEq, D.tup.injEq, D.lro.injEq, D.ref.injEq, DO.lst.injEq, and_true, true_and, and_false, false_and, exists_false, exists_const, List.getElem?_cons_zero, List.getElem?_cons_succ, List.map_cons, List.map_nil, List.length_cons, List.length_nil, List.replicate_zero, List.replicate_succ, List.append_nil, List.cons_append, List.nil_append, List.set_cons_zero, List.set_cons_succ, Nat.reduceAdd, Nat.reduceSub, Nat.zero_add, reduceIte, Bool.false_eq_true, reduceCtorEq, if_true, if_false, Bool.not_true, Bool.not_false, exists_and_left, eqD_bl, bne_self_eq_false, beq_self_eq_true]
    exact ⟨true, eqD_self (n := 0) trivial (by simp), q'⟩
theorem liftSp_no {M : KM} {sp : SpD} (hno : ∀ as L Q E, sp as L Q E → False) {vs : List V} {H : Hp} {Q : VK} {E : XK} (h : liftSp M sp vs H Q E) : False :=
  let ⟨as, L, Qd, Ed, _, _, h, _⟩ := h; hno as L Qd Ed h
end D2

set_option Elab.async false
set_option linter.all false
set_option maxRecDepth 100000
set_option maxHeartbeats 1000000
namespace D2
open PySem PySem.Spec PyProof.Rows L2
/-! ### programs that are bent -/
theorem bad_head {es : List D} {e : D} (he : e ∈ es) (h : isHead e = false) : isProg (.tup es) = false := by
  cases hp : isProg (.tup es) with
  | false => rfl
  | true =>
    obtain ⟨xs, e1, P⟩ := prg_of hp
    cases e1
    have := P.hd e he
    rw [h] at this; cases this
theorem allPl_get {ex : List Int} : ∀ {es : List D} {f : Int}, allPl ex f es = true → ∀ (i : Nat) e, es[i]? = some e → ∀ x, x ∈ plD e → isPlc x (f + ((es.take i).flatMap plD).length) (f + ((es.take i).flatMap plD).length + (plD e).length) ex = true
  | [], f, h, i, e, he, x, hx => by simp at he
  | y :: es, f, h, 0, e, he, x, hx => by
    have : y = e := by simpa using he
    subst this
    have h : (((plD y).all fun x => isPlc x f (f + (plD y).length) ex) && allPl ex (f + (plD y).length) es) = true := h
    rw [Bool.and_eq_true] at h
    simpa using List.all_eq_true.mp h.1 x hx
  | y :: es, f, h, i + 1, e, he, x, hx => by
    have h : (((plD y).all fun x => isPlc x f (f + (plD y).length) ex) && allPl ex (f + (plD y).length) es) = true := h
    rw [Bool.and_eq_true] at h
    have := allPl_get h.2 i e (by simpa using he) x hx
    rw [List.take_succ_cons, List.flatMap_cons, List.length_append]
    have e1 : f + (plD y).length + ((es.take i).flatMap plD).length = f + (((plD y).length + ((es.take i).flatMap plD).length : Nat) : Int) := by push_cast; omega
    rw [e1] at this
    exact this
def startOf (es : List D) (i : Nat) : Int := ((es.take i).flatMap plD).length
theorem isProg_place {es : List D} (h : isProg (.tup es) = true) {i : Nat} {e : D} (he : es[i]? = some e) {x : D} (hx : x ∈ plD e) : isPlc x (startOf es i) (startOf es i + (plD e).length) (exitsI es) = true := by
  unfold isProg at h
  rw [Bool.and_eq_true] at h
  have := allPl_get h.2 i e he x hx
  rw [Int.zero_add] at this
  exact this
def bentP (es : List D) (i : Nat) (e : D) : List D := es.take i ++ e :: es.drop (i + 1)
theorem bentP_get {es : List D} {i : Nat} {e : D} (hi : i < es.length) : (bentP es i e)[i]? = some e := by
  unfold bentP
  rw [List.getElem?_append_right (by simp; omega)]
  simp
  rw [show i - min i es.length = 0 by omega]
  rfl
theorem bentP_take {es : List D} {i : Nat} {e : D} (hi : i < es.length) : (bentP es i e).take i = es.take i := by
  unfold bentP
  rw [List.take_append_of_le_length (by simp; omega), List.take_take, Nat.min_self]
theorem bentP_exits {es : List D} {i : Nat} {e e' : D} (he : es[i]? = some e) (h1 : (plD e').length = (plD e).length) (h2 : exD e' = exD e) : exitsI (bentP es i e') = exitsI es := by
  have hi : i < es.length := (List.getElem?_eq_some_iff.mp he).1
  have e1 : es = es.take i ++ e :: es.drop (i + 1) := by
    have := List.take_append_drop i es
    rw [List.drop_eq_getElem_cons hi, (List.getElem?_eq_some_iff.mp he).2] at this
    exact this.symm
  conv => rhs; rw [e1]
  unfold exitsI bentP
  rw [List.flatMap_append, List.flatMap_append, List.flatMap_cons, List.flatMap_cons]
  congr 2
  rw [List.map_const', List.map_const', h1, h2]
theorem bad_place {es : List D} {i : Nat} {e e' x : D} (he : es[i]? = some e) (h1 : (plD e').length = (plD e).length) (h2 : exD e' = exD e) (hx : x ∈ plD e') (hb : isPlc x (startOf es i) (startOf es i + (plD e).length) (exitsI es) = false) : isProg (.tup (bentP es i e')) = false := by
  have hi : i < es.length := (List.getElem?_eq_some_iff.mp he).1
  cases hp : isProg (.tup (bentP es i e')) with
  | false => rfl
  | true =>
    have := isProg_place hp (bentP_get hi) hx
    rw [bentP_exits he h1 h2, h1] at this
    unfold startOf at *
    rw [bentP_take hi, hb] at this
    cases this
theorem cut_to {α : Type} {xs : List α} {i : Int} (h0 : 0 ≤ i) : cut xs none (some i) = xs.take i.toNat := by
  unfold cut
  have e1 : HT.sIx xs.length 0 none = 0 := rfl
  have e2 : HT.sIx xs.length xs.length (some i) = min i.toNat xs.length := by
    show (if i < 0 then (i + (xs.length : Int)).toNat else min i.toNat xs.length) = _
    rw [if_neg (by omega)]
  rw [e1, e2, Nat.sub_zero, List.drop_zero]
  rcases Nat.le_total i.toNat xs.length with h | h
  · rw [Nat.min_eq_left h]
  · rw [Nat.min_eq_right h, List.take_of_length_le (Nat.le_refl _), List.take_of_length_le h]
theorem cut_from {α : Type} {xs : List α} {i : Int} (h0 : 0 ≤ i) : cut xs (some i) none = xs.drop i.toNat := by
  unfold cut
  have e1 : HT.sIx xs.length xs.length none = xs.length := rfl
  have e2 : HT.sIx xs.length 0 (some i) = min i.toNat xs.length := by
    show (if i < 0 then (i + (xs.length : Int)).toNat else min i.toNat xs.length) = _
    rw [if_neg (by omega)]
  rw [e1, e2]
  rcases Nat.le_total i.toNat xs.length with h | h
  · rw [Nat.min_eq_left h, List.take_of_length_le (by simp)]
  · rw [Nat.min_eq_right h, List.drop_of_length_le (Nat.le_refl _), List.drop_of_length_le h]; simp
def bentL (xs : List D) (i : Nat) (x : D) : List D := xs.take i ++ x :: xs.drop (i + 1)
theorem bentL_len {xs : List D} {i : Nat} {x : D} (hi : i < xs.length) : (bentL xs i x).length = xs.length := by
  unfold bentL; simp; omega
theorem bentL_mem {xs : List D} {i : Nat} {x : D} : x ∈ bentL xs i x := by unfold bentL; simp
theorem atI_of {xs : List D} {i : Int} (h0 : 0 ≤ i) (h1 : i < xs.length) : ∃ x, xs[i.toNat]? = some x ∧ atI xs i = some x ∧ x ∈ xs := by
  obtain ⟨x, a, b, c⟩ := atI_in h0 h1
  exact ⟨x, b, a, c⟩
def sp_law_bent : SpD := fun ds L Q _ => ∃ (es ps : List D) (i k : Int) (z : Str) (x : Int) (d : D), ds = [.tup es, .int i, .int k, d] ∧ Prg es ∧ 0 ≤ i ∧ i < es.length ∧ es[i.toNat]? = some (.tup [.str z, .int x, .tup ps]) ∧ 0 ≤ k ∧ k < ps.length ∧
  Q (.tup (bentP es i.toNat (.tup [.str z, .int x, .tup (bentL ps k.toNat d)]))) L
theorem len_law_bent : ∀ as L Q E, sp_law_bent as L Q E → as.length = 4 := by rintro _ L Q E ⟨es, ps, i, k, z, x, d, rfl, _⟩; rfl
def d__law_bent_t2 : DS :=
  (sRet (dOp dAdd (dOp dAdd (dSl dCut (dVar 0) dNoPart (dPart (dVar 1))) (dTup (dCons (dVar 4) dNil))) (dSl dCut (dVar 0) (dPart (dOp dAdd (dVar 1) (dC (.int 1)))) dNoPart)))
def d__law_bent_t1 : DS :=
  (sSeq (sAsg (dTup (dCons (dVar 5) (dCons (dVar 6) (dCons (dOp dAdd (dOp dAdd (dSl dCut (dVar 7) dNoPart (dPart (dVar 2))) (dTup (dCons (dVar 3) dNil))) (dSl dCut (dVar 7) (dPart (dOp dAdd (dVar 2) (dC (.int 1)))) dNoPart)) dNil)))) (gdName 4)) d__law_bent_t2)
def d__law_bent : DS :=
  (sSeq (sAsg (dOp dIx (dVar 0) (dVar 1)) (gdTup 3 (gdCons (gdName 5) (gdCons (gdName 6) (gdCons (gdName 7) gdNil))))) d__law_bent_t1)

theorem pure_law_bent : ∀ as L Q E, sp_law_bent as L Q E → d__law_bent (fnEnds Q E) (dstart 8 as) L := by
  rintro as L Q E ⟨es, ps, i, k, z, x, d, rfl, hp, i0, i1, he, k0, k1, q⟩
  have hat : atI es i = some (.tup [.str z, .int x, .tup ps]) := by
    have := atI_nat he
    rwa [show ((i.toNat : Nat) : Int) = i by omega] at this
  have hl := hp.len
  have hps : ps.length ≤ 4000 := (isHead_of (hp.hd _ (List.mem_of_getElem? he))).2.2.2.2.2
  simp only [d__law_bent, d__law_bent_t2, d__law_bent_t1, dVar, dC, dOp, dUn, dNil, dCons, dTup, dLst, dCB, dTest, dAnd, dOr, dNot, dAndV, dOrV, dNotV, dIfE, dChain, sNext, sSeq, sBreak, sCont, sDrop, sRet, sRetN, sIf, gdName, gdNil, gdCons, gdTup, gdSub, sAsg, dCall, xOf, sFor, dSeq, dRng1, dRng2, dI, dI0, dB0, dAdd, dIsN, dNotN, isNon, dIx, dSetL, dNeg, one, two, dLen1, dListOf1, dTupOf1, dAbs1, dIntOf1, dII, marg, dAppend1, dExtend1, dIsi, isA, dSl, dPart, dNoPart, dCut, dLc, dYes, sRaise, sTry, exBy, sPar2, sPar3, dIsBl, dNotBl, dBM, dBM0, dEq, dNe, dIn, dSgn, dLc2, dEnum, dListRg1, dListRg2, dTupRg1, dTupRg2, dStrOf1, dRep, dLenSet, dstart, fnE_nx, fnE_rt, fnE_ex, Nat.zero_le, Nat.reduceLeDiff, decide_true, decide_false, true_or, or_true, false_or, or_false, decide_eq_true_eq, exists_eq_left', exists_eq_left, exists_eq_right, exists_eq_right', Option.some.injEq, List.cons.injEq, D.int.injEq, D.bl.injEq, D.str.injEq, D.tup.injEq, D.lro.injEq, D.ref.injEq, DO.lst.injEq, and_true, true_and, and_false, false_and, exists_false, exists_const, List.getElem?_cons_zero, List.getElem?_cons_succ, List.map_cons, List.map_nil, List.length_cons, List.length_nil, List.replicate_zero, List.replicate_succ, List.append_nil, List.cons_append, List.nil_append, List.set_cons_zero, List.set_cons_succ, Nat.reduceAdd, Nat.reduceSub, Nat.zero_add, reduceIte, Bool.false_eq_true, reduceCtorEq, if_true, if_false, Bool.not_true, Bool.not_false, exists_and_left, hat, cut_to k0, cut_from (show (0 : Int) ≤ k + 1 by omega), cut_to i0, cut_from (show (0 : Int) ≤ i + 1 by omega)]
  have ek : (k + 1).toNat = k.toNat + 1 := by omega
  have ei : (i + 1).toNat = i.toNat + 1 := by omega
  refine ⟨by simp; omega, by simp; omega, by simp; omega, by simp; omega, ?_⟩
  rw [ek, ei]
  have e1 : ps.take k.toNat ++ [d] ++ ps.drop (k.toNat + 1) = bentL ps k.toNat d := by unfold bentL; simp
  have e2 : ∀ y, es.take i.toNat ++ [y] ++ es.drop (i.toNat + 1) = bentP es i.toNat y := fun y => by unfold bentP; simp
  rw [e1, e2]
  exact endOf q
theorem Pl.pyn {L : DH} : ∀ {n : Nat} {d : D}, Pl n d → ∃ p, pyL L n d = some p := by
  intro n
  induction n with
  | zero =>
    intro d h
    cases d with
    | ref a => obtain ⟨p, e⟩ := h; cases e
    | lro a => exact h.elim
    | tup _ => exact h.elim
    | str z => exact ⟨_, pyL_str _ _⟩
    | non => exact ⟨_, pyL_non _⟩
    | bl b => exact ⟨_, pyL_bl _ _⟩
    | int i => exact ⟨_, pyL_int _ _⟩
  | succ n ih =>
    intro d h
    cases d with
    | ref a => obtain ⟨p, e⟩ := h; cases e
    | lro a => exact h.elim
    | tup ds =>
      obtain ⟨_, h⟩ := h
      have : ∀ ds : List D, (∀ d, d ∈ ds → Pl n d) → ∃ ps, optAll (pyL L n) ds = some ps := by
        intro ds
        induction ds with
        | nil => exact fun _ => ⟨[], rfl⟩
        | cons d ds ih2 =>
          intro h
          obtain ⟨p, e⟩ := ih (h d List.mem_cons_self)
          obtain ⟨ps, e2⟩ := ih2 fun d' hd => h d' (List.mem_cons_of_mem _ hd)
          exact ⟨p :: ps, by rw [optAll_cons', e, e2]; rfl⟩
      obtain ⟨ps, e⟩ := this ds h
      exact ⟨_, by rw [pyL_tup, e]; rfl⟩
    | str z => exact ⟨_, pyL_str _ _⟩
    | non => exact ⟨_, pyL_non _⟩
    | bl b => exact ⟨_, pyL_bl _ _⟩
    | int i => exact ⟨_, pyL_int _ _⟩
theorem tm_list {L : DH} {p : Addr} {n : Nat} {es : List D} (h : L p = some (.lst es)) (hp : Pl (n + 1) (.tup es)) (hn : n ≤ 29) : Tm L (.ref p) := by
  obtain ⟨q, e⟩ := hp.pyn (L := L)
  rw [pyL_tup] at e
  obtain ⟨ps, e1, _⟩ := Option.map_eq_some_iff.mp e
  have e2 : pyL L (n + 1) (.ref p) = some (.list ps) := by rw [pyL_ref n h, e1]; rfl
  exact ⟨0, by decide, ⟨_, pyL_mono (by omega) e2⟩⟩
theorem tame_list {L : DH} {p : Addr} {n : Nat} {es : List D} (h : L p = some (.lst es)) (hp : Pl (n + 1) (.tup es)) (hn : n ≤ 29) : Tame L 0 (.ref p) := by
  obtain ⟨k, _, ht⟩ := tm_list h hp hn
  cases k <;> exact ht
theorem tame_up {L : DH} {n m : Nat} {d : D} (h : Tame L n d) (hm : n ≤ m) : Tame L m d := by
  induction m with
  | zero => cases Nat.le_zero.mp hm; exact h
  | succ m ih =>
    rcases Nat.lt_or_ge n (m + 1) with g | g
    · exact (ih (by omega)).up
    · have : n = m + 1 := by omega
      subst this; exact h
theorem Pl.tame {n : Nat} {d : D} (h : Pl n d) (L : DH) : Tame L n d := h.le fun _ _ e => by cases e
def BadNx (mv : Bool) (ns : List Int) (low high : Int) (d : D) : Prop :=
  ((tupV d).all fun x => wthn x low (high - 1)) = false ∨ (if mv = true then isRow d 1 8 = false ∨ ¬ ((tupV d).map intV).Nodup else isRow d ns.length ns.length = false)
def mvS (mv : Bool) : Str := if mv = true then "move" else "call"
def sp_law_bad_nexts : SpD := fun ds L Q _ => ∃ (a b : Addr) (n : Nat) (mv : Bool) (p : D) (ns : List Int) (low high total : Int), ds = [.ref a, .tup [.str (mvS mv), p, .tup (ns.map .int)], .int low, .int high, .int total] ∧ BagAt n L a b ∧ n ≤ 900000000 ∧ 1 ≤ ns.length ∧ ns.length ≤ 24 ∧ 0 ≤ low ∧ low < high ∧ high ≤ total ∧ total ≤ 4000 ∧
  ∀ d L', Ext a L L' → BagAt (n + 10) L' a b → Tame L' 2 d → BadNx mv ns low high d → Q d L'
theorem len_law_bad_nexts : ∀ as L Q E, sp_law_bad_nexts as L Q E → as.length = 5 := by rintro _ L Q E ⟨a, b, n, mv, p, ns, l, h, t, rfl, _⟩; rfl
def d__law_bad_nexts_t7 : DS :=
  (sRet (dOp dAdd (dOp dAdd (dSl dCut (dVar 5) dNoPart (dPart (dVar 6))) (dTup (dCons (dOp dIx (dVar 7) (dCall sp_law_pick (dCons (dVar 0) (dCons (dCB dLen (dCons (dVar 7) dNil)) dNil)))) dNil))) (dSl dCut (dVar 5) (dPart (dOp dAdd (dVar 6) (dC (.int 1)))) dNoPart)))
def d__law_bad_nexts_t6 : DS :=
  (sSeq (sIf (dTest (dOp dEq (dVar 8) (dC (.int 2)))) (sRet (dOp dAdd (dVar 5) (dTup (dCons (dOp dIx (dVar 5) (dVar 6)) dNil)))) sNext) d__law_bad_nexts_t7)
def d__law_bad_nexts_t5 : DS :=
  (sSeq (sIf (dTest (dOp dEq (dVar 8) (dC (.int 1)))) (sRet (dIfE (dTest (dOp dEq (dOp dIx (dVar 1) (dC (.int 0))) (dC (.str "call")))) (dOp dAdd (dSl dCut (dVar 5) dNoPart (dPart (dVar 6))) (dSl dCut (dVar 5) (dPart (dOp dAdd (dVar 6) (dC (.int 1)))) dNoPart)) (dTup dNil))) sNext) d__law_bad_nexts_t6)
def d__law_bad_nexts_t4 : DS :=
  (sSeq (sIf (dTest (dOp dEq (dVar 8) (dC (.int 0)))) (sRet (dCB dListOf (dCons (dVar 5) dNil))) sNext) d__law_bad_nexts_t5)
def d__law_bad_nexts_t3 : DS :=
  (sSeq (sAsg (dCall sp_law_pick (dCons (dVar 0) (dCons (dC (.int 5)) dNil))) (gdName 8)) d__law_bad_nexts_t4)
def d__law_bad_nexts_t2 : DS :=
  (sSeq (sAsg (dOp dAdd (dLc (dRng1 (dCons (dVar 4) dNil)) (gdName 9) (dNot (dTest (dChain dLe dLt (dVar 2) (dVar 9) (dVar 3)))) (dVar 9) [9]) (dLst (dCons (dUn dNeg (dC (.int 1))) (dCons (dVar 4) (dCons (dC (.bl true)) (dCons (dC .non) (dCons (dCB dStrOf (dCons (dVar 2) dNil)) dNil))))))) (gdName 7)) d__law_bad_nexts_t3)
def d__law_bad_nexts_t1 : DS :=
  (sSeq (sAsg (dCall sp_law_pick (dCons (dVar 0) (dCons (dCB dLen (dCons (dVar 5) dNil)) dNil))) (gdName 6)) d__law_bad_nexts_t2)
def d__law_bad_nexts : DS :=
  (sSeq (sAsg (dOp dIx (dVar 1) (dC (.int 2))) (gdName 5)) d__law_bad_nexts_t1)

theorem ints_all {xs : List Int} {i j : Int} (h : ∀ x, x ∈ xs → i ≤ x ∧ x ≤ j) : ((xs.map D.int).all fun x => wthn x i j) = true := all_wthn h
theorem tm_tup {L : DH} {ds : List D} {n : Nat} (hn : n ≤ 29) (hl : ds.length ≤ 16777216) (h : ∀ d, d ∈ ds → Tame L n d) : Tm L (.tup ds) := ⟨n + 1, by omega, hl, h⟩
theorem bad_nx_end {a b : Addr} {n : Nat} {mv : Bool} {ns : List Int} {low high : Int} {L L' : DH} {Q : DK} {d : D} (q : ∀ (d : D) (L' : DH), Ext a L L' → BagAt (n + 10) L' a b → Tame L' 2 d → BadNx mv ns low high d → Q d L') (hx : Ext a L L') (hb : BagAt (n + 10) L' a b) (ht : Tame L' 2 d) (h : BadNx mv ns low high d) : ∃ L2, Le L2 L' ∧ Q d L2 :=
  ⟨L', Le.refl, q d L' hx hb ht h⟩
theorem str_toS (i : Int) : PyData.strOk (Str.ofString (toString i)) = true := strOk_ofString _
theorem leaf_any {L L' : DH} {x : D} (h : Tame L 0 x) (hr : ∀ r, x ≠ .ref r) : Tame L' 0 x := by
  cases x with
  | tup _ => exact h.elim
  | lro _ => exact h.elim
  | ref r => exact absurd rfl (hr r)
  | str z => exact h
  | _ => trivial
theorem bad_nexts_t3 {a b pt : Addr} {n : Nat} {mv : Bool} {p : D} {ns : List Int} {low high total at_ : Int} {others : List D} {L L1 : DH} {Q : DK} {E : XD} (hb : BagAt (n + 1) L1 a b) (hx : Ext a L L1) (hn : n ≤ 900000000) (n1 : 1 ≤ ns.length) (n2 : ns.length ≤ 24) (at0 : 0 ≤ at_) (at1 : at_ < ns.length)
    (ho : L1 pt = some (.lst others)) (hpa : pt ≠ a) (hbad : ∀ x, x ∈ others → Tame L1 0 x ∧ (∀ xs, x ≠ .ref xs) ∧ wthn x low (high - 1) = false) (hol : 1 ≤ others.length) (hol2 : others.length ≤ 100000)
    (q : ∀ (d : D) (L' : DH), Ext a L L' → BagAt (n + 10) L' a b → Tame L' 2 d → BadNx mv ns low high d → Q d L') (o8 o9 : Option D) :
    d__law_bad_nexts_t3 (fnEnds Q E) [some (.ref a), some (.tup [.str (mvS mv), p, .tup (ns.map .int)]), some (.int low), some (.int high), some (.int total), some (.tup (ns.map .int)), some (.int at_), some (.ref pt), o8, o9] L1 := by
  simp only [d__law_bad_nexts_t3, dVar, dC, dOp, dUn, dNil, dCons, dTup, dLst, dCB, dTest, dAnd, dOr, dNot, dAndV, dOrV, dNotV, dIfE, dChain, sNext, sSeq, sBreak, sCont, sDrop, sRet, sRetN, sIf, gdName, gdNil, gdCons, gdTup, gdSub, sAsg, dCall, xOf, sFor, dSeq, dRng1, dRng2, dI, dI0, dB0, dAdd, dIsN, dNotN, isNon, dIx, dSetL, dNeg, one, two, dLen1, dListOf1, dTupOf1, dAbs1, dIntOf1, dII, marg, dAppend1, dExtend1, dIsi, isA, dSl, dPart, dNoPart, dCut, dLc, dYes, sRaise, sTry, exBy, sPar2, sPar3, dIsBl, dNotBl, dBM, dBM0, dEq, dNe, dIn, dSgn, dLc2, dEnum, dListRg1, dListRg2, dTupRg1, dTupRg2, dStrOf1, dRep, dLenSet, dstart, fnE_nx, fnE_rt, fnE_ex, Nat.zero_le, Nat.reduceLeDiff, decide_true, decide_false, true_or, or_true, false_or, or_false, decide_eq_true_eq, exists_eq_left', exists_eq_left, exists_eq_right, exists_eq_right', Option.some.injEq, List.cons.injEq, D.int.injEq, D.bl.injEq, D.str.injEq, D.tup.injEq, D.lro.injEq, D.ref.injEq, DO.lst.injEq, and_true, true_and, and_false, false_and, exists_false, exists_const, List.getElem?_cons_zero, List.getElem?_cons_succ, List.map_cons, List.map_nil, List.length_cons, List.length_nil, List.replicate_zero, List.replicate_succ, List.append_nil, List.cons_append, List.nil_append, List.set_cons_zero, List.set_cons_succ, Nat.reduceAdd, Nat.reduceSub, Nat.zero_add, reduceIte, Bool.false_eq_true, reduceCtorEq, if_true, if_false, Bool.not_true, Bool.not_false, exists_and_left]
  refine ⟨a, b, 5, _, rfl, hb, by omega, by decide, by decide, fun r o r0 r1 hb1 => ?_⟩
  have hx1 := hx.bag (o := o)
  have hints : ∀ (L : DH) (xs : List Int), xs.length ≤ 100 → Tame L 2 (.tup (xs.map .int)) := fun L xs h => (pl_ints (n := 1) (by omega)).tame L
  simp only [d__law_bad_nexts_t4, dVar, dC, dOp, dUn, dNil, dCons, dTup, dLst, dCB, dTest, dAnd, dOr, dNot, dAndV, dOrV, dNotV, dIfE, dChain, sNext, sSeq, sBreak, sCont, sDrop, sRet, sRetN, sIf, gdName, gdNil, gdCons, gdTup, gdSub, sAsg, dCall, xOf, sFor, dSeq, dRng1, dRng2, dI, dI0, dB0, dAdd, dIsN, dNotN, isNon, dIx, dSetL, dNeg, one, two, dLen1, dListOf1, dTupOf1, dAbs1, dIntOf1, dII, marg, dAppend1, dExtend1, dIsi, isA, dSl, dPart, dNoPart, dCut, dLc, dYes, sRaise, sTry, exBy, sPar2, sPar3, dIsBl, dNotBl, dBM, dBM0, dEq, dNe, dIn, dSgn, dLc2, dEnum, dListRg1, dListRg2, dTupRg1, dTupRg2, dStrOf1, dRep, dLenSet, dstart, fnE_nx, fnE_rt, fnE_ex, Nat.zero_le, Nat.reduceLeDiff, decide_true, decide_false, true_or, or_true, false_or, or_false, decide_eq_true_eq, exists_eq_left', exists_eq_left, exists_eq_right, exists_eq_right', Option.some.injEq, List.cons.injEq, D.int.injEq, D.bl.injEq, D.str.injEq, D.tup.injEq, D.lro.injEq, D.ref.injEq, DO.lst.injEq, and_true, true_and, and_false, false_and, exists_false, exists_const, List.getElem?_cons_zero, List.getElem?_cons_succ, List.map_cons, List.map_nil, List.length_cons, List.length_nil, List.replicate_zero, List.replicate_succ, List.append_nil, List.cons_append, List.nil_append, List.set_cons_zero, List.set_cons_succ, Nat.reduceAdd, Nat.reduceSub, Nat.zero_add, reduceIte, Bool.false_eq_true, reduceCtorEq, if_true, if_false, Bool.not_true, Bool.not_false, exists_and_left, eqD_int]
  by_cases c0 : r = 0
  · subst c0
    simp only [beq_self_eq_true, dVar, dC, dOp, dUn, dNil, dCons, dTup, dLst, dCB, dTest, dAnd, dOr, dNot, dAndV, dOrV, dNotV, dIfE, dChain, sNext, sSeq, sBreak, sCont, sDrop, sRet, sRetN, sIf, gdName, gdNil, gdCons, gdTup, gdSub, sAsg, dCall, xOf, sFor, dSeq, dRng1, dRng2, dI, dI0, dB0, dAdd, dIsN, dNotN, isNon, dIx, dSetL, dNeg, one, two, dLen1, dListOf1, dTupOf1, dAbs1, dIntOf1, dII, marg, dAppend1, dExtend1, dIsi, isA, dSl, dPart, dNoPart, dCut, dLc, dYes, sRaise, sTry, exBy, sPar2, sPar3, dIsBl, dNotBl, dBM, dBM0, dEq, dNe, dIn, dSgn, dLc2, dEnum, dListRg1, dListRg2, dTupRg1, dTupRg2, dStrOf1, dRep, dLenSet, dstart, fnE_nx, fnE_rt, fnE_ex, Nat.zero_le, Nat.reduceLeDiff, decide_true, decide_false, true_or, or_true, false_or, or_false, decide_eq_true_eq, exists_eq_left', exists_eq_left, exists_eq_right, exists_eq_right', Option.some.injEq, List.cons.injEq, D.int.injEq, D.bl.injEq, D.str.injEq, D.tup.injEq, D.lro.injEq, D.ref.injEq, DO.lst.injEq, and_true, true_and, and_false, false_and, exists_false, exists_const, List.getElem?_cons_zero, List.getElem?_cons_succ, List.map_cons, List.map_nil, List.length_cons, List.length_nil, List.replicate_zero, List.replicate_succ, List.append_nil, List.cons_append, List.nil_append, List.set_cons_zero, List.set_cons_succ, Nat.reduceAdd, Nat.reduceSub, Nat.zero_add, reduceIte, Bool.false_eq_true, reduceCtorEq, if_true, if_false, Bool.not_true, Bool.not_false, exists_and_left]
    intro p1 hp1
    obtain ⟨pa, pb, hb2⟩ := hb1.new (o := .lst (ns.map .int)) hp1
    refine bad_nx_end q (hx1.new hp1) (hb2.mono (by omega)) (tame_up (tame_list updD_same (n := 0) (pl_ints (by omega)) (by decide)) (by decide)) (.inr ?_)
    cases mv
    · rfl
    · exact .inl rfl
  have c0' : (r == 0) = false := beq_eq_false_iff_ne.mpr c0
  simp only [c0', dVar, dC, dOp, dUn, dNil, dCons, dTup, dLst, dCB, dTest, dAnd, dOr, dNot, dAndV, dOrV, dNotV, dIfE, dChain, sNext, sSeq, sBreak, sCont, sDrop, sRet, sRetN, sIf, gdName, gdNil, gdCons, gdTup, gdSub, sAsg, dCall, xOf, sFor, dSeq, dRng1, dRng2, dI, dI0, dB0, dAdd, dIsN, dNotN, isNon, dIx, dSetL, dNeg, one, two, dLen1, dListOf1, dTupOf1, dAbs1, dIntOf1, dII, marg, dAppend1, dExtend1, dIsi, isA, dSl, dPart, dNoPart, dCut, dLc, dYes, sRaise, sTry, exBy, sPar2, sPar3, dIsBl, dNotBl, dBM, dBM0, dEq, dNe, dIn, dSgn, dLc2, dEnum, dListRg1, dListRg2, dTupRg1, dTupRg2, dStrOf1, dRep, dLenSet, dstart, fnE_nx, fnE_rt, fnE_ex, Nat.zero_le, Nat.reduceLeDiff, decide_true, decide_false, true_or, or_true, false_or, or_false, decide_eq_true_eq, exists_eq_left', exists_eq_left, exists_eq_right, exists_eq_right', Option.some.injEq, List.cons.injEq, D.int.injEq, D.bl.injEq, D.str.injEq, D.tup.injEq, D.lro.injEq, D.ref.injEq, DO.lst.injEq, and_true, true_and, and_false, false_and, exists_false, exists_const, List.getElem?_cons_zero, List.getElem?_cons_succ, List.map_cons, List.map_nil, List.length_cons, List.length_nil, List.replicate_zero, List.replicate_succ, List.append_nil, List.cons_append, List.nil_append, List.set_cons_zero, List.set_cons_succ, Nat.reduceAdd, Nat.reduceSub, Nat.zero_add, reduceIte, Bool.false_eq_true, reduceCtorEq, if_true, if_false, Bool.not_true, Bool.not_false, exists_and_left, d__law_bad_nexts_t5, eqD_int]
  by_cases c1 : r = 1
  · subst c1
    simp only [beq_self_eq_true, dVar, dC, dOp, dUn, dNil, dCons, dTup, dLst, dCB, dTest, dAnd, dOr, dNot, dAndV, dOrV, dNotV, dIfE, dChain, sNext, sSeq, sBreak, sCont, sDrop, sRet, sRetN, sIf, gdName, gdNil, gdCons, gdTup, gdSub, sAsg, dCall, xOf, sFor, dSeq, dRng1, dRng2, dI, dI0, dB0, dAdd, dIsN, dNotN, isNon, dIx, dSetL, dNeg, one, two, dLen1, dListOf1, dTupOf1, dAbs1, dIntOf1, dII, marg, dAppend1, dExtend1, dIsi, isA, dSl, dPart, dNoPart, dCut, dLc, dYes, sRaise, sTry, exBy, sPar2, sPar3, dIsBl, dNotBl, dBM, dBM0, dEq, dNe, dIn, dSgn, dLc2, dEnum, dListRg1, dListRg2, dTupRg1, dTupRg2, dStrOf1, dRep, dLenSet, dstart, fnE_nx, fnE_rt, fnE_ex, Nat.zero_le, Nat.reduceLeDiff, decide_true, decide_false, true_or, or_true, false_or, or_false, decide_eq_true_eq, exists_eq_left', exists_eq_left, exists_eq_right, exists_eq_right', Option.some.injEq, List.cons.injEq, D.int.injEq, D.bl.injEq, D.str.injEq, D.tup.injEq, D.lro.injEq, D.ref.injEq, DO.lst.injEq, and_true, true_and, and_false, false_and, exists_false, exists_const, List.getElem?_cons_zero, List.getElem?_cons_succ, List.map_cons, List.map_nil, List.length_cons, List.length_nil, List.replicate_zero, List.replicate_succ, List.append_nil, List.cons_append, List.nil_append, List.set_cons_zero, List.set_cons_succ, Nat.reduceAdd, Nat.reduceSub, Nat.zero_add, reduceIte, Bool.false_eq_true, reduceCtorEq, if_true, if_false, Bool.not_true, Bool.not_false, exists_and_left, atI0, eqD_str]
    cases mv with
    | true =>
      have e : ((mvS true) == ("call" : Str)) = false := by decide +kernel
      simp only [e, dVar, dC, dOp, dUn, dNil, dCons, dTup, dLst, dCB, dTest, dAnd, dOr, dNot, dAndV, dOrV, dNotV, dIfE, dChain, sNext, sSeq, sBreak, sCont, sDrop, sRet, sRetN, sIf, gdName, gdNil, gdCons, gdTup, gdSub, sAsg, dCall, xOf, sFor, dSeq, dRng1, dRng2, dI, dI0, dB0, dAdd, dIsN, dNotN, isNon, dIx, dSetL, dNeg, one, two, dLen1, dListOf1, dTupOf1, dAbs1, dIntOf1, dII, marg, dAppend1, dExtend1, dIsi, isA, dSl, dPart, dNoPart, dCut, dLc, dYes, sRaise, sTry, exBy, sPar2, sPar3, dIsBl, dNotBl, dBM, dBM0, dEq, dNe, dIn, dSgn, dLc2, dEnum, dListRg1, dListRg2, dTupRg1, dTupRg2, dStrOf1, dRep, dLenSet, dstart, fnE_nx, fnE_rt, fnE_ex, Nat.zero_le, Nat.reduceLeDiff, decide_true, decide_false, true_or, or_true, false_or, or_false, decide_eq_true_eq, exists_eq_left', exists_eq_left, exists_eq_right, exists_eq_right', Option.some.injEq, List.cons.injEq, D.int.injEq, D.bl.injEq, D.str.injEq, D.tup.injEq, D.lro.injEq, D.ref.injEq, DO.lst.injEq, and_true, true_and, and_false, false_and, exists_false, exists_const, List.getElem?_cons_zero, List.getElem?_cons_succ, List.map_cons, List.map_nil, List.length_cons, List.length_nil, List.replicate_zero, List.replicate_succ, List.append_nil, List.cons_append, List.nil_append, List.set_cons_zero, List.set_cons_succ, Nat.reduceAdd, Nat.reduceSub, Nat.zero_add, reduceIte, Bool.false_eq_true, reduceCtorEq, if_true, if_false, Bool.not_true, Bool.not_false, exists_and_left]
      exact bad_nx_end q hx1 (hb1.mono (by omega)) ⟨by simp, by simp⟩ (.inr (.inl rfl))
    | false =>
      have e : ((mvS false) == ("call" : Str)) = true := by decide +kernel
      simp only [e, dVar, dC, dOp, dUn, dNil, dCons, dTup, dLst, dCB, dTest, dAnd, dOr, dNot, dAndV, dOrV, dNotV, dIfE, dChain, sNext, sSeq, sBreak, sCont, sDrop, sRet, sRetN, sIf, gdName, gdNil, gdCons, gdTup, gdSub, sAsg, dCall, xOf, sFor, dSeq, dRng1, dRng2, dI, dI0, dB0, dAdd, dIsN, dNotN, isNon, dIx, dSetL, dNeg, one, two, dLen1, dListOf1, dTupOf1, dAbs1, dIntOf1, dII, marg, dAppend1, dExtend1, dIsi, isA, dSl, dPart, dNoPart, dCut, dLc, dYes, sRaise, sTry, exBy, sPar2, sPar3, dIsBl, dNotBl, dBM, dBM0, dEq, dNe, dIn, dSgn, dLc2, dEnum, dListRg1, dListRg2, dTupRg1, dTupRg2, dStrOf1, dRep, dLenSet, dstart, fnE_nx, fnE_rt, fnE_ex, Nat.zero_le, Nat.reduceLeDiff, decide_true, decide_false, true_or, or_true, false_or, or_false, decide_eq_true_eq, exists_eq_left', exists_eq_left, exists_eq_right, exists_eq_right', Option.some.injEq, List.cons.injEq, D.int.injEq, D.bl.injEq, D.str.injEq, D.tup.injEq, D.lro.injEq, D.ref.injEq, DO.lst.injEq, and_true, true_and, and_false, false_and, exists_false, exists_const, List.getElem?_cons_zero, List.getElem?_cons_succ, List.map_cons, List.map_nil, List.length_cons, List.length_nil, List.replicate_zero, List.replicate_succ, List.append_nil, List.cons_append, List.nil_append, List.set_cons_zero, List.set_cons_succ, Nat.reduceAdd, Nat.reduceSub, Nat.zero_add, reduceIte, Bool.false_eq_true, reduceCtorEq, if_true, if_false, Bool.not_true, Bool.not_false, exists_and_left, cut_to at0, cut_from (show (0 : Int) ≤ at_ + 1 by omega)]
      have ek : (at_ + 1).toNat = at_.toNat + 1 := by omega
      rw [ek]
      have em : (ns.map D.int).take at_.toNat ++ (ns.map D.int).drop (at_.toNat + 1) = (ns.take at_.toNat ++ ns.drop (at_.toNat + 1)).map .int := by simp [List.map_take, List.map_drop]
      rw [em]
      refine ⟨by simp; omega, bad_nx_end q hx1 (hb1.mono (by omega)) (hints _ _ (by simp; omega)) (.inr ?_)⟩
      show isRow (.tup _) ns.length ns.length = false
      exact decide_eq_false (by simp; omega)
  have c1' : (r == 1) = false := beq_eq_false_iff_ne.mpr c1
  simp only [c1', dVar, dC, dOp, dUn, dNil, dCons, dTup, dLst, dCB, dTest, dAnd, dOr, dNot, dAndV, dOrV, dNotV, dIfE, dChain, sNext, sSeq, sBreak, sCont, sDrop, sRet, sRetN, sIf, gdName, gdNil, gdCons, gdTup, gdSub, sAsg, dCall, xOf, sFor, dSeq, dRng1, dRng2, dI, dI0, dB0, dAdd, dIsN, dNotN, isNon, dIx, dSetL, dNeg, one, two, dLen1, dListOf1, dTupOf1, dAbs1, dIntOf1, dII, marg, dAppend1, dExtend1, dIsi, isA, dSl, dPart, dNoPart, dCut, dLc, dYes, sRaise, sTry, exBy, sPar2, sPar3, dIsBl, dNotBl, dBM, dBM0, dEq, dNe, dIn, dSgn, dLc2, dEnum, dListRg1, dListRg2, dTupRg1, dTupRg2, dStrOf1, dRep, dLenSet, dstart, fnE_nx, fnE_rt, fnE_ex, Nat.zero_le, Nat.reduceLeDiff, decide_true, decide_false, true_or, or_true, false_or, or_false, decide_eq_true_eq, exists_eq_left', exists_eq_left, exists_eq_right, exists_eq_right', Option.some.injEq, List.cons.injEq, D.int.injEq, D.bl.injEq, D.str.injEq, D.tup.injEq, D.lro.injEq, D.ref.injEq, DO.lst.injEq, and_true, true_and, and_false, false_and, exists_false, exists_const, List.getElem?_cons_zero, List.getElem?_cons_succ, List.map_cons, List.map_nil, List.length_cons, List.length_nil, List.replicate_zero, List.replicate_succ, List.append_nil, List.cons_append, List.nil_append, List.set_cons_zero, List.set_cons_succ, Nat.reduceAdd, Nat.reduceSub, Nat.zero_add, reduceIte, Bool.false_eq_true, reduceCtorEq, if_true, if_false, Bool.not_true, Bool.not_false, exists_and_left, d__law_bad_nexts_t6, eqD_int]
  obtain ⟨y, hy, hym⟩ := atI_ints (ns := ns) at0 at1
  by_cases c2 : r = 2
  · subst c2
    simp only [beq_self_eq_true, dVar, dC, dOp, dUn, dNil, dCons, dTup, dLst, dCB, dTest, dAnd, dOr, dNot, dAndV, dOrV, dNotV, dIfE, dChain, sNext, sSeq, sBreak, sCont, sDrop, sRet, sRetN, sIf, gdName, gdNil, gdCons, gdTup, gdSub, sAsg, dCall, xOf, sFor, dSeq, dRng1, dRng2, dI, dI0, dB0, dAdd, dIsN, dNotN, isNon, dIx, dSetL, dNeg, one, two, dLen1, dListOf1, dTupOf1, dAbs1, dIntOf1, dII, marg, dAppend1, dExtend1, dIsi, isA, dSl, dPart, dNoPart, dCut, dLc, dYes, sRaise, sTry, exBy, sPar2, sPar3, dIsBl, dNotBl, dBM, dBM0, dEq, dNe, dIn, dSgn, dLc2, dEnum, dListRg1, dListRg2, dTupRg1, dTupRg2, dStrOf1, dRep, dLenSet, dstart, fnE_nx, fnE_rt, fnE_ex, Nat.zero_le, Nat.reduceLeDiff, decide_true, decide_false, true_or, or_true, false_or, or_false, decide_eq_true_eq, exists_eq_left', exists_eq_left, exists_eq_right, exists_eq_right', Option.some.injEq, List.cons.injEq, D.int.injEq, D.bl.injEq, D.str.injEq, D.tup.injEq, D.lro.injEq, D.ref.injEq, DO.lst.injEq, and_true, true_and, and_false, false_and, exists_false, exists_const, List.getElem?_cons_zero, List.getElem?_cons_succ, List.map_cons, List.map_nil, List.length_cons, List.length_nil, List.replicate_zero, List.replicate_succ, List.append_nil, List.cons_append, List.nil_append, List.set_cons_zero, List.set_cons_succ, Nat.reduceAdd, Nat.reduceSub, Nat.zero_add, reduceIte, Bool.false_eq_true, reduceCtorEq, if_true, if_false, Bool.not_true, Bool.not_false, exists_and_left, hy]
    refine ⟨by simp; omega, ?_⟩
    have em : ns.map D.int ++ [.int y] = (ns ++ [y]).map .int := by simp
    rw [em]
    refine bad_nx_end q hx1 (hb1.mono (by omega)) (hints _ _ (by simp; omega)) (.inr ?_)
    cases mv with
    | true =>
      refine .inr fun h => ?_
      rw [show tupV (.tup ((ns ++ [y]).map .int)) = (ns ++ [y]).map .int from rfl, map_intV, List.nodup_append] at h
      exact h.2.2 y hym y (by simp) rfl
    | false =>
      show isRow (.tup _) ns.length ns.length = false
      exact decide_eq_false (by simp; omega)
  have c2' : (r == 2) = false := beq_eq_false_iff_ne.mpr c2
  simp only [c2', dVar, dC, dOp, dUn, dNil, dCons, dTup, dLst, dCB, dTest, dAnd, dOr, dNot, dAndV, dOrV, dNotV, dIfE, dChain, sNext, sSeq, sBreak, sCont, sDrop, sRet, sRetN, sIf, gdName, gdNil, gdCons, gdTup, gdSub, sAsg, dCall, xOf, sFor, dSeq, dRng1, dRng2, dI, dI0, dB0, dAdd, dIsN, dNotN, isNon, dIx, dSetL, dNeg, one, two, dLen1, dListOf1, dTupOf1, dAbs1, dIntOf1, dII, marg, dAppend1, dExtend1, dIsi, isA, dSl, dPart, dNoPart, dCut, dLc, dYes, sRaise, sTry, exBy, sPar2, sPar3, dIsBl, dNotBl, dBM, dBM0, dEq, dNe, dIn, dSgn, dLc2, dEnum, dListRg1, dListRg2, dTupRg1, dTupRg2, dStrOf1, dRep, dLenSet, dstart, fnE_nx, fnE_rt, fnE_ex, Nat.zero_le, Nat.reduceLeDiff, decide_true, decide_false, true_or, or_true, false_or, or_false, decide_eq_true_eq, exists_eq_left', exists_eq_left, exists_eq_right, exists_eq_right', Option.some.injEq, List.cons.injEq, D.int.injEq, D.bl.injEq, D.str.injEq, D.tup.injEq, D.lro.injEq, D.ref.injEq, DO.lst.injEq, and_true, true_and, and_false, false_and, exists_false, exists_const, List.getElem?_cons_zero, List.getElem?_cons_succ, List.map_cons, List.map_nil, List.length_cons, List.length_nil, List.replicate_zero, List.replicate_succ, List.append_nil, List.cons_append, List.nil_append, List.set_cons_zero, List.set_cons_succ, Nat.reduceAdd, Nat.reduceSub, Nat.zero_add, reduceIte, Bool.false_eq_true, reduceCtorEq, if_true, if_false, Bool.not_true, Bool.not_false, exists_and_left, d__law_bad_nexts_t7]
  have ho1 : upd L1 a o pt = some (.lst others) := by rw [updD_ne hpa]; exact ho
  simp only [ho1, dVar, dC, dOp, dUn, dNil, dCons, dTup, dLst, dCB, dTest, dAnd, dOr, dNot, dAndV, dOrV, dNotV, dIfE, dChain, sNext, sSeq, sBreak, sCont, sDrop, sRet, sRetN, sIf, gdName, gdNil, gdCons, gdTup, gdSub, sAsg, dCall, xOf, sFor, dSeq, dRng1, dRng2, dI, dI0, dB0, dAdd, dIsN, dNotN, isNon, dIx, dSetL, dNeg, one, two, dLen1, dListOf1, dTupOf1, dAbs1, dIntOf1, dII, marg, dAppend1, dExtend1, dIsi, isA, dSl, dPart, dNoPart, dCut, dLc, dYes, sRaise, sTry, exBy, sPar2, sPar3, dIsBl, dNotBl, dBM, dBM0, dEq, dNe, dIn, dSgn, dLc2, dEnum, dListRg1, dListRg2, dTupRg1, dTupRg2, dStrOf1, dRep, dLenSet, dstart, fnE_nx, fnE_rt, fnE_ex, Nat.zero_le, Nat.reduceLeDiff, decide_true, decide_false, true_or, or_true, false_or, or_false, decide_eq_true_eq, exists_eq_left', exists_eq_left, exists_eq_right, exists_eq_right', Option.some.injEq, List.cons.injEq, D.int.injEq, D.bl.injEq, D.str.injEq, D.tup.injEq, D.lro.injEq, D.ref.injEq, DO.lst.injEq, and_true, true_and, and_false, false_and, exists_false, exists_const, List.getElem?_cons_zero, List.getElem?_cons_succ, List.map_cons, List.map_nil, List.length_cons, List.length_nil, List.replicate_zero, List.replicate_succ, List.append_nil, List.cons_append, List.nil_append, List.set_cons_zero, List.set_cons_succ, Nat.reduceAdd, Nat.reduceSub, Nat.zero_add, reduceIte, Bool.false_eq_true, reduceCtorEq, if_true, if_false, Bool.not_true, Bool.not_false, exists_and_left, cut_to at0, cut_from (show (0 : Int) ≤ at_ + 1 by omega)]
  refine ⟨a, b, _, _, rfl, hb1, by omega, by omega, big_m (by omega), fun r2 o2 r20 r21 hb2 => ?_⟩
  rw [updD_upd] at hb2 ⊢
  obtain ⟨x, hx2, _, hxm⟩ := atI_in r20 r21
  obtain ⟨b1, b2, b3⟩ := hbad x hxm
  have ho2 : upd L1 a o2 pt = some (.lst others) := by rw [updD_ne hpa]; exact ho
  refine ⟨_, ho2, x, hx2, ?_⟩
  have ek : (at_ + 1).toNat = at_.toNat + 1 := by omega
  rw [ek]
  refine ⟨by simp; omega, by simp; omega, ?_⟩
  refine bad_nx_end q hx.bag (hb2.mono (by omega)) ?_ (.inl ?_)
  · refine tame_up (n := 1) (m := 2) ⟨by simp; omega, fun d hd => ?_⟩ (by decide)
    rcases List.mem_append.mp hd with hd | hd
    · rcases List.mem_append.mp hd with hd | hd
      · obtain ⟨z, _, rfl⟩ := List.mem_map.mp (List.mem_of_mem_take hd)
        trivial
      · have : d = x := by simpa using hd
        subst this
        exact leaf_any b1 b2
    · obtain ⟨z, _, rfl⟩ := List.mem_map.mp (List.mem_of_mem_drop hd)
      trivial
  · show ((ns.map D.int).take at_.toNat ++ [x] ++ (ns.map D.int).drop (at_.toNat + 1)).all _ = false
    rw [List.all_append, List.all_append]
    simp [b3]
theorem sfx_len4 : ∀ j : Nat, j < 4001 → (sfxL j).length ≤ 4 := by decide +kernel
theorem log_small {i : Int} (h : i.natAbs < 2 ^ 20) : i.natAbs.log2 < 1920 := by
  rcases Nat.eq_zero_or_pos i.natAbs with h0 | h0
  · rw [h0]; decide
  · have := (Nat.log2_lt (n := i.natAbs) (k := 20) (by omega)).mpr h
    omega
theorem pure_law_bad_nexts : ∀ as L Q E, sp_law_bad_nexts as L Q E → d__law_bad_nexts (fnEnds Q E) (dstart 10 as) L := by
  rintro as L Q E ⟨a, b, n, mv, p, ns, low, high, total, rfl, hb, hn, n1, n2, l0, l1, h1, t1, q⟩
  simp only [d__law_bad_nexts, dVar, dC, dOp, dUn, dNil, dCons, dTup, dLst, dCB, dTest, dAnd, dOr, dNot, dAndV, dOrV, dNotV, dIfE, dChain, sNext, sSeq, sBreak, sCont, sDrop, sRet, sRetN, sIf, gdName, gdNil, gdCons, gdTup, gdSub, sAsg, dCall, xOf, sFor, dSeq, dRng1, dRng2, dI, dI0, dB0, dAdd, dIsN, dNotN, isNon, dIx, dSetL, dNeg, one, two, dLen1, dListOf1, dTupOf1, dAbs1, dIntOf1, dII, marg, dAppend1, dExtend1, dIsi, isA, dSl, dPart, dNoPart, dCut, dLc, dYes, sRaise, sTry, exBy, sPar2, sPar3, dIsBl, dNotBl, dBM, dBM0, dEq, dNe, dIn, dSgn, dLc2, dEnum, dListRg1, dListRg2, dTupRg1, dTupRg2, dStrOf1, dRep, dLenSet, dstart, fnE_nx, fnE_rt, fnE_ex, Nat.zero_le, Nat.reduceLeDiff, decide_true, decide_false, true_or, or_true, false_or, or_false, decide_eq_true_eq, exists_eq_left', exists_eq_left, exists_eq_right, exists_eq_right', Option.some.injEq, List.cons.injEq, D.int.injEq, D.bl.injEq, D.str.injEq, D.tup.injEq, D.lro.injEq, D.ref.injEq, DO.lst.injEq, and_true, true_and, and_false, false_and, exists_false, exists_const, List.getElem?_cons_zero, List.getElem?_cons_succ, List.map_cons, List.map_nil, List.length_cons, List.length_nil, List.replicate_zero, List.replicate_succ, List.append_nil, List.cons_append, List.nil_append, List.set_cons_zero, List.set_cons_succ, Nat.reduceAdd, Nat.reduceSub, Nat.zero_add, reduceIte, Bool.false_eq_true, reduceCtorEq, if_true, if_false, Bool.not_true, Bool.not_false, exists_and_left, atI2]
  simp only [d__law_bad_nexts_t1, dVar, dC, dOp, dUn, dNil, dCons, dTup, dLst, dCB, dTest, dAnd, dOr, dNot, dAndV, dOrV, dNotV, dIfE, dChain, sNext, sSeq, sBreak, sCont, sDrop, sRet, sRetN, sIf, gdName, gdNil, gdCons, gdTup, gdSub, sAsg, dCall, xOf, sFor, dSeq, dRng1, dRng2, dI, dI0, dB0, dAdd, dIsN, dNotN, isNon, dIx, dSetL, dNeg, one, two, dLen1, dListOf1, dTupOf1, dAbs1, dIntOf1, dII, marg, dAppend1, dExtend1, dIsi, isA, dSl, dPart, dNoPart, dCut, dLc, dYes, sRaise, sTry, exBy, sPar2, sPar3, dIsBl, dNotBl, dBM, dBM0, dEq, dNe, dIn, dSgn, dLc2, dEnum, dListRg1, dListRg2, dTupRg1, dTupRg2, dStrOf1, dRep, dLenSet, dstart, fnE_nx, fnE_rt, fnE_ex, Nat.zero_le, Nat.reduceLeDiff, decide_true, decide_false, true_or, or_true, false_or, or_false, decide_eq_true_eq, exists_eq_left', exists_eq_left, exists_eq_right, exists_eq_right', Option.some.injEq, List.cons.injEq, D.int.injEq, D.bl.injEq, D.str.injEq, D.tup.injEq, D.lro.injEq, D.ref.injEq, DO.lst.injEq, and_true, true_and, and_false, false_and, exists_false, exists_const, List.getElem?_cons_zero, List.getElem?_cons_succ, List.map_cons, List.map_nil, List.length_cons, List.length_nil, List.replicate_zero, List.replicate_succ, List.append_nil, List.cons_append, List.nil_append, List.set_cons_zero, List.set_cons_succ, Nat.reduceAdd, Nat.reduceSub, Nat.zero_add, reduceIte, Bool.false_eq_true, reduceCtorEq, if_true, if_false, Bool.not_true, Bool.not_false, exists_and_left]
  refine ⟨a, b, _, n, rfl, hb, by omega, by simp; omega, big_m (by simp; omega), fun at_ o at0 at1 hb1 => ?_⟩
  simp only [d__law_bad_nexts_t2, dVar, dC, dOp, dUn, dNil, dCons, dTup, dLst, dCB, dTest, dAnd, dOr, dNot, dAndV, dOrV, dNotV, dIfE, dChain, sNext, sSeq, sBreak, sCont, sDrop, sRet, sRetN, sIf, gdName, gdNil, gdCons, gdTup, gdSub, sAsg, dCall, xOf, sFor, dSeq, dRng1, dRng2, dI, dI0, dB0, dAdd, dIsN, dNotN, isNon, dIx, dSetL, dNeg, one, two, dLen1, dListOf1, dTupOf1, dAbs1, dIntOf1, dII, marg, dAppend1, dExtend1, dIsi, isA, dSl, dPart, dNoPart, dCut, dLc, dYes, sRaise, sTry, exBy, sPar2, sPar3, dIsBl, dNotBl, dBM, dBM0, dEq, dNe, dIn, dSgn, dLc2, dEnum, dListRg1, dListRg2, dTupRg1, dTupRg2, dStrOf1, dRep, dLenSet, dstart, fnE_nx, fnE_rt, fnE_ex, Nat.zero_le, Nat.reduceLeDiff, decide_true, decide_false, true_or, or_true, false_or, or_false, decide_eq_true_eq, exists_eq_left', exists_eq_left, exists_eq_right, exists_eq_right', Option.some.injEq, List.cons.injEq, D.int.injEq, D.bl.injEq, D.str.injEq, D.tup.injEq, D.lro.injEq, D.ref.injEq, DO.lst.injEq, and_true, true_and, and_false, false_and, exists_false, exists_const, List.getElem?_cons_zero, List.getElem?_cons_succ, List.map_cons, List.map_nil, List.length_cons, List.length_nil, List.replicate_zero, List.replicate_succ, List.append_nil, List.cons_append, List.nil_append, List.set_cons_zero, List.set_cons_succ, Nat.reduceAdd, Nat.reduceSub, Nat.zero_add, reduceIte, Bool.false_eq_true, reduceCtorEq, if_true, if_false, Bool.not_true, Bool.not_false, exists_and_left, dwipe]
  refine ⟨⟨by omega, by omega⟩, ?_⟩
  let keep : D → Bool := fun d => match d with
    | .int i => decide (¬ (low ≤ i ∧ i < high))
    | _ => false
  refine lcD_pure keep id _ trivial _ (fun d hd Kt Kf c1 c2 => ?_) [] (by rw [rngD_length]; simp; omega) ?_
  · obtain ⟨i, rfl, i0, i1⟩ := mem_rngD hd
    have c1 : decide (¬ (low ≤ i ∧ i < high)) = true → Kt (.int i) (upd L a o) := c1
    have c2 : decide (¬ (low ≤ i ∧ i < high)) = false → Kf (upd L a o) := c2
    simp only [dVar, dC, dOp, dUn, dNil, dCons, dTup, dLst, dCB, dTest, dAnd, dOr, dNot, dAndV, dOrV, dNotV, dIfE, dChain, sNext, sSeq, sBreak, sCont, sDrop, sRet, sRetN, sIf, gdName, gdNil, gdCons, gdTup, gdSub, sAsg, dCall, xOf, sFor, dSeq, dRng1, dRng2, dI, dI0, dB0, dAdd, dIsN, dNotN, isNon, dIx, dSetL, dNeg, one, two, dLen1, dListOf1, dTupOf1, dAbs1, dIntOf1, dII, marg, dAppend1, dExtend1, dIsi, isA, dSl, dPart, dNoPart, dCut, dLc, dYes, sRaise, sTry, exBy, sPar2, sPar3, dIsBl, dNotBl, dBM, dBM0, dEq, dNe, dIn, dSgn, dLc2, dEnum, dListRg1, dListRg2, dTupRg1, dTupRg2, dStrOf1, dRep, dLenSet, dstart, fnE_nx, fnE_rt, fnE_ex, Nat.zero_le, Nat.reduceLeDiff, decide_true, decide_false, true_or, or_true, false_or, or_false, decide_eq_true_eq, exists_eq_left', exists_eq_left, exists_eq_right, exists_eq_right', Option.some.injEq, List.cons.injEq, D.int.injEq, D.bl.injEq, D.str.injEq, D.tup.injEq, D.lro.injEq, D.ref.injEq, DO.lst.injEq, and_true, true_and, and_false, false_and, exists_false, exists_const, List.getElem?_cons_zero, List.getElem?_cons_succ, List.map_cons, List.map_nil, List.length_cons, List.length_nil, List.replicate_zero, List.replicate_succ, List.append_nil, List.cons_append, List.nil_append, List.set_cons_zero, List.set_cons_succ, Nat.reduceAdd, Nat.reduceSub, Nat.zero_add, reduceIte, Bool.false_eq_true, reduceCtorEq, if_true, if_false, Bool.not_true, Bool.not_false, exists_and_left]
    by_cases e1 : low ≤ i
    · rw [if_pos e1]
      by_cases e2 : i < high
      · simp only [e2, dVar, dC, dOp, dUn, dNil, dCons, dTup, dLst, dCB, dTest, dAnd, dOr, dNot, dAndV, dOrV, dNotV, dIfE, dChain, sNext, sSeq, sBreak, sCont, sDrop, sRet, sRetN, sIf, gdName, gdNil, gdCons, gdTup, gdSub, sAsg, dCall, xOf, sFor, dSeq, dRng1, dRng2, dI, dI0, dB0, dAdd, dIsN, dNotN, isNon, dIx, dSetL, dNeg, one, two, dLen1, dListOf1, dTupOf1, dAbs1, dIntOf1, dII, marg, dAppend1, dExtend1, dIsi, isA, dSl, dPart, dNoPart, dCut, dLc, dYes, sRaise, sTry, exBy, sPar2, sPar3, dIsBl, dNotBl, dBM, dBM0, dEq, dNe, dIn, dSgn, dLc2, dEnum, dListRg1, dListRg2, dTupRg1, dTupRg2, dStrOf1, dRep, dLenSet, dstart, fnE_nx, fnE_rt, fnE_ex, Nat.zero_le, Nat.reduceLeDiff, decide_true, decide_false, true_or, or_true, false_or, or_false, decide_eq_true_eq, exists_eq_left', exists_eq_left, exists_eq_right, exists_eq_right', Option.some.injEq, List.cons.injEq, D.int.injEq, D.bl.injEq, D.str.injEq, D.tup.injEq, D.lro.injEq, D.ref.injEq, DO.lst.injEq, and_true, true_and, and_false, false_and, exists_false, exists_const, List.getElem?_cons_zero, List.getElem?_cons_succ, List.map_cons, List.map_nil, List.length_cons, List.length_nil, List.replicate_zero, List.replicate_succ, List.append_nil, List.cons_append, List.nil_append, List.set_cons_zero, List.set_cons_succ, Nat.reduceAdd, Nat.reduceSub, Nat.zero_add, reduceIte, Bool.false_eq_true, reduceCtorEq, if_true, if_false, Bool.not_true, Bool.not_false, exists_and_left]
        exact c2 (by simp [e1, e2])
      · simp only [e2, dVar, dC, dOp, dUn, dNil, dCons, dTup, dLst, dCB, dTest, dAnd, dOr, dNot, dAndV, dOrV, dNotV, dIfE, dChain, sNext, sSeq, sBreak, sCont, sDrop, sRet, sRetN, sIf, gdName, gdNil, gdCons, gdTup, gdSub, sAsg, dCall, xOf, sFor, dSeq, dRng1, dRng2, dI, dI0, dB0, dAdd, dIsN, dNotN, isNon, dIx, dSetL, dNeg, one, two, dLen1, dListOf1, dTupOf1, dAbs1, dIntOf1, dII, marg, dAppend1, dExtend1, dIsi, isA, dSl, dPart, dNoPart, dCut, dLc, dYes, sRaise, sTry, exBy, sPar2, sPar3, dIsBl, dNotBl, dBM, dBM0, dEq, dNe, dIn, dSgn, dLc2, dEnum, dListRg1, dListRg2, dTupRg1, dTupRg2, dStrOf1, dRep, dLenSet, dstart, fnE_nx, fnE_rt, fnE_ex, Nat.zero_le, Nat.reduceLeDiff, decide_true, decide_false, true_or, or_true, false_or, or_false, decide_eq_true_eq, exists_eq_left', exists_eq_left, exists_eq_right, exists_eq_right', Option.some.injEq, List.cons.injEq, D.int.injEq, D.bl.injEq, D.str.injEq, D.tup.injEq, D.lro.injEq, D.ref.injEq, DO.lst.injEq, and_true, true_and, and_false, false_and, exists_false, exists_const, List.getElem?_cons_zero, List.getElem?_cons_succ, List.map_cons, List.map_nil, List.length_cons, List.length_nil, List.replicate_zero, List.replicate_succ, List.append_nil, List.cons_append, List.nil_append, List.set_cons_zero, List.set_cons_succ, Nat.reduceAdd, Nat.reduceSub, Nat.zero_add, reduceIte, Bool.false_eq_true, reduceCtorEq, if_true, if_false, Bool.not_true, Bool.not_false, exists_and_left]
        exact c1 (by simp [e2])
    · rw [if_neg e1]
      exact c1 (by simp [e1])
  · intro p1 hp1
    obtain ⟨p1a, p1b, hb2⟩ := hb1.new (o := .lst ([] ++ ((rngD 0 total.toNat).filter keep).map id)) hp1
    refine ⟨log_small (by omega), fun p2 hp2 => ?_⟩
    obtain ⟨p2a, p2b, hb3⟩ := hb2.new (o := .lst [.int (-1), .int total, .bl true, .non, .str (Str.ofString (toString low))]) hp2
    have n12 : p1 ≠ p2 := fresh_ne updD_same hp2
    have hfl : ((rngD 0 total.toNat).filter keep).length ≤ 4000 := by
      have := List.length_filter_le keep (rngD 0 total.toNat)
      rw [rngD_length] at this
      omega
    refine ⟨_, by rw [updD_ne n12, updD_same], _, updD_same, by simp; omega, fun p3 hp3 => ?_⟩
    obtain ⟨p3a, p3b, hb4⟩ := hb3.new (o := .lst (([] ++ ((rngD 0 total.toNat).filter keep).map id) ++ [.int (-1), .int total, .bl true, .non, .str (Str.ofString (toString low))])) hp3
    refine bad_nexts_t3 hb4 (((Ext.refl.bag.new hp1).new hp2).new hp3) hn n1 n2 at0 (by simpa using at1) updD_same p3a ?_ (by simp) (by simp; omega) q _ _
    intro x hx
    rw [List.nil_append, List.map_id] at hx
    rcases List.mem_append.mp hx with hx | hx
    · obtain ⟨h1, h2⟩ := List.mem_filter.mp hx
      obtain ⟨i, rfl, i0, i1⟩ := mem_rngD h1
      have h2 : decide (¬ (low ≤ i ∧ i < high)) = true := h2
      have h2 := of_decide_eq_true h2
      exact ⟨trivial, by simp, decide_eq_false (by omega)⟩
    · simp only [List.mem_cons, List.not_mem_nil, or_false] at hx
      rcases hx with rfl | rfl | rfl | rfl | rfl
      · exact ⟨trivial, by simp, decide_eq_false (by omega)⟩
      · exact ⟨trivial, by simp, decide_eq_false (by omega)⟩
      · exact ⟨trivial, by simp, rfl⟩
      · exact ⟨trivial, by simp, rfl⟩
      · refine ⟨?_, by simp, rfl⟩
        obtain ⟨j, rfl⟩ : ∃ j : Nat, low = j := ⟨low.toNat, by omega⟩
        show (sfx j).length ≤ 16777216
        have := sfx_len4 j (by omega)
        rw [str_len, sfx_eq]
        omega
end D2

set_option Elab.async false
set_option linter.all false
set_option maxRecDepth 100000
set_option maxHeartbeats 1000000
namespace D2
open PySem PySem.Spec PyProof.Rows L2
/-! ### what a place is, taken apart -/
theorem isStr_eq {d : D} {z : Str} (h : isStr d z = true) : d = .str z := by
  cases d with
  | str x => exact congrArg D.str (by simpa [isStr] using h)
  | _ => cases h
inductive WhatC (i j : Int) (ex : List Int) : D → Prop
  | move (p : Int) (ns : List Int) : 0 ≤ p → p ≤ 1 → 1 ≤ ns.length → ns.length ≤ 8 → ns.Nodup → (∀ x, x ∈ ns → i ≤ x ∧ x ≤ j - 1) → WhatC i j ex (.tup [.str "move", .int p, .tup (ns.map .int)])
  | call (c : Int) (ns : List Int) : 0 ≤ c → c ≤ (ex.length : Int) - 1 → (ns.length : Int) = ex.getD c.toNat 0 → (∀ x, x ∈ ns → i ≤ x ∧ x ≤ j - 1) → WhatC i j ex (.tup [.str "call", .int c, .tup (ns.map .int)])
  | exit (e : Int) : 0 ≤ e → e ≤ ex.getD i.toNat 0 - 1 → WhatC i j ex (.tup [.str "exit", .int e])
theorem ints_ex {xs : List D} {i j : Int} (h : (xs.all fun x => wthn x i j) = true) : ∃ ns : List Int, xs = ns.map .int ∧ ∀ x, x ∈ ns → i ≤ x ∧ x ≤ j := by
  refine ⟨xs.map intV, ints_of h, fun x hx => ?_⟩
  obtain ⟨d, hd, rfl⟩ := List.mem_map.mp hx
  obtain ⟨y, rfl, a, b⟩ := wthn_int (List.all_eq_true.mp h d hd)
  exact ⟨a, b⟩
theorem plc_cases {d : D} {i j : Int} {ex : List Int} (h : isPlc d i j ex = true) : ∃ (m : Int) (w : D), d = .tup [.int m, w] ∧ 0 ≤ m ∧ m ≤ 9 ∧ WhatC i j ex w := by
  obtain ⟨m, w, rfl⟩ := isPlc_row h
  have h : (wthn m 0 9 && (isMove w i j || isCall w i j ex || isExit w (ex.getD i.toNat 0))) = true := h
  rw [Bool.and_eq_true, Bool.or_eq_true, Bool.or_eq_true] at h
  obtain ⟨h1, h2⟩ := h
  obtain ⟨m, rfl, m0, m1⟩ := wthn_int h1
  refine ⟨m, w, rfl, m0, m1, ?_⟩
  rcases h2 with (h2 | h2) | h2
  · obtain ⟨a, b, c, rfl⟩ := isMove_row h2
    have h2 : (isStr a "move" && wthn b 0 1 && isRow c 1 8 && ((tupV c).all fun x => wthn x i (j - 1)) && decide ((tupV c).map intV).Nodup) = true := h2
    simp only [Bool.and_eq_true, decide_eq_true_eq] at h2
    obtain ⟨⟨⟨⟨e1, e2⟩, e3⟩, e4⟩, e5⟩ := h2
    obtain ⟨p, rfl, p0, p1⟩ := wthn_int e2
    obtain ⟨xs, rfl, x0, x1⟩ := isRow_tup e3
    obtain ⟨ns, hn, hin⟩ := ints_ex (xs := xs) e4
    subst hn
    rw [isStr_eq e1]
    have e5 : ((ns.map D.int).map intV).Nodup := e5
    rw [map_intV] at e5
    exact .move p ns p0 p1 (by simp at x0; omega) (by simp at x1; omega) e5 hin
  · obtain ⟨a, b, c, rfl⟩ := isCall_row h2
    have h2 : (isStr a "call" && wthn b 0 ((ex.length : Int) - 1) && isRow c (ex.getD (intV b).toNat 0) (ex.getD (intV b).toNat 0) && ((tupV c).all fun x => wthn x i (j - 1))) = true := h2
    simp only [Bool.and_eq_true] at h2
    obtain ⟨⟨⟨e1, e2⟩, e3⟩, e4⟩ := h2
    obtain ⟨p, rfl, p0, p1⟩ := wthn_int e2
    obtain ⟨xs, rfl, x0, x1⟩ := isRow_tup e3
    obtain ⟨ns, hn, hin⟩ := ints_ex (xs := xs) e4
    subst hn
    rw [isStr_eq e1]
    rw [List.length_map] at x0 x1
    exact .call p ns p0 p1 (Int.le_antisymm x1 x0) hin
  · obtain ⟨a, b, rfl⟩ := isExit_row h2
    have h2 : (isStr a "exit" && wthn b 0 (ex.getD i.toNat 0 - 1)) = true := h2
    rw [Bool.and_eq_true] at h2
    obtain ⟨p, rfl, p0, p1⟩ := wthn_int h2.2
    rw [isStr_eq h2.1]
    exact .exit p p0 p1
/-! what is no place -/
theorem np_mark {m w : D} {i j : Int} {ex : List Int} (h : wthn m 0 9 = false) : isPlc (.tup [m, w]) i j ex = false := by
  show (wthn m 0 9 && _) = false
  rw [h]; rfl
theorem np_row {d : D} {i j : Int} {ex : List Int} (h : isRow d 2 2 = false) : isPlc d i j ex = false := row2_no (P := fun d => isPlc d i j ex) h fun x => isPlc_row
theorem np_what {m w : D} {i j : Int} {ex : List Int} (h1 : isMove w i j = false) (h2 : isCall w i j ex = false) (h3 : isExit w (ex.getD i.toNat 0) = false) : isPlc (.tup [m, w]) i j ex = false := by
  show (wthn m 0 9 && (isMove w i j || isCall w i j ex || isExit w (ex.getD i.toNat 0))) = false
  rw [h1, h2, h3]; simp
theorem np_nolist {m w : D} {i j : Int} {ex : List Int} (h : ∀ xs, w ≠ .tup xs) : isPlc (.tup [m, w]) i j ex = false := by
  refine np_what ?_ ?_ ?_
  · cases e : isMove w i j with
    | false => rfl
    | true => obtain ⟨a, b, c, e⟩ := isMove_row e; exact absurd e (h _)
  · cases e : isCall w i j ex with
    | false => rfl
    | true => obtain ⟨a, b, c, e⟩ := isCall_row e; exact absurd e (h _)
  · cases e : isExit w (ex.getD i.toNat 0) with
    | false => rfl
    | true => obtain ⟨a, b, e⟩ := isExit_row e; exact absurd e (h _)
theorem isMove_hd {a : D} {r : List D} {i j : Int} (h : isStr a "move" = false) : isMove (.tup (a :: r)) i j = false := by
  cases e : isMove (.tup (a :: r)) i j with
  | false => rfl
  | true =>
    obtain ⟨x, b, c, e2⟩ := isMove_row e
    cases e2
    have e : (isStr a "move" && wthn b 0 1 && isRow c 1 8 && ((tupV c).all fun x => wthn x i (j - 1)) && decide ((tupV c).map intV).Nodup) = true := e
    rw [h] at e; cases e
theorem isCall_hd {a : D} {r : List D} {i j : Int} {ex : List Int} (h : isStr a "call" = false) : isCall (.tup (a :: r)) i j ex = false := by
  cases e : isCall (.tup (a :: r)) i j ex with
  | false => rfl
  | true =>
    obtain ⟨x, b, c, e2⟩ := isCall_row e
    cases e2
    have e : (isStr a "call" && wthn b 0 ((ex.length : Int) - 1) && isRow c (ex.getD (intV b).toNat 0) (ex.getD (intV b).toNat 0) && ((tupV c).all fun x => wthn x i (j - 1))) = true := e
    rw [h] at e; cases e
theorem isExit_hd {a : D} {r : List D} {i : Int} (h : isStr a "exit" = false) : isExit (.tup (a :: r)) i = false := by
  cases e : isExit (.tup (a :: r)) i with
  | false => rfl
  | true =>
    obtain ⟨x, b, e2⟩ := isExit_row e
    cases e2
    have e : (isStr a "exit" && wthn b 0 (i - 1)) = true := e
    rw [h] at e; cases e
theorem np_hd {m a : D} {r : List D} {i j : Int} {ex : List Int} (h1 : isStr a "move" = false) (h2 : isStr a "call" = false) (h3 : isStr a "exit" = false) : isPlc (.tup [m, .tup (a :: r)]) i j ex = false := np_what (isMove_hd h1) (isCall_hd h2) (isExit_hd h3)
theorem s_mc : isStr (.str "move") "call" = false ∧ isStr (.str "move") "exit" = false ∧ isStr (.str "call") "move" = false ∧ isStr (.str "call") "exit" = false ∧ isStr (.str "exit") "move" = false ∧ isStr (.str "exit") "call" = false := by decide +kernel
theorem np_exit {m y : D} {i j : Int} {ex : List Int} (h : wthn y 0 (ex.getD i.toNat 0 - 1) = false) : isPlc (.tup [m, .tup [.str "exit", y]]) i j ex = false := by
  refine np_what (isMove_hd s_mc.2.2.2.2.1) (isCall_hd s_mc.2.2.2.2.2) ?_
  show (isStr (.str "exit") "exit" && wthn y 0 (ex.getD i.toNat 0 - 1)) = false
  rw [h, Bool.and_false]
theorem np_move {m y c : D} {i j : Int} {ex : List Int} (h : wthn y 0 1 = false ∨ isRow c 1 8 = false ∨ ((tupV c).all fun x => wthn x i (j - 1)) = false ∨ ¬ ((tupV c).map intV).Nodup) : isPlc (.tup [m, .tup [.str "move", y, c]]) i j ex = false := by
  refine np_what ?_ (isCall_hd s_mc.1) (isExit_hd s_mc.2.1)
  show (isStr (.str "move") "move" && wthn y 0 1 && isRow c 1 8 && ((tupV c).all fun x => wthn x i (j - 1)) && decide ((tupV c).map intV).Nodup) = false
  rcases h with h | h | h | h
  · rw [h]; simp
  · rw [h]; simp
  · rw [h]; simp
  · rw [decide_eq_false h]; simp
theorem np_call {m y c : D} {i j : Int} {ex : List Int} (h : wthn y 0 ((ex.length : Int) - 1) = false ∨ isRow c (ex.getD (intV y).toNat 0) (ex.getD (intV y).toNat 0) = false ∨ ((tupV c).all fun x => wthn x i (j - 1)) = false) : isPlc (.tup [m, .tup [.str "call", y, c]]) i j ex = false := by
  refine np_what (isMove_hd s_mc.2.2.1) ?_ (isExit_hd s_mc.2.2.2.1)
  show (isStr (.str "call") "call" && wthn y 0 ((ex.length : Int) - 1) && isRow c (ex.getD (intV y).toNat 0) (ex.getD (intV y).toNat 0) && ((tupV c).all fun x => wthn x i (j - 1))) = false
  rcases h with h | h | h
  · rw [h]; simp
  · rw [h]; simp
  · rw [h]; simp
theorem exitsI_get {es : List D} {i : Nat} {e : D} (he : es[i]? = some e) (h1 : 1 ≤ (plD e).length) : (exitsI es).getD (startOf es i).toNat 0 = exD e := by
  have hi : i < es.length := (List.getElem?_eq_some_iff.mp he).1
  have e1 : es = es.take i ++ e :: es.drop (i + 1) := by
    have := List.take_append_drop i es
    rw [List.drop_eq_getElem_cons hi, (List.getElem?_eq_some_iff.mp he).2] at this
    exact this.symm
  have e2 : (startOf es i).toNat = (exitsI (es.take i)).length := by
    rw [exitsI_len]; unfold startOf; omega
  have e3 : exitsI es = exitsI (es.take i) ++ (((plD e).map fun _ => exD e) ++ exitsI (es.drop (i + 1))) := by
    conv => lhs; rw [e1]
    unfold exitsI
    rw [List.flatMap_append, List.flatMap_cons]
  rw [e2, e3, List.getD_eq_getElem?_getD, List.getElem?_append_right (Nat.le_refl _), Nat.sub_self, List.getElem?_append_left (by simp; omega), List.map_const', List.getElem?_replicate, if_pos (by omega)]
  rfl
theorem pl_mem {n : Nat} {es : List D} (h : Pl (n + 1) (.tup es)) {e : D} (he : e ∈ es) : Pl n e := h.2 e he
theorem Ext.trans {a : Addr} {L L1 L2 : DH} (h : Ext a L L1) (k : Ext a L1 L2) : Ext a L L2 := fun c v n e => k c v n (h c v n e)
theorem wthn_no {x i j : Int} (h : x < i ∨ j < x) : wthn (.int x) i j = false := decide_eq_false (by omega)
theorem Pl.t6 {n : Nat} {d : D} (h : Pl n d) (hn : n ≤ 6) (L : DH) : Tame L 6 d := tame_up (h.tame L) hn
theorem tame_tup {L : DH} {ds : List D} {n : Nat} (hn : n ≤ 5) (hl : ds.length ≤ 16777216) (h : ∀ d, d ∈ ds → Tame L n d) : Tame L 6 (.tup ds) := tame_up (n := n + 1) ⟨hl, h⟩ (by omega)
structure AtPl (es ps : List D) (i k : Int) (z : Str) (x : Int) (pl : D) : Prop where
  i0 : 0 ≤ i
  i1 : i < es.length
  e : es[i.toNat]? = some (.tup [.str z, .int x, .tup ps])
  k0 : 0 ≤ k
  k1 : k < ps.length
  p : ps[k.toNat]? = some pl
def sp_law_bad_what : SpD := fun ds L Q _ => ∃ (a b : Addr) (n : Nat) (es ps : List D) (i k low : Int) (z : Str) (x : Int) (pl : D), ds = [.ref a, .tup es, .int i, .int k, .int low] ∧ BagAt n L a b ∧ n ≤ 800000000 ∧ isProg (.tup es) = true ∧ Pl 6 (.tup es) ∧ AtPl es ps i k z x pl ∧ low = startOf es i.toNat ∧
  ∀ d L', Ext a L L' → BagAt (n + 20) L' a b → Tame L' 6 d → isPlc d low (low + ps.length) (exitsI es) = false → Q d L'
theorem len_law_bad_what : ∀ as L Q E, sp_law_bad_what as L Q E → as.length = 5 := by rintro _ L Q E ⟨a, b, n, es, ps, i, k, l, z, x, pl, rfl, _⟩; rfl
def d__law_bad_what_t8a1 : DS :=
  (sRet (dTup (dCons (dVar 10) (dCons (dTup (dCons (dOp dIx (dVar 11) (dC (.int 0))) (dCons (dOp dIx (dVar 12) (dCall sp_law_pick (dCons (dVar 0) (dCons (dC (.int 5)) dNil)))) (dCons (dOp dIx (dVar 11) (dC (.int 2))) dNil)))) dNil))))
def d__law_bad_what_t9 : DS :=
  (sRet (dTup (dCons (dVar 10) (dCons (dTup (dCons (dOp dIx (dVar 11) (dC (.int 0))) (dCons (dOp dIx (dVar 11) (dC (.int 1))) (dCons (dCall sp_law_bad_nexts (dCons (dVar 0) (dCons (dVar 11) (dCons (dVar 4) (dCons (dOp dAdd (dVar 4) (dCB dLen (dCons (dVar 9) dNil))) (dCons (dVar 5) dNil)))))) dNil)))) dNil))))
def d__law_bad_what_t8 : DS :=
  (sSeq (sIf (dTest (dOp dLt (dVar 6) (dC (.int 5)))) (sSeq (sAsg (dIfE (dTest (dOp dEq (dOp dIx (dVar 11) (dC (.int 0))) (dC (.str "move")))) (dLst (dCons (dC (.int 2)) (dCons (dUn dNeg (dC (.int 1))) (dCons (dC (.bl true)) (dCons (dC .non) (dCons (dC (.str "0")) dNil)))))) (dLst (dCons (dVar 5) (dCons (dUn dNeg (dC (.int 1))) (dCons (dC (.bl true)) (dCons (dC .non) (dCons (dC (.str "0")) dNil))))))) (gdName 12)) d__law_bad_what_t8a1) sNext) d__law_bad_what_t9)
def d__law_bad_what_t7 : DS :=
  (sSeq (sIf (dTest (dOp dEq (dOp dIx (dVar 11) (dC (.int 0))) (dC (.str "exit")))) (sRet (dTup (dCons (dVar 10) (dCons (dTup (dCons (dC (.str "exit")) (dCons (dOp dIx (dLst (dCons (dVar 8) (dCons (dUn dNeg (dC (.int 1))) (dCons (dC .non) (dCons (dCB dStrOf (dCons (dOp dIx (dVar 11) (dC (.int 1))) dNil)) (dCons (dC (.bl false)) dNil)))))) (dCall sp_law_pick (dCons (dVar 0) (dCons (dC (.int 5)) dNil)))) dNil))) dNil)))) sNext) d__law_bad_what_t8)
def d__law_bad_what_t6 : DS :=
  (sSeq (sIf (dTest (dOp dEq (dVar 6) (dC (.int 2)))) (sRet (dTup (dCons (dVar 10) (dCons (dCB dListOf (dCons (dVar 11) dNil)) dNil)))) sNext) d__law_bad_what_t7)
def d__law_bad_what_t5 : DS :=
  (sSeq (sIf (dTest (dOp dEq (dVar 6) (dC (.int 1)))) (sRet (dTup (dCons (dVar 10) (dCons (dOp dAdd (dTup (dCons (dOp dIx (dLst (dCons (dC (.str "mov")) (dCons (dC (.str "calls")) (dCons (dC (.str "exits")) (dCons (dC .non) (dCons (dC (.int 0)) dNil)))))) (dCall sp_law_pick (dCons (dVar 0) (dCons (dC (.int 5)) dNil)))) dNil)) (dSl dCut (dVar 11) (dPart (dC (.int 1))) dNoPart)) dNil)))) sNext) d__law_bad_what_t6)
def d__law_bad_what_t4 : DS :=
  (sSeq (sIf (dTest (dOp dEq (dVar 6) (dC (.int 0)))) (sRet (dTup (dCons (dVar 10) (dCons (dOp dAdd (dVar 11) (dTup (dCons (dC (.int 0)) dNil))) dNil)))) sNext) d__law_bad_what_t5)
def d__law_bad_what_t3 : DS :=
  (sSeq (sAsg (dCall sp_law_pick (dCons (dVar 0) (dCons (dC (.int 8)) dNil))) (gdName 6)) d__law_bad_what_t4)
def d__law_bad_what_t2 : DS :=
  (sSeq (sAsg (dCB dLen (dCons (dCall sp_law_flat (dCons (dVar 1) dNil)) dNil)) (gdName 5)) d__law_bad_what_t3)
def d__law_bad_what_t1 : DS :=
  (sSeq (sAsg (dOp dIx (dVar 9) (dVar 3)) (gdTup 2 (gdCons (gdName 10) (gdCons (gdName 11) gdNil)))) d__law_bad_what_t2)
def d__law_bad_what : DS :=
  (sSeq (sAsg (dOp dIx (dVar 1) (dVar 2)) (gdTup 3 (gdCons (gdName 7) (gdCons (gdName 8) (gdCons (gdName 9) gdNil))))) d__law_bad_what_t1)

theorem pure_law_bad_what : ∀ as L Q E, sp_law_bad_what as L Q E → d__law_bad_what (fnEnds Q E) (dstart 13 as) L := by
  rintro as L Q E ⟨a, b, n, es, ps, i, k, low, z, x, pl, rfl, hb, hn, hi, hpl, A, hlow, q⟩
  obtain ⟨es', e', hp⟩ := prg_of hi
  cases e'
  have hat : atI es i = some (.tup [.str z, .int x, .tup ps]) := by
    have := atI_nat A.e
    rwa [show ((i.toNat : Nat) : Int) = i by have := A.i0; omega] at this
  have hat2 : atI ps k = some pl := by
    have := atI_nat A.p
    rwa [show ((k.toNat : Nat) : Int) = k by have := A.k0; omega] at this
  have hok := isProg_place hi A.e (List.mem_of_getElem? A.p : pl ∈ plD (.tup [.str z, .int x, .tup ps]))
  have hok : isPlc pl (startOf es i.toNat) (startOf es i.toNat + ps.length) (exitsI es) = true := hok
  rw [← hlow] at hok
  obtain ⟨m, w, rfl, m0, m1, hw⟩ := plc_cases hok
  have hps : 1 ≤ ps.length := by have := A.k0; have := A.k1; omega
  have hex : (exitsI es).getD low.toNat 0 = x := by rw [hlow]; exact exitsI_get A.e hps
  have hxl : ((exitsI es).length : Int) = total es := by rw [exitsI_len]; rfl
  have hlow0 : 0 ≤ low := by rw [hlow]; unfold startOf; omega
  have hhi : low + ps.length ≤ total es := by
    have e1 := exL_le
    rw [hlow]
    unfold startOf total
    have : es.flatMap plD = (es.take (i.toNat + 1)).flatMap plD ++ (es.drop (i.toNat + 1)).flatMap plD := by rw [← List.flatMap_append, List.take_append_drop]
    have e2 : (es.take (i.toNat + 1)).flatMap plD = (es.take i.toNat).flatMap plD ++ ps := by rw [List.take_succ, A.e]; simp [plD]
    rw [this, e2]
    simp only [List.length_append]
    omega
  have htot : total es ≤ 4000 := by have := hp.sum; unfold total; omega
  obtain ⟨b1, b2, b3, b4, b5, b6⟩ := isHead_of (hp.hd _ (List.mem_of_getElem? A.e))
  have hx24 : x ≤ 24 ∧ 1 ≤ x := ⟨b4, b3⟩
  simp only [d__law_bad_what, dVar, dC, dOp, dUn, dNil, dCons, dTup, dLst, dCB, dTest, dAnd, dOr, dNot, dAndV, dOrV, dNotV, dIfE, dChain, sNext, sSeq, sBreak, sCont, sDrop, sRet, sRetN, sIf, gdName, gdNil, gdCons, gdTup, gdSub, sAsg, dCall, xOf, sFor, dSeq, dRng1, dRng2, dI, dI0, dB0, dAdd, dIsN, dNotN, isNon, dIx, dSetL, dNeg, one, two, dLen1, dListOf1, dTupOf1, dAbs1, dIntOf1, dII, marg, dAppend1, dExtend1, dIsi, isA, dSl, dPart, dNoPart, dCut, dLc, dYes, sRaise, sTry, exBy, sPar2, sPar3, dIsBl, dNotBl, dBM, dBM0, dEq, dNe, dIn, dSgn, dLc2, dEnum, dListRg1, dListRg2, dTupRg1, dTupRg2, dStrOf1, dRep, dLenSet, dstart, fnE_nx, fnE_rt, fnE_ex, Nat.zero_le, Nat.reduceLeDiff, decide_true, decide_false, true_or, or_true, false_or, or_false, decide_eq_true_eq, exists_eq_left', exists_eq_left, exists_eq_right, exists_eq_right', Option.some.injEq, List.cons.injEq, D.int.injEq, D.bl.injEq, D.str.injEq, D.tup.injEq, D.lro.injEq, D.ref.injEq, DO.lst.injEq, and_true, true_and, and_false, false_and, exists_false, exists_const, List.getElem?_cons_zero, List.getElem?_cons_succ, List.map_cons, List.map_nil, List.length_cons, List.length_nil, List.replicate_zero, List.replicate_succ, List.append_nil, List.cons_append, List.nil_append, List.set_cons_zero, List.set_cons_succ, Nat.reduceAdd, Nat.reduceSub, Nat.zero_add, reduceIte, Bool.false_eq_true, reduceCtorEq, if_true, if_false, Bool.not_true, Bool.not_false, exists_and_left, hat]
  simp only [d__law_bad_what_t1, dVar, dC, dOp, dUn, dNil, dCons, dTup, dLst, dCB, dTest, dAnd, dOr, dNot, dAndV, dOrV, dNotV, dIfE, dChain, sNext, sSeq, sBreak, sCont, sDrop, sRet, sRetN, sIf, gdName, gdNil, gdCons, gdTup, gdSub, sAsg, dCall, xOf, sFor, dSeq, dRng1, dRng2, dI, dI0, dB0, dAdd, dIsN, dNotN, isNon, dIx, dSetL, dNeg, one, two, dLen1, dListOf1, dTupOf1, dAbs1, dIntOf1, dII, marg, dAppend1, dExtend1, dIsi, isA, dSl, dPart, dNoPart, dCut, dLc, dYes, sRaise, sTry, exBy, sPar2, sPar3, dIsBl, dNotBl, dBM, dBM0, dEq, dNe, dIn, dSgn, dLc2, dEnum, dListRg1, dListRg2, dTupRg1, dTupRg2, dStrOf1, dRep, dLenSet, dstart, fnE_nx, fnE_rt, fnE_ex, Nat.zero_le, Nat.reduceLeDiff, decide_true, decide_false, true_or, or_true, false_or, or_false, decide_eq_true_eq, exists_eq_left', exists_eq_left, exists_eq_right, exists_eq_right', Option.some.injEq, List.cons.injEq, D.int.injEq, D.bl.injEq, D.str.injEq, D.tup.injEq, D.lro.injEq, D.ref.injEq, DO.lst.injEq, and_true, true_and, and_false, false_and, exists_false, exists_const, List.getElem?_cons_zero, List.getElem?_cons_succ, List.map_cons, List.map_nil, List.length_cons, List.length_nil, List.replicate_zero, List.replicate_succ, List.append_nil, List.cons_append, List.nil_append, List.set_cons_zero, List.set_cons_succ, Nat.reduceAdd, Nat.reduceSub, Nat.zero_add, reduceIte, Bool.false_eq_true, reduceCtorEq, if_true, if_false, Bool.not_true, Bool.not_false, exists_and_left, hat2]
  simp only [d__law_bad_what_t2, dVar, dC, dOp, dUn, dNil, dCons, dTup, dLst, dCB, dTest, dAnd, dOr, dNot, dAndV, dOrV, dNotV, dIfE, dChain, sNext, sSeq, sBreak, sCont, sDrop, sRet, sRetN, sIf, gdName, gdNil, gdCons, gdTup, gdSub, sAsg, dCall, xOf, sFor, dSeq, dRng1, dRng2, dI, dI0, dB0, dAdd, dIsN, dNotN, isNon, dIx, dSetL, dNeg, one, two, dLen1, dListOf1, dTupOf1, dAbs1, dIntOf1, dII, marg, dAppend1, dExtend1, dIsi, isA, dSl, dPart, dNoPart, dCut, dLc, dYes, sRaise, sTry, exBy, sPar2, sPar3, dIsBl, dNotBl, dBM, dBM0, dEq, dNe, dIn, dSgn, dLc2, dEnum, dListRg1, dListRg2, dTupRg1, dTupRg2, dStrOf1, dRep, dLenSet, dstart, fnE_nx, fnE_rt, fnE_ex, Nat.zero_le, Nat.reduceLeDiff, decide_true, decide_false, true_or, or_true, false_or, or_false, decide_eq_true_eq, exists_eq_left', exists_eq_left, exists_eq_right, exists_eq_right', Option.some.injEq, List.cons.injEq, D.int.injEq, D.bl.injEq, D.str.injEq, D.tup.injEq, D.lro.injEq, D.ref.injEq, DO.lst.injEq, and_true, true_and, and_false, false_and, exists_false, exists_const, List.getElem?_cons_zero, List.getElem?_cons_succ, List.map_cons, List.map_nil, List.length_cons, List.length_nil, List.replicate_zero, List.replicate_succ, List.append_nil, List.cons_append, List.nil_append, List.set_cons_zero, List.set_cons_succ, Nat.reduceAdd, Nat.reduceSub, Nat.zero_add, reduceIte, Bool.false_eq_true, reduceCtorEq, if_true, if_false, Bool.not_true, Bool.not_false, exists_and_left]
  refine ⟨es, rfl, hp, fun p1 hp1 => ?_⟩
  obtain ⟨p1a, p1b, hb1⟩ := hb.new (o := .lst (es.flatMap plD)) hp1
  have hx1 : Ext a L (upd L p1 (.lst (es.flatMap plD))) := Ext.refl.new hp1
  simp only [updD_same, dVar, dC, dOp, dUn, dNil, dCons, dTup, dLst, dCB, dTest, dAnd, dOr, dNot, dAndV, dOrV, dNotV, dIfE, dChain, sNext, sSeq, sBreak, sCont, sDrop, sRet, sRetN, sIf, gdName, gdNil, gdCons, gdTup, gdSub, sAsg, dCall, xOf, sFor, dSeq, dRng1, dRng2, dI, dI0, dB0, dAdd, dIsN, dNotN, isNon, dIx, dSetL, dNeg, one, two, dLen1, dListOf1, dTupOf1, dAbs1, dIntOf1, dII, marg, dAppend1, dExtend1, dIsi, isA, dSl, dPart, dNoPart, dCut, dLc, dYes, sRaise, sTry, exBy, sPar2, sPar3, dIsBl, dNotBl, dBM, dBM0, dEq, dNe, dIn, dSgn, dLc2, dEnum, dListRg1, dListRg2, dTupRg1, dTupRg2, dStrOf1, dRep, dLenSet, dstart, fnE_nx, fnE_rt, fnE_ex, Nat.zero_le, Nat.reduceLeDiff, decide_true, decide_false, true_or, or_true, false_or, or_false, decide_eq_true_eq, exists_eq_left', exists_eq_left, exists_eq_right, exists_eq_right', Option.some.injEq, List.cons.injEq, D.int.injEq, D.bl.injEq, D.str.injEq, D.tup.injEq, D.lro.injEq, D.ref.injEq, DO.lst.injEq, and_true, true_and, and_false, false_and, exists_false, exists_const, List.getElem?_cons_zero, List.getElem?_cons_succ, List.map_cons, List.map_nil, List.length_cons, List.length_nil, List.replicate_zero, List.replicate_succ, List.append_nil, List.cons_append, List.nil_append, List.set_cons_zero, List.set_cons_succ, Nat.reduceAdd, Nat.reduceSub, Nat.zero_add, reduceIte, Bool.false_eq_true, reduceCtorEq, if_true, if_false, Bool.not_true, Bool.not_false, exists_and_left]
  have ht : ((es.flatMap plD).length : Int) = total es := rfl
  generalize upd L p1 (.lst (es.flatMap plD)) = L1 at hb1 hx1
  rw [ht]
  simp only [d__law_bad_what_t3, dVar, dC, dOp, dUn, dNil, dCons, dTup, dLst, dCB, dTest, dAnd, dOr, dNot, dAndV, dOrV, dNotV, dIfE, dChain, sNext, sSeq, sBreak, sCont, sDrop, sRet, sRetN, sIf, gdName, gdNil, gdCons, gdTup, gdSub, sAsg, dCall, xOf, sFor, dSeq, dRng1, dRng2, dI, dI0, dB0, dAdd, dIsN, dNotN, isNon, dIx, dSetL, dNeg, one, two, dLen1, dListOf1, dTupOf1, dAbs1, dIntOf1, dII, marg, dAppend1, dExtend1, dIsi, isA, dSl, dPart, dNoPart, dCut, dLc, dYes, sRaise, sTry, exBy, sPar2, sPar3, dIsBl, dNotBl, dBM, dBM0, dEq, dNe, dIn, dSgn, dLc2, dEnum, dListRg1, dListRg2, dTupRg1, dTupRg2, dStrOf1, dRep, dLenSet, dstart, fnE_nx, fnE_rt, fnE_ex, Nat.zero_le, Nat.reduceLeDiff, decide_true, decide_false, true_or, or_true, false_or, or_false, decide_eq_true_eq, exists_eq_left', exists_eq_left, exists_eq_right, exists_eq_right', Option.some.injEq, List.cons.injEq, D.int.injEq, D.bl.injEq, D.str.injEq, D.tup.injEq, D.lro.injEq, D.ref.injEq, DO.lst.injEq, and_true, true_and, and_false, false_and, exists_false, exists_const, List.getElem?_cons_zero, List.getElem?_cons_succ, List.map_cons, List.map_nil, List.length_cons, List.length_nil, List.replicate_zero, List.replicate_succ, List.append_nil, List.cons_append, List.nil_append, List.set_cons_zero, List.set_cons_succ, Nat.reduceAdd, Nat.reduceSub, Nat.zero_add, reduceIte, Bool.false_eq_true, reduceCtorEq, if_true, if_false, Bool.not_true, Bool.not_false, exists_and_left]
  refine ⟨a, b, 8, _, rfl, hb1, by omega, by decide, by decide, fun r o r0 r1 hb2 => ?_⟩
  have hx2 := hx1.bag (o := o)
  generalize upd L1 a o = L2 at hb2 hx2
  have hpw : Pl 4 (.tup [.int m, w]) := by
    have h1 := pl_mem hpl (List.mem_of_getElem? A.e)
    have h2 := pl_mem h1 (show D.tup ps ∈ [D.str z, .int x, .tup ps] by simp)
    exact (pl_mem h2 (List.mem_of_getElem? A.p)).up
  have hpw1 : Pl 3 w := pl_mem hpw (by simp)
  have fin : ∀ {d : D} {L' : DH} {j : Nat}, Ext a L L' → BagAt j L' a b → j ≤ n + 20 → Tame L' 6 d → isPlc d low (low + ps.length) (exitsI es) = false → ∃ L2, Le L2 L' ∧ Q d L2 := fun h1 h2 h3 h4 h5 => ⟨_, Le.refl, q _ _ h1 (h2.mono h3) h4 h5⟩
  obtain ⟨wh, wr, rfl⟩ : ∃ wh wr, w = .tup (wh :: wr) := by cases hw <;> exact ⟨_, _, rfl⟩
  simp only [d__law_bad_what_t4, dVar, dC, dOp, dUn, dNil, dCons, dTup, dLst, dCB, dTest, dAnd, dOr, dNot, dAndV, dOrV, dNotV, dIfE, dChain, sNext, sSeq, sBreak, sCont, sDrop, sRet, sRetN, sIf, gdName, gdNil, gdCons, gdTup, gdSub, sAsg, dCall, xOf, sFor, dSeq, dRng1, dRng2, dI, dI0, dB0, dAdd, dIsN, dNotN, isNon, dIx, dSetL, dNeg, one, two, dLen1, dListOf1, dTupOf1, dAbs1, dIntOf1, dII, marg, dAppend1, dExtend1, dIsi, isA, dSl, dPart, dNoPart, dCut, dLc, dYes, sRaise, sTry, exBy, sPar2, sPar3, dIsBl, dNotBl, dBM, dBM0, dEq, dNe, dIn, dSgn, dLc2, dEnum, dListRg1, dListRg2, dTupRg1, dTupRg2, dStrOf1, dRep, dLenSet, dstart, fnE_nx, fnE_rt, fnE_ex, Nat.zero_le, Nat.reduceLeDiff, decide_true, decide_false, true_or, or_true, false_or, or_false, decide_eq_true_eq, exists_eq_left', exists_eq_left, exists_eq_right, exists_eq_right', Option.some.injEq, List.cons.injEq, D.int.injEq, D.bl.injEq, D.str.injEq, D.tup.injEq, D.lro.injEq, D.ref.injEq, DO.lst.injEq, and_true, true_and, and_false, false_and, exists_false, exists_const, List.getElem?_cons_zero, List.getElem?_cons_succ, List.map_cons, List.map_nil, List.length_cons, List.length_nil, List.replicate_zero, List.replicate_succ, List.append_nil, List.cons_append, List.nil_append, List.set_cons_zero, List.set_cons_succ, Nat.reduceAdd, Nat.reduceSub, Nat.zero_add, reduceIte, Bool.false_eq_true, reduceCtorEq, if_true, if_false, Bool.not_true, Bool.not_false, exists_and_left, eqD_int]
  by_cases c0 : r = 0
  · subst c0
    simp only [beq_self_eq_true, dVar, dC, dOp, dUn, dNil, dCons, dTup, dLst, dCB, dTest, dAnd, dOr, dNot, dAndV, dOrV, dNotV, dIfE, dChain, sNext, sSeq, sBreak, sCont, sDrop, sRet, sRetN, sIf, gdName, gdNil, gdCons, gdTup, gdSub, sAsg, dCall, xOf, sFor, dSeq, dRng1, dRng2, dI, dI0, dB0, dAdd, dIsN, dNotN, isNon, dIx, dSetL, dNeg, one, two, dLen1, dListOf1, dTupOf1, dAbs1, dIntOf1, dII, marg, dAppend1, dExtend1, dIsi, isA, dSl, dPart, dNoPart, dCut, dLc, dYes, sRaise, sTry, exBy, sPar2, sPar3, dIsBl, dNotBl, dBM, dBM0, dEq, dNe, dIn, dSgn, dLc2, dEnum, dListRg1, dListRg2, dTupRg1, dTupRg2, dStrOf1, dRep, dLenSet, dstart, fnE_nx, fnE_rt, fnE_ex, Nat.zero_le, Nat.reduceLeDiff, decide_true, decide_false, true_or, or_true, false_or, or_false, decide_eq_true_eq, exists_eq_left', exists_eq_left, exists_eq_right, exists_eq_right', Option.some.injEq, List.cons.injEq, D.int.injEq, D.bl.injEq, D.str.injEq, D.tup.injEq, D.lro.injEq, D.ref.injEq, DO.lst.injEq, and_true, true_and, and_false, false_and, exists_false, exists_const, List.getElem?_cons_zero, List.getElem?_cons_succ, List.map_cons, List.map_nil, List.length_cons, List.length_nil, List.replicate_zero, List.replicate_succ, List.append_nil, List.cons_append, List.nil_append, List.set_cons_zero, List.set_cons_succ, Nat.reduceAdd, Nat.reduceSub, Nat.zero_add, reduceIte, Bool.false_eq_true, reduceCtorEq, if_true, if_false, Bool.not_true, Bool.not_false, exists_and_left]
    have hwl : wr.length ≤ 2 := by cases hw <;> simp
    refine ⟨by first | omega | (simp; omega), fin hx2 hb2 (by omega) ?_ ?_⟩
    · refine Pl.t6 (n := 5) (pl_2 pl_int (pl_tup (by simp; omega) fun d hd => ?_)) (by decide) _
      have hd : d ∈ (wh :: wr) ++ [D.int 0] := hd
      rcases List.mem_append.mp hd with hd | hd
      · exact (pl_mem hpw1 hd).up
      · have : d = .int 0 := by simpa using hd
        subst this; exact pl_int
    · cases hw with
      | move p ns => exact np_what rfl rfl rfl
      | call p ns => exact np_what rfl rfl rfl
      | exit e => exact np_what (isMove_hd s_mc.2.2.2.2.1) (isCall_hd s_mc.2.2.2.2.2) rfl
  have c0' : (r == 0) = false := beq_eq_false_iff_ne.mpr c0
  simp only [c0', dVar, dC, dOp, dUn, dNil, dCons, dTup, dLst, dCB, dTest, dAnd, dOr, dNot, dAndV, dOrV, dNotV, dIfE, dChain, sNext, sSeq, sBreak, sCont, sDrop, sRet, sRetN, sIf, gdName, gdNil, gdCons, gdTup, gdSub, sAsg, dCall, xOf, sFor, dSeq, dRng1, dRng2, dI, dI0, dB0, dAdd, dIsN, dNotN, isNon, dIx, dSetL, dNeg, one, two, dLen1, dListOf1, dTupOf1, dAbs1, dIntOf1, dII, marg, dAppend1, dExtend1, dIsi, isA, dSl, dPart, dNoPart, dCut, dLc, dYes, sRaise, sTry, exBy, sPar2, sPar3, dIsBl, dNotBl, dBM, dBM0, dEq, dNe, dIn, dSgn, dLc2, dEnum, dListRg1, dListRg2, dTupRg1, dTupRg2, dStrOf1, dRep, dLenSet, dstart, fnE_nx, fnE_rt, fnE_ex, Nat.zero_le, Nat.reduceLeDiff, decide_true, decide_false, true_or, or_true, false_or, or_false, decide_eq_true_eq, exists_eq_left', exists_eq_left, exists_eq_right, exists_eq_right', Option.some.injEq, List.cons.injEq, D.int.injEq, D.bl.injEq, D.str.injEq, D.tup.injEq, D.lro.injEq, D.ref.injEq, DO.lst.injEq, and_true, true_and, and_false, false_and, exists_false, exists_const, List.getElem?_cons_zero, List.getElem?_cons_succ, List.map_cons, List.map_nil, List.length_cons, List.length_nil, List.replicate_zero, List.replicate_succ, List.append_nil, List.cons_append, List.nil_append, List.set_cons_zero, List.set_cons_succ, Nat.reduceAdd, Nat.reduceSub, Nat.zero_add, reduceIte, Bool.false_eq_true, reduceCtorEq, if_true, if_false, Bool.not_true, Bool.not_false, exists_and_left, d__law_bad_what_t5, eqD_int]
  by_cases c1 : r = 1
  · subst c1
    simp only [beq_self_eq_true, dVar, dC, dOp, dUn, dNil, dCons, dTup, dLst, dCB, dTest, dAnd, dOr, dNot, dAndV, dOrV, dNotV, dIfE, dChain, sNext, sSeq, sBreak, sCont, sDrop, sRet, sRetN, sIf, gdName, gdNil, gdCons, gdTup, gdSub, sAsg, dCall, xOf, sFor, dSeq, dRng1, dRng2, dI, dI0, dB0, dAdd, dIsN, dNotN, isNon, dIx, dSetL, dNeg, one, two, dLen1, dListOf1, dTupOf1, dAbs1, dIntOf1, dII, marg, dAppend1, dExtend1, dIsi, isA, dSl, dPart, dNoPart, dCut, dLc, dYes, sRaise, sTry, exBy, sPar2, sPar3, dIsBl, dNotBl, dBM, dBM0, dEq, dNe, dIn, dSgn, dLc2, dEnum, dListRg1, dListRg2, dTupRg1, dTupRg2, dStrOf1, dRep, dLenSet, dstart, fnE_nx, fnE_rt, fnE_ex, Nat.zero_le, Nat.reduceLeDiff, decide_true, decide_false, true_or, or_true, false_or, or_false, decide_eq_true_eq, exists_eq_left', exists_eq_left, exists_eq_right, exists_eq_right', Option.some.injEq, List.cons.injEq, D.int.injEq, D.bl.injEq, D.str.injEq, D.tup.injEq, D.lro.injEq, D.ref.injEq, DO.lst.injEq, and_true, true_and, and_false, false_and, exists_false, exists_const, List.getElem?_cons_zero, List.getElem?_cons_succ, List.map_cons, List.map_nil, List.length_cons, List.length_nil, List.replicate_zero, List.replicate_succ, List.append_nil, List.cons_append, List.nil_append, List.set_cons_zero, List.set_cons_succ, Nat.reduceAdd, Nat.reduceSub, Nat.zero_add, reduceIte, Bool.false_eq_true, reduceCtorEq, if_true, if_false, Bool.not_true, Bool.not_false, exists_and_left]
    intro p hp0
    obtain ⟨pa, pb, hb3⟩ := hb2.new (o := .lst [.str "mov", .str "calls", .str "exits", .non, .int 0]) hp0
    refine ⟨a, b, 5, _, rfl, hb3, by omega, by decide, by decide, fun r o r0 r1 hb4 => ?_⟩
    obtain ⟨y, hy, _, hym⟩ := atI_in (xs := [D.str "mov", .str "calls", .str "exits", .non, .int 0]) r0 (by simpa using r1)
    refine ⟨_, by rw [updD_ne pa, updD_same], y, hy, ?_⟩
    have hc : cut (wh :: wr) (some 1) none = wr := by rw [cut_from (by decide)]; rfl
    have hwl : wr.length ≤ 2 := by cases hw <;> simp
    simp only [hc, dVar, dC, dOp, dUn, dNil, dCons, dTup, dLst, dCB, dTest, dAnd, dOr, dNot, dAndV, dOrV, dNotV, dIfE, dChain, sNext, sSeq, sBreak, sCont, sDrop, sRet, sRetN, sIf, gdName, gdNil, gdCons, gdTup, gdSub, sAsg, dCall, xOf, sFor, dSeq, dRng1, dRng2, dI, dI0, dB0, dAdd, dIsN, dNotN, isNon, dIx, dSetL, dNeg, one, two, dLen1, dListOf1, dTupOf1, dAbs1, dIntOf1, dII, marg, dAppend1, dExtend1, dIsi, isA, dSl, dPart, dNoPart, dCut, dLc, dYes, sRaise, sTry, exBy, sPar2, sPar3, dIsBl, dNotBl, dBM, dBM0, dEq, dNe, dIn, dSgn, dLc2, dEnum, dListRg1, dListRg2, dTupRg1, dTupRg2, dStrOf1, dRep, dLenSet, dstart, fnE_nx, fnE_rt, fnE_ex, Nat.zero_le, Nat.reduceLeDiff, decide_true, decide_false, true_or, or_true, false_or, or_false, decide_eq_true_eq, exists_eq_left', exists_eq_left, exists_eq_right, exists_eq_right', Option.some.injEq, List.cons.injEq, D.int.injEq, D.bl.injEq, D.str.injEq, D.tup.injEq, D.lro.injEq, D.ref.injEq, DO.lst.injEq, and_true, true_and, and_false, false_and, exists_false, exists_const, List.getElem?_cons_zero, List.getElem?_cons_succ, List.map_cons, List.map_nil, List.length_cons, List.length_nil, List.replicate_zero, List.replicate_succ, List.append_nil, List.cons_append, List.nil_append, List.set_cons_zero, List.set_cons_succ, Nat.reduceAdd, Nat.reduceSub, Nat.zero_add, reduceIte, Bool.false_eq_true, reduceCtorEq, if_true, if_false, Bool.not_true, Bool.not_false, exists_and_left]
    have hy3 : isStr y "move" = false ∧ isStr y "call" = false ∧ isStr y "exit" = false ∧ Pl 2 y := by
      simp only [List.mem_cons, List.not_mem_nil, or_false] at hym
      rcases hym with rfl | rfl | rfl | rfl | rfl
      · exact ⟨by decide +kernel, by decide +kernel, by decide +kernel, pl_str (by decide +kernel)⟩
      · exact ⟨by decide +kernel, by decide +kernel, by decide +kernel, pl_str (by decide +kernel)⟩
      · exact ⟨by decide +kernel, by decide +kernel, by decide +kernel, pl_str (by decide +kernel)⟩
      · exact ⟨rfl, rfl, rfl, trivial⟩
      · exact ⟨rfl, rfl, rfl, trivial⟩
    refine ⟨by first | omega | (simp; omega), fin (hx2.new hp0).bag hb4 (by omega) ?_ (np_hd hy3.1 hy3.2.1 hy3.2.2.1)⟩
    refine Pl.t6 (n := 5) (pl_2 pl_int (pl_tup (by simp; omega) fun d hd => ?_)) (by decide) _
    rcases List.mem_cons.mp hd with rfl | hd
    · exact hy3.2.2.2.up
    · exact (pl_mem hpw1 (List.mem_cons_of_mem _ hd)).up
  have c1' : (r == 1) = false := beq_eq_false_iff_ne.mpr c1
  simp only [c1', dVar, dC, dOp, dUn, dNil, dCons, dTup, dLst, dCB, dTest, dAnd, dOr, dNot, dAndV, dOrV, dNotV, dIfE, dChain, sNext, sSeq, sBreak, sCont, sDrop, sRet, sRetN, sIf, gdName, gdNil, gdCons, gdTup, gdSub, sAsg, dCall, xOf, sFor, dSeq, dRng1, dRng2, dI, dI0, dB0, dAdd, dIsN, dNotN, isNon, dIx, dSetL, dNeg, one, two, dLen1, dListOf1, dTupOf1, dAbs1, dIntOf1, dII, marg, dAppend1, dExtend1, dIsi, isA, dSl, dPart, dNoPart, dCut, dLc, dYes, sRaise, sTry, exBy, sPar2, sPar3, dIsBl, dNotBl, dBM, dBM0, dEq, dNe, dIn, dSgn, dLc2, dEnum, dListRg1, dListRg2, dTupRg1, dTupRg2, dStrOf1, dRep, dLenSet, dstart, fnE_nx, fnE_rt, fnE_ex, Nat.zero_le, Nat.reduceLeDiff, decide_true, decide_false, true_or, or_true, false_or, or_false, decide_eq_true_eq, exists_eq_left', exists_eq_left, exists_eq_right, exists_eq_right', Option.some.injEq, List.cons.injEq, D.int.injEq, D.bl.injEq, D.str.injEq, D.tup.injEq, D.lro.injEq, D.ref.injEq, DO.lst.injEq, and_true, true_and, and_false, false_and, exists_false, exists_const, List.getElem?_cons_zero, List.getElem?_cons_succ, List.map_cons, List.map_nil, List.length_cons, List.length_nil, List.replicate_zero, List.replicate_succ, List.append_nil, List.cons_append, List.nil_append, List.set_cons_zero, List.set_cons_succ, Nat.reduceAdd, Nat.reduceSub, Nat.zero_add, reduceIte, Bool.false_eq_true, reduceCtorEq, if_true, if_false, Bool.not_true, Bool.not_false, exists_and_left, d__law_bad_what_t6, eqD_int]
  by_cases c2 : r = 2
  · subst c2
    simp only [beq_self_eq_true, dVar, dC, dOp, dUn, dNil, dCons, dTup, dLst, dCB, dTest, dAnd, dOr, dNot, dAndV, dOrV, dNotV, dIfE, dChain, sNext, sSeq, sBreak, sCont, sDrop, sRet, sRetN, sIf, gdName, gdNil, gdCons, gdTup, gdSub, sAsg, dCall, xOf, sFor, dSeq, dRng1, dRng2, dI, dI0, dB0, dAdd, dIsN, dNotN, isNon, dIx, dSetL, dNeg, one, two, dLen1, dListOf1, dTupOf1, dAbs1, dIntOf1, dII, marg, dAppend1, dExtend1, dIsi, isA, dSl, dPart, dNoPart, dCut, dLc, dYes, sRaise, sTry, exBy, sPar2, sPar3, dIsBl, dNotBl, dBM, dBM0, dEq, dNe, dIn, dSgn, dLc2, dEnum, dListRg1, dListRg2, dTupRg1, dTupRg2, dStrOf1, dRep, dLenSet, dstart, fnE_nx, fnE_rt, fnE_ex, Nat.zero_le, Nat.reduceLeDiff, decide_true, decide_false, true_or, or_true, false_or, or_false, decide_eq_true_eq, exists_eq_left', exists_eq_left, exists_eq_right, exists_eq_right', Option.some.injEq, List.cons.injEq, D.int.injEq, D.bl.injEq, D.str.injEq, D.tup.injEq, D.lro.injEq, D.ref.injEq, DO.lst.injEq, and_true, true_and, and_false, false_and, exists_false, exists_const, List.getElem?_cons_zero, List.getElem?_cons_succ, List.map_cons, List.map_nil, List.length_cons, List.length_nil, List.replicate_zero, List.replicate_succ, List.append_nil, List.cons_append, List.nil_append, List.set_cons_zero, List.set_cons_succ, Nat.reduceAdd, Nat.reduceSub, Nat.zero_add, reduceIte, Bool.false_eq_true, reduceCtorEq, if_true, if_false, Bool.not_true, Bool.not_false, exists_and_left]
    intro p hp0
    obtain ⟨pa, pb, hb3⟩ := hb2.new (o := .lst (wh :: wr)) hp0
    refine fin (hx2.new hp0) hb3 (by omega) ?_ (np_nolist (by simp))
    refine tame_tup (n := 0) (by decide) (by simp) fun d hd => ?_
    simp only [List.mem_cons, List.not_mem_nil, or_false] at hd
    rcases hd with rfl | rfl
    · trivial
    · exact tame_list updD_same hpw1 (by decide)
  have c2' : (r == 2) = false := beq_eq_false_iff_ne.mpr c2
  have e_ee : ((("exit" : Str) == ("exit" : Str)) = true) ∧ ((("move" : Str) == ("exit" : Str)) = false) ∧ ((("call" : Str) == ("exit" : Str)) = false) ∧ ((("move" : Str) == ("move" : Str)) = true) ∧ ((("call" : Str) == ("move" : Str)) = false) := by decide +kernel
  cases hw with
  | exit e q0 q1 =>
    rw [hex] at q1
    simp only [c2', dVar, dC, dOp, dUn, dNil, dCons, dTup, dLst, dCB, dTest, dAnd, dOr, dNot, dAndV, dOrV, dNotV, dIfE, dChain, sNext, sSeq, sBreak, sCont, sDrop, sRet, sRetN, sIf, gdName, gdNil, gdCons, gdTup, gdSub, sAsg, dCall, xOf, sFor, dSeq, dRng1, dRng2, dI, dI0, dB0, dAdd, dIsN, dNotN, isNon, dIx, dSetL, dNeg, one, two, dLen1, dListOf1, dTupOf1, dAbs1, dIntOf1, dII, marg, dAppend1, dExtend1, dIsi, isA, dSl, dPart, dNoPart, dCut, dLc, dYes, sRaise, sTry, exBy, sPar2, sPar3, dIsBl, dNotBl, dBM, dBM0, dEq, dNe, dIn, dSgn, dLc2, dEnum, dListRg1, dListRg2, dTupRg1, dTupRg2, dStrOf1, dRep, dLenSet, dstart, fnE_nx, fnE_rt, fnE_ex, Nat.zero_le, Nat.reduceLeDiff, decide_true, decide_false, true_or, or_true, false_or, or_false, decide_eq_true_eq, exists_eq_left', exists_eq_left, exists_eq_right, exists_eq_right', Option.some.injEq, List.cons.injEq, D.int.injEq, D.bl.injEq, D.str.injEq, D.tup.injEq, D.lro.injEq, D.ref.injEq, DO.lst.injEq, and_true, true_and, and_false, false_and, exists_false, exists_const, List.getElem?_cons_zero, List.getElem?_cons_succ, List.map_cons, List.map_nil, List.length_cons, List.length_nil, List.replicate_zero, List.replicate_succ, List.append_nil, List.cons_append, List.nil_append, List.set_cons_zero, List.set_cons_succ, Nat.reduceAdd, Nat.reduceSub, Nat.zero_add, reduceIte, Bool.false_eq_true, reduceCtorEq, if_true, if_false, Bool.not_true, Bool.not_false, exists_and_left, d__law_bad_what_t7, atI0, atI1, atI2, eqD_str, e_ee.1]
    refine ⟨log_small (by omega), fun p hp0 => ?_⟩
    obtain ⟨pa, pb, hb3⟩ := hb2.new (o := .lst [.int x, .int (-1), .non, .str (Str.ofString (toString e)), .bl false]) hp0
    refine ⟨a, b, 5, _, rfl, hb3, by omega, by decide, by decide, fun r o r0 r1 hb4 => ?_⟩
    obtain ⟨y, hy, _, hym⟩ := atI_in (xs := [D.int x, .int (-1), .non, .str (Str.ofString (toString e)), .bl false]) r0 (by simpa using r1)
    refine ⟨_, by rw [updD_ne pa, updD_same], y, hy, ?_⟩
    have hy3 : wthn y 0 (x - 1) = false ∧ Pl 2 y := by
      simp only [List.mem_cons, List.not_mem_nil, or_false] at hym
      rcases hym with rfl | rfl | rfl | rfl | rfl
      · exact ⟨wthn_no (by omega), trivial⟩
      · exact ⟨wthn_no (by omega), trivial⟩
      · exact ⟨rfl, trivial⟩
      · refine ⟨rfl, ?_⟩
        obtain ⟨j, rfl⟩ : ∃ j : Nat, e = j := ⟨e.toNat, by omega⟩
        have := sfx_len4 j (by omega)
        refine pl_str ?_
        show (sfx j).length ≤ 16777216
        rw [str_len, sfx_eq]; omega
      · exact ⟨rfl, trivial⟩
    refine fin (hx2.new hp0).bag hb4 (by omega) (Pl.t6 (n := 4) (pl_2 pl_int (pl_2 (pl_str (by decide +kernel)) hy3.2)) (by decide) _) (np_exit (by rw [hex]; exact hy3.1))
  | move p ns q0 q1 q2 q3 q4 q5 =>
    simp only [c2', dVar, dC, dOp, dUn, dNil, dCons, dTup, dLst, dCB, dTest, dAnd, dOr, dNot, dAndV, dOrV, dNotV, dIfE, dChain, sNext, sSeq, sBreak, sCont, sDrop, sRet, sRetN, sIf, gdName, gdNil, gdCons, gdTup, gdSub, sAsg, dCall, xOf, sFor, dSeq, dRng1, dRng2, dI, dI0, dB0, dAdd, dIsN, dNotN, isNon, dIx, dSetL, dNeg, one, two, dLen1, dListOf1, dTupOf1, dAbs1, dIntOf1, dII, marg, dAppend1, dExtend1, dIsi, isA, dSl, dPart, dNoPart, dCut, dLc, dYes, sRaise, sTry, exBy, sPar2, sPar3, dIsBl, dNotBl, dBM, dBM0, dEq, dNe, dIn, dSgn, dLc2, dEnum, dListRg1, dListRg2, dTupRg1, dTupRg2, dStrOf1, dRep, dLenSet, dstart, fnE_nx, fnE_rt, fnE_ex, Nat.zero_le, Nat.reduceLeDiff, decide_true, decide_false, true_or, or_true, false_or, or_false, decide_eq_true_eq, exists_eq_left', exists_eq_left, exists_eq_right, exists_eq_right', Option.some.injEq, List.cons.injEq, D.int.injEq, D.bl.injEq, D.str.injEq, D.tup.injEq, D.lro.injEq, D.ref.injEq, DO.lst.injEq, and_true, true_and, and_false, false_and, exists_false, exists_const, List.getElem?_cons_zero, List.getElem?_cons_succ, List.map_cons, List.map_nil, List.length_cons, List.length_nil, List.replicate_zero, List.replicate_succ, List.append_nil, List.cons_append, List.nil_append, List.set_cons_zero, List.set_cons_succ, Nat.reduceAdd, Nat.reduceSub, Nat.zero_add, reduceIte, Bool.false_eq_true, reduceCtorEq, if_true, if_false, Bool.not_true, Bool.not_false, exists_and_left, d__law_bad_what_t7, atI0, atI1, atI2, eqD_str, e_ee.2.1, d__law_bad_what_t8, e_ee.2.2.2.1]
    split
    · intro p2 hp0
      obtain ⟨pa, pb, hb3⟩ := hb2.new (o := .lst [.int 2, .int (-1), .bl true, .non, .str "0"]) hp0
      simp only [d__law_bad_what_t8a1, dVar, dC, dOp, dUn, dNil, dCons, dTup, dLst, dCB, dTest, dAnd, dOr, dNot, dAndV, dOrV, dNotV, dIfE, dChain, sNext, sSeq, sBreak, sCont, sDrop, sRet, sRetN, sIf, gdName, gdNil, gdCons, gdTup, gdSub, sAsg, dCall, xOf, sFor, dSeq, dRng1, dRng2, dI, dI0, dB0, dAdd, dIsN, dNotN, isNon, dIx, dSetL, dNeg, one, two, dLen1, dListOf1, dTupOf1, dAbs1, dIntOf1, dII, marg, dAppend1, dExtend1, dIsi, isA, dSl, dPart, dNoPart, dCut, dLc, dYes, sRaise, sTry, exBy, sPar2, sPar3, dIsBl, dNotBl, dBM, dBM0, dEq, dNe, dIn, dSgn, dLc2, dEnum, dListRg1, dListRg2, dTupRg1, dTupRg2, dStrOf1, dRep, dLenSet, dstart, fnE_nx, fnE_rt, fnE_ex, Nat.zero_le, Nat.reduceLeDiff, decide_true, decide_false, true_or, or_true, false_or, or_false, decide_eq_true_eq, exists_eq_left', exists_eq_left, exists_eq_right, exists_eq_right', Option.some.injEq, List.cons.injEq, D.int.injEq, D.bl.injEq, D.str.injEq, D.tup.injEq, D.lro.injEq, D.ref.injEq, DO.lst.injEq, and_true, true_and, and_false, false_and, exists_false, exists_const, List.getElem?_cons_zero, List.getElem?_cons_succ, List.map_cons, List.map_nil, List.length_cons, List.length_nil, List.replicate_zero, List.replicate_succ, List.append_nil, List.cons_append, List.nil_append, List.set_cons_zero, List.set_cons_succ, Nat.reduceAdd, Nat.reduceSub, Nat.zero_add, reduceIte, Bool.false_eq_true, reduceCtorEq, if_true, if_false, Bool.not_true, Bool.not_false, exists_and_left, atI0, atI1, atI2]
      refine ⟨a, b, 5, _, rfl, hb3, by omega, by decide, by decide, fun r o r0 r1 hb4 => ?_⟩
      obtain ⟨y, hy, _, hym⟩ := atI_in (xs := [D.int 2, .int (-1), .bl true, .non, .str "0"]) r0 (by simpa using r1)
      refine ⟨_, by rw [updD_ne pa, updD_same], y, hy, ?_⟩
      have hy3 : wthn y 0 1 = false ∧ Pl 2 y := by
        simp only [List.mem_cons, List.not_mem_nil, or_false] at hym
        rcases hym with rfl | rfl | rfl | rfl | rfl
        · exact ⟨wthn_no (by omega), trivial⟩
        · exact ⟨wthn_no (by omega), trivial⟩
        · exact ⟨rfl, trivial⟩
        · exact ⟨rfl, trivial⟩
        · exact ⟨rfl, pl_str (by decide +kernel)⟩
      refine fin (hx2.new hp0).bag hb4 (by omega) (Pl.t6 (n := 4) (pl_2 pl_int (pl_3 (pl_str (by decide +kernel)) hy3.2 (pl_ints (by omega)))) (by decide) _) (np_move (.inl hy3.1))
    · simp only [d__law_bad_what_t9, dVar, dC, dOp, dUn, dNil, dCons, dTup, dLst, dCB, dTest, dAnd, dOr, dNot, dAndV, dOrV, dNotV, dIfE, dChain, sNext, sSeq, sBreak, sCont, sDrop, sRet, sRetN, sIf, gdName, gdNil, gdCons, gdTup, gdSub, sAsg, dCall, xOf, sFor, dSeq, dRng1, dRng2, dI, dI0, dB0, dAdd, dIsN, dNotN, isNon, dIx, dSetL, dNeg, one, two, dLen1, dListOf1, dTupOf1, dAbs1, dIntOf1, dII, marg, dAppend1, dExtend1, dIsi, isA, dSl, dPart, dNoPart, dCut, dLc, dYes, sRaise, sTry, exBy, sPar2, sPar3, dIsBl, dNotBl, dBM, dBM0, dEq, dNe, dIn, dSgn, dLc2, dEnum, dListRg1, dListRg2, dTupRg1, dTupRg2, dStrOf1, dRep, dLenSet, dstart, fnE_nx, fnE_rt, fnE_ex, Nat.zero_le, Nat.reduceLeDiff, decide_true, decide_false, true_or, or_true, false_or, or_false, decide_eq_true_eq, exists_eq_left', exists_eq_left, exists_eq_right, exists_eq_right', Option.some.injEq, List.cons.injEq, D.int.injEq, D.bl.injEq, D.str.injEq, D.tup.injEq, D.lro.injEq, D.ref.injEq, DO.lst.injEq, and_true, true_and, and_false, false_and, exists_false, exists_const, List.getElem?_cons_zero, List.getElem?_cons_succ, List.map_cons, List.map_nil, List.length_cons, List.length_nil, List.replicate_zero, List.replicate_succ, List.append_nil, List.cons_append, List.nil_append, List.set_cons_zero, List.set_cons_succ, Nat.reduceAdd, Nat.reduceSub, Nat.zero_add, reduceIte, Bool.false_eq_true, reduceCtorEq, if_true, if_false, Bool.not_true, Bool.not_false, exists_and_left, atI0, atI1, atI2]
      refine ⟨a, b, _, true, .int p, ns, low, low + ps.length, total es, rfl, hb2, by omega, q2, by omega, hlow0, by omega, hhi, htot, fun d L' h1 h2 h3 h4 => ?_⟩
      refine fin (hx2.trans h1) h2 (by omega) (tame_tup (n := 4) (by decide) (by simp) fun d' hd => ?_) (np_move ?_)
      · simp only [List.mem_cons, List.not_mem_nil, or_false] at hd
        rcases hd with rfl | rfl
        · trivial
        · refine ⟨by simp, fun d'' hd => ?_⟩
          simp only [List.mem_cons, List.not_mem_nil, or_false] at hd
          rcases hd with rfl | rfl | rfl
          · exact (pl_str (n := 3) (by decide +kernel)).tame L'
          · trivial
          · exact tame_up h3 (by decide)
      · rcases h4 with h4 | h4
        · exact .inr (.inr (.inl h4))
        · rcases h4 with h4 | h4
          · exact .inr (.inl h4)
          · exact .inr (.inr (.inr h4))
  | call p ns q0 q1 q2 q3 =>
    have hpl2 : p.toNat < (exitsI es).length := by omega
    have hns : 1 ≤ ns.length ∧ ns.length ≤ 24 := by
      have hm : (exitsI es).getD p.toNat 0 ∈ exitsI es := by
        rw [List.getD_eq_getElem?_getD, List.getElem?_eq_getElem hpl2]
        exact List.getElem_mem hpl2
      unfold exitsI at hm
      obtain ⟨e, he, hm⟩ := List.mem_flatMap.mp hm
      obtain ⟨_, _, hm⟩ := List.mem_map.mp hm
      obtain ⟨_, _, g3, g4, _⟩ := isHead_of (hp.hd e he)
      have : (exitsI es).getD p.toNat 0 = exD e := hm.symm
      omega
    simp only [c2', dVar, dC, dOp, dUn, dNil, dCons, dTup, dLst, dCB, dTest, dAnd, dOr, dNot, dAndV, dOrV, dNotV, dIfE, dChain, sNext, sSeq, sBreak, sCont, sDrop, sRet, sRetN, sIf, gdName, gdNil, gdCons, gdTup, gdSub, sAsg, dCall, xOf, sFor, dSeq, dRng1, dRng2, dI, dI0, dB0, dAdd, dIsN, dNotN, isNon, dIx, dSetL, dNeg, one, two, dLen1, dListOf1, dTupOf1, dAbs1, dIntOf1, dII, marg, dAppend1, dExtend1, dIsi, isA, dSl, dPart, dNoPart, dCut, dLc, dYes, sRaise, sTry, exBy, sPar2, sPar3, dIsBl, dNotBl, dBM, dBM0, dEq, dNe, dIn, dSgn, dLc2, dEnum, dListRg1, dListRg2, dTupRg1, dTupRg2, dStrOf1, dRep, dLenSet, dstart, fnE_nx, fnE_rt, fnE_ex, Nat.zero_le, Nat.reduceLeDiff, decide_true, decide_false, true_or, or_true, false_or, or_false, decide_eq_true_eq, exists_eq_left', exists_eq_left, exists_eq_right, exists_eq_right', Option.some.injEq, List.cons.injEq, D.int.injEq, D.bl.injEq, D.str.injEq, D.tup.injEq, D.lro.injEq, D.ref.injEq, DO.lst.injEq, and_true, true_and, and_false, false_and, exists_false, exists_const, List.getElem?_cons_zero, List.getElem?_cons_succ, List.map_cons, List.map_nil, List.length_cons, List.length_nil, List.replicate_zero, List.replicate_succ, List.append_nil, List.cons_append, List.nil_append, List.set_cons_zero, List.set_cons_succ, Nat.reduceAdd, Nat.reduceSub, Nat.zero_add, reduceIte, Bool.false_eq_true, reduceCtorEq, if_true, if_false, Bool.not_true, Bool.not_false, exists_and_left, d__law_bad_what_t7, atI0, atI1, atI2, eqD_str, e_ee.2.2.1, d__law_bad_what_t8, e_ee.2.2.2.2]
    split
    · intro p2 hp0
      obtain ⟨pa, pb, hb3⟩ := hb2.new (o := .lst [.int (total es), .int (-1), .bl true, .non, .str "0"]) hp0
      simp only [d__law_bad_what_t8a1, dVar, dC, dOp, dUn, dNil, dCons, dTup, dLst, dCB, dTest, dAnd, dOr, dNot, dAndV, dOrV, dNotV, dIfE, dChain, sNext, sSeq, sBreak, sCont, sDrop, sRet, sRetN, sIf, gdName, gdNil, gdCons, gdTup, gdSub, sAsg, dCall, xOf, sFor, dSeq, dRng1, dRng2, dI, dI0, dB0, dAdd, dIsN, dNotN, isNon, dIx, dSetL, dNeg, one, two, dLen1, dListOf1, dTupOf1, dAbs1, dIntOf1, dII, marg, dAppend1, dExtend1, dIsi, isA, dSl, dPart, dNoPart, dCut, dLc, dYes, sRaise, sTry, exBy, sPar2, sPar3, dIsBl, dNotBl, dBM, dBM0, dEq, dNe, dIn, dSgn, dLc2, dEnum, dListRg1, dListRg2, dTupRg1, dTupRg2, dStrOf1, dRep, dLenSet, dstart, fnE_nx, fnE_rt, fnE_ex, Nat.zero_le, Nat.reduceLeDiff, decide_true, decide_false, true_or, or_true, false_or, or_false, decide_eq_true_eq, exists_eq_left', exists_eq_left, exists_eq_right, exists_eq_right', Option.some.injEq, List.cons.injEq, D.int.injEq, D.bl.injEq, D.str.injEq, D.tup.injEq, D.lro.injEq, D.ref.injEq, DO.lst.injEq, and_true, true_and, and_false, false_and, exists_false, exists_const, List.getElem?_cons_zero, List.getElem?_cons_succ, List.map_cons, List.map_nil, List.length_cons, List.length_nil, List.replicate_zero, List.replicate_succ, List.append_nil, List.cons_append, List.nil_append, List.set_cons_zero, List.set_cons_succ, Nat.reduceAdd, Nat.reduceSub, Nat.zero_add, reduceIte, Bool.false_eq_true, reduceCtorEq, if_true, if_false, Bool.not_true, Bool.not_false, exists_and_left, atI0, atI1, atI2]
      refine ⟨a, b, 5, _, rfl, hb3, by omega, by decide, by decide, fun r o r0 r1 hb4 => ?_⟩
      obtain ⟨y, hy, _, hym⟩ := atI_in (xs := [D.int (total es), .int (-1), .bl true, .non, .str "0"]) r0 (by simpa using r1)
      refine ⟨_, by rw [updD_ne pa, updD_same], y, hy, ?_⟩
      have hy3 : wthn y 0 (((exitsI es).length : Int) - 1) = false ∧ Pl 2 y := by
        simp only [List.mem_cons, List.not_mem_nil, or_false] at hym
        rcases hym with rfl | rfl | rfl | rfl | rfl
        · exact ⟨wthn_no (by omega), trivial⟩
        · exact ⟨wthn_no (by omega), trivial⟩
        · exact ⟨rfl, trivial⟩
        · exact ⟨rfl, trivial⟩
        · exact ⟨rfl, pl_str (by decide +kernel)⟩
      refine fin (hx2.new hp0).bag hb4 (by omega) (Pl.t6 (n := 4) (pl_2 pl_int (pl_3 (pl_str (by decide +kernel)) hy3.2 (pl_ints (by omega)))) (by decide) _) (np_call (.inl hy3.1))
    · simp only [d__law_bad_what_t9, dVar, dC, dOp, dUn, dNil, dCons, dTup, dLst, dCB, dTest, dAnd, dOr, dNot, dAndV, dOrV, dNotV, dIfE, dChain, sNext, sSeq, sBreak, sCont, sDrop, sRet, sRetN, sIf, gdName, gdNil, gdCons, gdTup, gdSub, sAsg, dCall, xOf, sFor, dSeq, dRng1, dRng2, dI, dI0, dB0, dAdd, dIsN, dNotN, isNon, dIx, dSetL, dNeg, one, two, dLen1, dListOf1, dTupOf1, dAbs1, dIntOf1, dII, marg, dAppend1, dExtend1, dIsi, isA, dSl, dPart, dNoPart, dCut, dLc, dYes, sRaise, sTry, exBy, sPar2, sPar3, dIsBl, dNotBl, dBM, dBM0, dEq, dNe, dIn, dSgn, dLc2, dEnum, dListRg1, dListRg2, dTupRg1, dTupRg2, dStrOf1, dRep, dLenSet, dstart, fnE_nx, fnE_rt, fnE_ex, Nat.zero_le, Nat.reduceLeDiff, decide_true, decide_false, true_or, or_true, false_or, or_false, decide_eq_true_eq, exists_eq_left', exists_eq_left, exists_eq_right, exists_eq_right', Option.some.injEq, List.cons.injEq, D.int.injEq, D.bl.injEq, D.str.injEq, D.tup.injEq, D.lro.injEq, D.ref.injEq, DO.lst.injEq, and_true, true_and, and_false, false_and, exists_false, exists_const, List.getElem?_cons_zero, List.getElem?_cons_succ, List.map_cons, List.map_nil, List.length_cons, List.length_nil, List.replicate_zero, List.replicate_succ, List.append_nil, List.cons_append, List.nil_append, List.set_cons_zero, List.set_cons_succ, Nat.reduceAdd, Nat.reduceSub, Nat.zero_add, reduceIte, Bool.false_eq_true, reduceCtorEq, if_true, if_false, Bool.not_true, Bool.not_false, exists_and_left, atI0, atI1, atI2]
      refine ⟨a, b, _, false, .int p, ns, low, low + ps.length, total es, rfl, hb2, by omega, hns.1, hns.2, hlow0, by omega, hhi, htot, fun d L' h1 h2 h3 h4 => ?_⟩
      refine fin (hx2.trans h1) h2 (by omega) (tame_tup (n := 4) (by decide) (by simp) fun d' hd => ?_) (np_call ?_)
      · simp only [List.mem_cons, List.not_mem_nil, or_false] at hd
        rcases hd with rfl | rfl
        · trivial
        · refine ⟨by simp, fun d'' hd => ?_⟩
          simp only [List.mem_cons, List.not_mem_nil, or_false] at hd
          rcases hd with rfl | rfl | rfl
          · exact (pl_str (n := 3) (by decide +kernel)).tame L'
          · trivial
          · exact tame_up h3 (by decide)
      · rcases h4 with h4 | h4
        · exact .inr (.inr h4)
        · have h4 : isRow d ns.length ns.length = false := h4
          refine .inr (.inl ?_)
          show isRow d ((exitsI es).getD p.toNat 0) ((exitsI es).getD p.toNat 0) = false
          rw [← q2]; exact h4
def lenF (es : List D) : D → D
  | .int j => .int ((plD (es.getD j.toNat .non)).length)
  | d => d
theorem lens_sum (es : List D) (i : Int) (h0 : 0 ≤ i) (h1 : i ≤ es.length) : ∃ ls : List Int, (rngD 0 i.toNat).map (lenF es) = ls.map .int ∧ ls.sum = startOf es i.toNat := by
  refine ⟨(List.range i.toNat).map fun j => ((plD (es.getD j .non)).length : Int), ?_, ?_⟩
  · unfold rngD
    rw [List.map_map, List.map_map]
    refine List.map_congr_left fun j _ => ?_
    show D.int ((plD (es.getD (0 + (j : Int)).toNat .non)).length) = D.int _
    rw [show (0 + (j : Int)).toNat = j by omega]
  · unfold startOf
    rw [← sum_len]
    congr 1
    refine List.ext_getElem? fun m => ?_
    rw [List.getElem?_map, List.getElem?_map]
    by_cases hm : m < i.toNat
    · have hm2 : m < es.length := by omega
      rw [List.getElem?_range hm, List.getElem?_take_of_lt hm, List.getElem?_eq_getElem hm2]
      simp [List.getElem?_eq_getElem hm2]
    · rw [List.getElem?_eq_none (by simp; omega), List.getElem?_eq_none (by simp; omega)]; rfl
theorem lens_at {es : List D} (hp : Prg es) {j : Int} (j0 : 0 ≤ j) (j1 : j < es.length) : ∃ z x ps, atI es j = some (.tup [.str z, .int x, .tup ps]) ∧ lenF es (.int j) = .int ps.length := by
  have hj : j.toNat < es.length := by omega
  obtain ⟨z, x, ps, e⟩ := isHead_ex (hp.hd _ (List.getElem_mem hj))
  refine ⟨z, x, ps, ?_, ?_⟩
  · have := atI_nat (List.getElem?_eq_getElem hj)
    rw [show ((j.toNat : Nat) : Int) = j by omega] at this
    rw [this, e]
  · show D.int ((plD (es.getD j.toNat .non)).length) = _
    rw [List.getD_eq_getElem?_getD, List.getElem?_eq_getElem hj]
    show D.int ((plD es[j.toNat]).length) = _
    rw [e]; rfl
theorem bent_tm {L : DH} {es ps : List D} {i k : Nat} {z : Str} {x : Int} {d : D} (hpl : Pl 6 (.tup es)) (he : es[i]? = some (.tup [.str z, .int x, .tup ps])) (hk : k < ps.length) (hd : Tame L 6 d) : Tm L (.tup (bentP es i (.tup [.str z, .int x, .tup (bentL ps k d)]))) := by
  have hi : i < es.length := (List.getElem?_eq_some_iff.mp he).1
  have h1 := pl_mem hpl (List.mem_of_getElem? he)
  have h2 := pl_mem h1 (show D.tup ps ∈ [D.str z, .int x, .tup ps] by simp)
  have hz := pl_mem h1 (show D.str z ∈ [D.str z, .int x, .tup ps] by simp)
  refine tm_tup (n := 8) (by decide) (by have := hpl.1; unfold bentP; simp; omega) fun y hy => ?_
  unfold bentP at hy
  rcases List.mem_append.mp hy with hy | hy
  · exact tame_up ((pl_mem hpl (List.mem_of_mem_take hy)).tame L) (by decide)
  · rcases List.mem_cons.mp hy with rfl | hy
    · refine ⟨by simp, fun y hy => ?_⟩
      simp only [List.mem_cons, List.not_mem_nil, or_false] at hy
      rcases hy with rfl | rfl | rfl
      · exact tame_up (hz.tame L) (by decide)
      · trivial
      · refine ⟨by rw [bentL_len hk]; exact h2.1, fun y hy => ?_⟩
        unfold bentL at hy
        rcases List.mem_append.mp hy with hy | hy
        · exact tame_up ((pl_mem h2 (List.mem_of_mem_take hy)).tame L) (by decide)
        · rcases List.mem_cons.mp hy with rfl | hy
          · exact hd
          · exact tame_up ((pl_mem h2 (List.mem_of_mem_drop hy)).tame L) (by decide)
    · exact tame_up ((pl_mem hpl (List.mem_of_mem_drop hy)).tame L) (by decide)
theorem bent_bad {es ps : List D} {i k : Nat} {z : Str} {x : Int} {d : D} (he : es[i]? = some (.tup [.str z, .int x, .tup ps])) (hk : k < ps.length) (h : isPlc d (startOf es i) (startOf es i + ps.length) (exitsI es) = false) : isProg (.tup (bentP es i (.tup [.str z, .int x, .tup (bentL ps k d)]))) = false :=
  bad_place (e' := .tup [.str z, .int x, .tup (bentL ps k d)]) he (bentL_len hk) rfl bentL_mem h
def sp_law_bad_place : SpD := fun ds L Q _ => ∃ (a b : Addr) (n : Nat) (es : List D), ds = [.ref a, .tup es] ∧ BagAt n L a b ∧ n ≤ 700000000 ∧ isProg (.tup es) = true ∧ Pl 6 (.tup es) ∧
  ∀ d L', Ext a L L' → BagAt (n + 40) L' a b → Tm L' d → isProg d = false → Q d L'
theorem len_law_bad_place : ∀ as L Q E, sp_law_bad_place as L Q E → as.length = 2 := by rintro _ L Q E ⟨a, b, n, es, rfl, _⟩; rfl
def d__law_bad_place_t4a2 : DS :=
  (sRet (dCall sp_law_bent (dCons (dVar 1) (dCons (dVar 2) (dCons (dVar 5) (dCons (dVar 7) dNil))))))
def d__law_bad_place_t4a1 : DS :=
  (sSeq (sAsg (dOp dIx (dLst (dCons (dTup (dCons (dVar 6) (dCons (dOp dIx (dOp dIx (dVar 4) (dVar 5)) (dC (.int 1))) dNil))) (dCons (dCB dListOf (dCons (dOp dIx (dVar 4) (dVar 5)) dNil)) (dCons (dOp dAdd (dOp dIx (dVar 4) (dVar 5)) (dTup (dCons (dC (.int 0)) dNil))) dNil)))) (dCall sp_law_pick (dCons (dVar 0) (dCons (dC (.int 3)) dNil)))) (gdName 7)) d__law_bad_place_t4a2)
def d__law_bad_place_t5 : DS :=
  (sRet (dCall sp_law_bent (dCons (dVar 1) (dCons (dVar 2) (dCons (dVar 5) (dCons (dCall sp_law_bad_what (dCons (dVar 0) (dCons (dVar 1) (dCons (dVar 2) (dCons (dVar 5) (dCons (dVar 3) dNil)))))) dNil))))))
def d__law_bad_place_t4 : DS :=
  (sSeq (sIf (dTest (dOp dEq (dCall sp_law_pick (dCons (dVar 0) (dCons (dC (.int 3)) dNil))) (dC (.int 0)))) (sSeq (sAsg (dOp dIx (dLst (dCons (dC (.int 10)) (dCons (dUn dNeg (dC (.int 1))) (dCons (dC (.bl true)) (dCons (dC .non) (dCons (dC (.str "1")) dNil)))))) (dCall sp_law_pick (dCons (dVar 0) (dCons (dC (.int 5)) dNil)))) (gdName 6)) d__law_bad_place_t4a1) sNext) d__law_bad_place_t5)
def d__law_bad_place_t3 : DS :=
  (sSeq (sAsg (dCall sp_law_pick (dCons (dVar 0) (dCons (dCB dLen (dCons (dVar 4) dNil)) dNil))) (gdName 5)) d__law_bad_place_t4)
def d__law_bad_place_t2 : DS :=
  (sSeq (sAsg (dOp dIx (dOp dIx (dVar 1) (dVar 2)) (dC (.int 2))) (gdName 4)) d__law_bad_place_t3)
def d__law_bad_place_t1 : DS :=
  (sSeq (sAsg (dCB dSum (dCons (dLc (dRng1 (dCons (dVar 2) dNil)) (gdName 8) dYes (dCB dLen (dCons (dOp dIx (dOp dIx (dVar 1) (dVar 8)) (dC (.int 2))) dNil)) [8]) dNil)) (gdName 3)) d__law_bad_place_t2)
def d__law_bad_place : DS :=
  (sSeq (sAsg (dCall sp_law_pick (dCons (dVar 0) (dCons (dCB dLen (dCons (dVar 1) dNil)) dNil))) (gdName 2)) d__law_bad_place_t1)

theorem pure_law_bad_place : ∀ as L Q E, sp_law_bad_place as L Q E → d__law_bad_place (fnEnds Q E) (dstart 9 as) L := by
  rintro as L Q E ⟨a, b, n, es, rfl, hb, hn, hi, hpl, q⟩
  obtain ⟨es', e', hp⟩ := prg_of hi
  cases e'
  have hes := hp.len
  simp only [d__law_bad_place, dVar, dC, dOp, dUn, dNil, dCons, dTup, dLst, dCB, dTest, dAnd, dOr, dNot, dAndV, dOrV, dNotV, dIfE, dChain, sNext, sSeq, sBreak, sCont, sDrop, sRet, sRetN, sIf, gdName, gdNil, gdCons, gdTup, gdSub, sAsg, dCall, xOf, sFor, dSeq, dRng1, dRng2, dI, dI0, dB0, dAdd, dIsN, dNotN, isNon, dIx, dSetL, dNeg, one, two, dLen1, dListOf1, dTupOf1, dAbs1, dIntOf1, dII, marg, dAppend1, dExtend1, dIsi, isA, dSl, dPart, dNoPart, dCut, dLc, dYes, sRaise, sTry, exBy, sPar2, sPar3, dIsBl, dNotBl, dBM, dBM0, dEq, dNe, dIn, dSgn, dLc2, dEnum, dListRg1, dListRg2, dTupRg1, dTupRg2, dStrOf1, dRep, dLenSet, dstart, fnE_nx, fnE_rt, fnE_ex, Nat.zero_le, Nat.reduceLeDiff, decide_true, decide_false, true_or, or_true, false_or, or_false, decide_eq_true_eq, exists_eq_left', exists_eq_left, exists_eq_right, exists_eq_right', Option.some.injEq, List.cons.injEq, D.int.injEq, D.bl.injEq, D.str.injEq, D.tup.injEq, D.lro.injEq, D.ref.injEq, DO.lst.injEq, and_true, true_and, and_false, false_and, exists_false, exists_const, List.getElem?_cons_zero, List.getElem?_cons_succ, List.map_cons, List.map_nil, List.length_cons, List.length_nil, List.replicate_zero, List.replicate_succ, List.append_nil, List.cons_append, List.nil_append, List.set_cons_zero, List.set_cons_succ, Nat.reduceAdd, Nat.reduceSub, Nat.zero_add, reduceIte, Bool.false_eq_true, reduceCtorEq, if_true, if_false, Bool.not_true, Bool.not_false, exists_and_left]
  refine ⟨a, b, es.length, _, rfl, hb, by omega, by omega, big_m (by omega), fun i o i0 i1 hb1 => ?_⟩
  simp only [d__law_bad_place_t1, dVar, dC, dOp, dUn, dNil, dCons, dTup, dLst, dCB, dTest, dAnd, dOr, dNot, dAndV, dOrV, dNotV, dIfE, dChain, sNext, sSeq, sBreak, sCont, sDrop, sRet, sRetN, sIf, gdName, gdNil, gdCons, gdTup, gdSub, sAsg, dCall, xOf, sFor, dSeq, dRng1, dRng2, dI, dI0, dB0, dAdd, dIsN, dNotN, isNon, dIx, dSetL, dNeg, one, two, dLen1, dListOf1, dTupOf1, dAbs1, dIntOf1, dII, marg, dAppend1, dExtend1, dIsi, isA, dSl, dPart, dNoPart, dCut, dLc, dYes, sRaise, sTry, exBy, sPar2, sPar3, dIsBl, dNotBl, dBM, dBM0, dEq, dNe, dIn, dSgn, dLc2, dEnum, dListRg1, dListRg2, dTupRg1, dTupRg2, dStrOf1, dRep, dLenSet, dstart, fnE_nx, fnE_rt, fnE_ex, Nat.zero_le, Nat.reduceLeDiff, decide_true, decide_false, true_or, or_true, false_or, or_false, decide_eq_true_eq, exists_eq_left', exists_eq_left, exists_eq_right, exists_eq_right', Option.some.injEq, List.cons.injEq, D.int.injEq, D.bl.injEq, D.str.injEq, D.tup.injEq, D.lro.injEq, D.ref.injEq, DO.lst.injEq, and_true, true_and, and_false, false_and, exists_false, exists_const, List.getElem?_cons_zero, List.getElem?_cons_succ, List.map_cons, List.map_nil, List.length_cons, List.length_nil, List.replicate_zero, List.replicate_succ, List.append_nil, List.cons_append, List.nil_append, List.set_cons_zero, List.set_cons_succ, Nat.reduceAdd, Nat.reduceSub, Nat.zero_add, reduceIte, Bool.false_eq_true, reduceCtorEq, if_true, if_false, Bool.not_true, Bool.not_false, exists_and_left, dwipe]
  refine ⟨⟨by omega, by omega⟩, ?_⟩
  refine lcD_map (lenF es) _ trivial _ (fun d hd Kt hK Kf => ?_) [] (by rw [rngD_length]; simp; omega) fun p1 hp1 => ?_
  · obtain ⟨j, rfl, j0, j1⟩ := mem_rngD hd
    obtain ⟨z, x, ps, e1, e2⟩ := lens_at hp j0 (by omega)
    rw [e2] at hK
    simp only [dVar, dC, dOp, dUn, dNil, dCons, dTup, dLst, dCB, dTest, dAnd, dOr, dNot, dAndV, dOrV, dNotV, dIfE, dChain, sNext, sSeq, sBreak, sCont, sDrop, sRet, sRetN, sIf, gdName, gdNil, gdCons, gdTup, gdSub, sAsg, dCall, xOf, sFor, dSeq, dRng1, dRng2, dI, dI0, dB0, dAdd, dIsN, dNotN, isNon, dIx, dSetL, dNeg, one, two, dLen1, dListOf1, dTupOf1, dAbs1, dIntOf1, dII, marg, dAppend1, dExtend1, dIsi, isA, dSl, dPart, dNoPart, dCut, dLc, dYes, sRaise, sTry, exBy, sPar2, sPar3, dIsBl, dNotBl, dBM, dBM0, dEq, dNe, dIn, dSgn, dLc2, dEnum, dListRg1, dListRg2, dTupRg1, dTupRg2, dStrOf1, dRep, dLenSet, dstart, fnE_nx, fnE_rt, fnE_ex, Nat.zero_le, Nat.reduceLeDiff, decide_true, decide_false, true_or, or_true, false_or, or_false, decide_eq_true_eq, exists_eq_left', exists_eq_left, exists_eq_right, exists_eq_right', Option.some.injEq, List.cons.injEq, D.int.injEq, D.bl.injEq, D.str.injEq, D.tup.injEq, D.lro.injEq, D.ref.injEq, DO.lst.injEq, and_true, true_and, and_false, false_and, exists_false, exists_const, List.getElem?_cons_zero, List.getElem?_cons_succ, List.map_cons, List.map_nil, List.length_cons, List.length_nil, List.replicate_zero, List.replicate_succ, List.append_nil, List.cons_append, List.nil_append, List.set_cons_zero, List.set_cons_succ, Nat.reduceAdd, Nat.reduceSub, Nat.zero_add, reduceIte, Bool.false_eq_true, reduceCtorEq, if_true, if_false, Bool.not_true, Bool.not_false, exists_and_left, e1, atI2]
    exact hK
  obtain ⟨p1a, p1b, hb2⟩ := hb1.new (o := .lst ([] ++ (rngD 0 i.toNat).map (lenF es))) hp1
  have hx2 : Ext a L _ := (Ext.refl.bag (o := o)).new (o := .lst ([] ++ (rngD 0 i.toNat).map (lenF es))) hp1
  obtain ⟨ls, e1, e2⟩ := lens_sum es i i0 (by omega)
  refine ⟨.ref p1, ls, rfl, by rw [lstOf_ref updD_same, List.nil_append, e1], ?_⟩
  rw [e2]
  generalize upd (upd L a o) p1 (.lst ([] ++ (rngD 0 i.toNat).map (lenF es))) = L2 at hb2 hx2
  have hii : i.toNat < es.length := by omega
  obtain ⟨z, x, ps, he⟩ : ∃ z x ps, es[i.toNat]? = some (.tup [.str z, .int x, .tup ps]) := by
    obtain ⟨z, x, ps, e⟩ := isHead_ex (hp.hd _ (List.getElem_mem hii))
    exact ⟨z, x, ps, by rw [List.getElem?_eq_getElem hii, e]⟩
  have hat : atI es i = some (.tup [.str z, .int x, .tup ps]) := by
    have := atI_nat he
    rwa [show ((i.toNat : Nat) : Int) = i by omega] at this
  obtain ⟨_, _, _, _, b5, b6⟩ := isHead_of (hp.hd _ (List.mem_of_getElem? he))
  have b5 : 1 ≤ ps.length := b5
  have b6 : ps.length ≤ 4000 := b6
  simp only [d__law_bad_place_t2, dVar, dC, dOp, dUn, dNil, dCons, dTup, dLst, dCB, dTest, dAnd, dOr, dNot, dAndV, dOrV, dNotV, dIfE, dChain, sNext, sSeq, sBreak, sCont, sDrop, sRet, sRetN, sIf, gdName, gdNil, gdCons, gdTup, gdSub, sAsg, dCall, xOf, sFor, dSeq, dRng1, dRng2, dI, dI0, dB0, dAdd, dIsN, dNotN, isNon, dIx, dSetL, dNeg, one, two, dLen1, dListOf1, dTupOf1, dAbs1, dIntOf1, dII, marg, dAppend1, dExtend1, dIsi, isA, dSl, dPart, dNoPart, dCut, dLc, dYes, sRaise, sTry, exBy, sPar2, sPar3, dIsBl, dNotBl, dBM, dBM0, dEq, dNe, dIn, dSgn, dLc2, dEnum, dListRg1, dListRg2, dTupRg1, dTupRg2, dStrOf1, dRep, dLenSet, dstart, fnE_nx, fnE_rt, fnE_ex, Nat.zero_le, Nat.reduceLeDiff, decide_true, decide_false, true_or, or_true, false_or, or_false, decide_eq_true_eq, exists_eq_left', exists_eq_left, exists_eq_right, exists_eq_right', Option.some.injEq, List.cons.injEq, D.int.injEq, D.bl.injEq, D.str.injEq, D.tup.injEq, D.lro.injEq, D.ref.injEq, DO.lst.injEq, and_true, true_and, and_false, false_and, exists_false, exists_const, List.getElem?_cons_zero, List.getElem?_cons_succ, List.map_cons, List.map_nil, List.length_cons, List.length_nil, List.replicate_zero, List.replicate_succ, List.append_nil, List.cons_append, List.nil_append, List.set_cons_zero, List.set_cons_succ, Nat.reduceAdd, Nat.reduceSub, Nat.zero_add, reduceIte, Bool.false_eq_true, reduceCtorEq, if_true, if_false, Bool.not_true, Bool.not_false, exists_and_left, hat, atI2]
  simp only [d__law_bad_place_t3, dVar, dC, dOp, dUn, dNil, dCons, dTup, dLst, dCB, dTest, dAnd, dOr, dNot, dAndV, dOrV, dNotV, dIfE, dChain, sNext, sSeq, sBreak, sCont, sDrop, sRet, sRetN, sIf, gdName, gdNil, gdCons, gdTup, gdSub, sAsg, dCall, xOf, sFor, dSeq, dRng1, dRng2, dI, dI0, dB0, dAdd, dIsN, dNotN, isNon, dIx, dSetL, dNeg, one, two, dLen1, dListOf1, dTupOf1, dAbs1, dIntOf1, dII, marg, dAppend1, dExtend1, dIsi, isA, dSl, dPart, dNoPart, dCut, dLc, dYes, sRaise, sTry, exBy, sPar2, sPar3, dIsBl, dNotBl, dBM, dBM0, dEq, dNe, dIn, dSgn, dLc2, dEnum, dListRg1, dListRg2, dTupRg1, dTupRg2, dStrOf1, dRep, dLenSet, dstart, fnE_nx, fnE_rt, fnE_ex, Nat.zero_le, Nat.reduceLeDiff, decide_true, decide_false, true_or, or_true, false_or, or_false, decide_eq_true_eq, exists_eq_left', exists_eq_left, exists_eq_right, exists_eq_right', Option.some.injEq, List.cons.injEq, D.int.injEq, D.bl.injEq, D.str.injEq, D.tup.injEq, D.lro.injEq, D.ref.injEq, DO.lst.injEq, and_true, true_and, and_false, false_and, exists_false, exists_const, List.getElem?_cons_zero, List.getElem?_cons_succ, List.map_cons, List.map_nil, List.length_cons, List.length_nil, List.replicate_zero, List.replicate_succ, List.append_nil, List.cons_append, List.nil_append, List.set_cons_zero, List.set_cons_succ, Nat.reduceAdd, Nat.reduceSub, Nat.zero_add, reduceIte, Bool.false_eq_true, reduceCtorEq, if_true, if_false, Bool.not_true, Bool.not_false, exists_and_left]
  refine ⟨a, b, ps.length, _, rfl, hb2, by omega, by omega, big_m (by omega), fun k o k0 k1 hb3 => ?_⟩
  have hx3 := hx2.bag (o := o)
  generalize upd L2 a o = L3 at hb3 hx3
  have hkk : k.toNat < ps.length := by omega
  obtain ⟨pl, hpl1⟩ : ∃ pl, ps[k.toNat]? = some pl := ⟨_, List.getElem?_eq_getElem hkk⟩
  have hat2 : atI ps k = some pl := by
    have := atI_nat hpl1
    rwa [show ((k.toNat : Nat) : Int) = k by omega] at this
  have A : AtPl es ps i k z x pl := ⟨i0, by omega, he, k0, by omega, hpl1⟩
  simp only [d__law_bad_place_t4, dVar, dC, dOp, dUn, dNil, dCons, dTup, dLst, dCB, dTest, dAnd, dOr, dNot, dAndV, dOrV, dNotV, dIfE, dChain, sNext, sSeq, sBreak, sCont, sDrop, sRet, sRetN, sIf, gdName, gdNil, gdCons, gdTup, gdSub, sAsg, dCall, xOf, sFor, dSeq, dRng1, dRng2, dI, dI0, dB0, dAdd, dIsN, dNotN, isNon, dIx, dSetL, dNeg, one, two, dLen1, dListOf1, dTupOf1, dAbs1, dIntOf1, dII, marg, dAppend1, dExtend1, dIsi, isA, dSl, dPart, dNoPart, dCut, dLc, dYes, sRaise, sTry, exBy, sPar2, sPar3, dIsBl, dNotBl, dBM, dBM0, dEq, dNe, dIn, dSgn, dLc2, dEnum, dListRg1, dListRg2, dTupRg1, dTupRg2, dStrOf1, dRep, dLenSet, dstart, fnE_nx, fnE_rt, fnE_ex, Nat.zero_le, Nat.reduceLeDiff, decide_true, decide_false, true_or, or_true, false_or, or_false, decide_eq_true_eq, exists_eq_left', exists_eq_left, exists_eq_right, exists_eq_right', Option.some.injEq, List.cons.injEq, D.int.injEq, D.bl.injEq, D.str.injEq, D.tup.injEq, D.lro.injEq, D.ref.injEq, DO.lst.injEq, and_true, true_and, and_false, false_and, exists_false, exists_const, List.getElem?_cons_zero, List.getElem?_cons_succ, List.map_cons, List.map_nil, List.length_cons, List.length_nil, List.replicate_zero, List.replicate_succ, List.append_nil, List.cons_append, List.nil_append, List.set_cons_zero, List.set_cons_succ, Nat.reduceAdd, Nat.reduceSub, Nat.zero_add, reduceIte, Bool.false_eq_true, reduceCtorEq, if_true, if_false, Bool.not_true, Bool.not_false, exists_and_left]
  refine ⟨a, b, 3, _, rfl, hb3, by omega, by decide, by decide, fun r o r0 r1 hb4 => ?_⟩
  have hx4 := hx3.bag (o := o)
  generalize upd L3 a o = L4 at hb4 hx4
  have fin : ∀ {d : D} {L' : DH} {j : Nat}, Ext a L L' → BagAt j L' a b → j ≤ n + 40 → Tame L' 6 d → isPlc d (startOf es i.toNat) (startOf es i.toNat + ps.length) (exitsI es) = false → ∃ L2, Le L2 L' ∧ Q (.tup (bentP es i.toNat (.tup [.str z, .int x, .tup (bentL ps k.toNat d)]))) L2 :=
    fun h1 h2 h3 h4 h5 => ⟨_, Le.refl, q _ _ h1 (h2.mono h3) (bent_tm hpl he hkk h4) (bent_bad he hkk h5)⟩
  have hplP : Pl 4 pl := by
    have h1 := pl_mem hpl (List.mem_of_getElem? he)
    have h2 := pl_mem h1 (show D.tup ps ∈ [D.str z, .int x, .tup ps] by simp)
    exact (pl_mem h2 (List.mem_of_getElem? hpl1)).up
  have hok : isPlc pl (startOf es i.toNat) (startOf es i.toNat + ps.length) (exitsI es) = true := isProg_place hi he (List.mem_of_getElem? hpl1 : pl ∈ plD (.tup [.str z, .int x, .tup ps]))
  obtain ⟨m, w, rfl, m0, m1, hw⟩ := plc_cases hok
  have hwP : Pl 3 w := pl_mem hplP (by simp)
  simp only [eqD_int]
  refine ⟨_, rfl, ?_⟩
  split
  · intro p2 hp2
    obtain ⟨p2a, p2b, hb5⟩ := hb4.new (o := .lst [.int 10, .int (-1), .bl true, .non, .str "1"]) hp2
    refine ⟨a, b, 5, _, rfl, hb5, by omega, by decide, by decide, fun r o r0 r1 hb6 => ?_⟩
    obtain ⟨y, hy, _, hym⟩ := atI_in (xs := [D.int 10, .int (-1), .bl true, .non, .str "1"]) r0 (by simpa using r1)
    refine ⟨_, by rw [updD_ne p2a, updD_same], y, hy, ?_⟩
    have hx6 := (hx4.new (o := .lst [.int 10, .int (-1), .bl true, .non, .str "1"]) hp2).bag (o := o)
    generalize upd (upd L4 p2 (.lst [.int 10, .int (-1), .bl true, .non, .str "1"])) a o = L5 at hb6 hx6
    have hy3 : wthn y 0 9 = false ∧ Pl 2 y := by
      simp only [List.mem_cons, List.not_mem_nil, or_false] at hym
      rcases hym with rfl | rfl | rfl | rfl | rfl
      · exact ⟨wthn_no (by omega), trivial⟩
      · exact ⟨wthn_no (by omega), trivial⟩
      · exact ⟨rfl, trivial⟩
      · exact ⟨rfl, trivial⟩
      · exact ⟨rfl, pl_str (by decide +kernel)⟩
    simp only [d__law_bad_place_t4a1, dVar, dC, dOp, dUn, dNil, dCons, dTup, dLst, dCB, dTest, dAnd, dOr, dNot, dAndV, dOrV, dNotV, dIfE, dChain, sNext, sSeq, sBreak, sCont, sDrop, sRet, sRetN, sIf, gdName, gdNil, gdCons, gdTup, gdSub, sAsg, dCall, xOf, sFor, dSeq, dRng1, dRng2, dI, dI0, dB0, dAdd, dIsN, dNotN, isNon, dIx, dSetL, dNeg, one, two, dLen1, dListOf1, dTupOf1, dAbs1, dIntOf1, dII, marg, dAppend1, dExtend1, dIsi, isA, dSl, dPart, dNoPart, dCut, dLc, dYes, sRaise, sTry, exBy, sPar2, sPar3, dIsBl, dNotBl, dBM, dBM0, dEq, dNe, dIn, dSgn, dLc2, dEnum, dListRg1, dListRg2, dTupRg1, dTupRg2, dStrOf1, dRep, dLenSet, dstart, fnE_nx, fnE_rt, fnE_ex, Nat.zero_le, Nat.reduceLeDiff, decide_true, decide_false, true_or, or_true, false_or, or_false, decide_eq_true_eq, exists_eq_left', exists_eq_left, exists_eq_right, exists_eq_right', Option.some.injEq, List.cons.injEq, D.int.injEq, D.bl.injEq, D.str.injEq, D.tup.injEq, D.lro.injEq, D.ref.injEq, DO.lst.injEq, and_true, true_and, and_false, false_and, exists_false, exists_const, List.getElem?_cons_zero, List.getElem?_cons_succ, List.map_cons, List.map_nil, List.length_cons, List.length_nil, List.replicate_zero, List.replicate_succ, List.append_nil, List.cons_append, List.nil_append, List.set_cons_zero, List.set_cons_succ, Nat.reduceAdd, Nat.reduceSub, Nat.zero_add, reduceIte, Bool.false_eq_true, reduceCtorEq, if_true, if_false, Bool.not_true, Bool.not_false, exists_and_left, hat2, atI1]
    intro p3 hp3
    obtain ⟨p3a, p3b, hb7⟩ := hb6.new (o := .lst [.int m, w]) hp3
    intro p4 hp4
    obtain ⟨p4a, p4b, hb8⟩ := hb7.new (o := .lst [.tup [y, w], .ref p3, .tup [.int m, w, .int 0]]) hp4
    have n34 : p3 ≠ p4 := fresh_ne updD_same hp4
    refine ⟨a, b, 3, _, rfl, hb8, by omega, by decide, by decide, fun r o r0 r1 hb9 => ?_⟩
    have g3 : upd (upd (upd L5 p3 (.lst [.int m, w])) p4 (.lst [.tup [y, w], .ref p3, .tup [.int m, w, .int 0]])) a o p3 = some (.lst [.int m, w]) := by rw [updD_ne p3a, updD_ne n34, updD_same]
    obtain ⟨u, hu, _, hum⟩ := atI_in (xs := [D.tup [y, w], .ref p3, .tup [.int m, w, .int 0]]) r0 (by simpa using r1)
    refine ⟨_, by rw [updD_ne p4a, updD_same], u, hu, ?_⟩
    have hx9 := ((hx6.new (o := .lst [.int m, w]) hp3).new (o := .lst [.tup [y, w], .ref p3, .tup [.int m, w, .int 0]]) hp4).bag (o := o)
    generalize upd (upd (upd L5 p3 (.lst [.int m, w])) p4 (.lst [.tup [y, w], .ref p3, .tup [.int m, w, .int 0]])) a o = L6 at hb9 g3 hx9
    simp only [d__law_bad_place_t4a2, dVar, dC, dOp, dUn, dNil, dCons, dTup, dLst, dCB, dTest, dAnd, dOr, dNot, dAndV, dOrV, dNotV, dIfE, dChain, sNext, sSeq, sBreak, sCont, sDrop, sRet, sRetN, sIf, gdName, gdNil, gdCons, gdTup, gdSub, sAsg, dCall, xOf, sFor, dSeq, dRng1, dRng2, dI, dI0, dB0, dAdd, dIsN, dNotN, isNon, dIx, dSetL, dNeg, one, two, dLen1, dListOf1, dTupOf1, dAbs1, dIntOf1, dII, marg, dAppend1, dExtend1, dIsi, isA, dSl, dPart, dNoPart, dCut, dLc, dYes, sRaise, sTry, exBy, sPar2, sPar3, dIsBl, dNotBl, dBM, dBM0, dEq, dNe, dIn, dSgn, dLc2, dEnum, dListRg1, dListRg2, dTupRg1, dTupRg2, dStrOf1, dRep, dLenSet, dstart, fnE_nx, fnE_rt, fnE_ex, Nat.zero_le, Nat.reduceLeDiff, decide_true, decide_false, true_or, or_true, false_or, or_false, decide_eq_true_eq, exists_eq_left', exists_eq_left, exists_eq_right, exists_eq_right', Option.some.injEq, List.cons.injEq, D.int.injEq, D.bl.injEq, D.str.injEq, D.tup.injEq, D.lro.injEq, D.ref.injEq, DO.lst.injEq, and_true, true_and, and_false, false_and, exists_false, exists_const, List.getElem?_cons_zero, List.getElem?_cons_succ, List.map_cons, List.map_nil, List.length_cons, List.length_nil, List.replicate_zero, List.replicate_succ, List.append_nil, List.cons_append, List.nil_append, List.set_cons_zero, List.set_cons_succ, Nat.reduceAdd, Nat.reduceSub, Nat.zero_add, reduceIte, Bool.false_eq_true, reduceCtorEq, if_true, if_false, Bool.not_true, Bool.not_false, exists_and_left]
    refine ⟨es, ps, i, k, z, x, u, rfl, hp, i0, by omega, he, k0, by omega, fin hx9 hb9 (by omega) ?_ ?_⟩
    · simp only [List.mem_cons, List.not_mem_nil, or_false] at hum
      rcases hum with rfl | rfl | rfl
      · exact tame_up ((pl_2 hy3.2.up hwP).tame _) (by decide)
      · exact tame_up (tame_list g3 hplP (by decide)) (by decide)
      · exact tame_up ((pl_3 (n := 3) pl_int hwP pl_int).tame _) (by decide)
    · simp only [List.mem_cons, List.not_mem_nil, or_false] at hum
      rcases hum with rfl | rfl | rfl
      · exact np_mark hy3.1
      · exact np_row rfl
      · exact np_row rfl
  · simp only [d__law_bad_place_t5, dVar, dC, dOp, dUn, dNil, dCons, dTup, dLst, dCB, dTest, dAnd, dOr, dNot, dAndV, dOrV, dNotV, dIfE, dChain, sNext, sSeq, sBreak, sCont, sDrop, sRet, sRetN, sIf, gdName, gdNil, gdCons, gdTup, gdSub, sAsg, dCall, xOf, sFor, dSeq, dRng1, dRng2, dI, dI0, dB0, dAdd, dIsN, dNotN, isNon, dIx, dSetL, dNeg, one, two, dLen1, dListOf1, dTupOf1, dAbs1, dIntOf1, dII, marg, dAppend1, dExtend1, dIsi, isA, dSl, dPart, dNoPart, dCut, dLc, dYes, sRaise, sTry, exBy, sPar2, sPar3, dIsBl, dNotBl, dBM, dBM0, dEq, dNe, dIn, dSgn, dLc2, dEnum, dListRg1, dListRg2, dTupRg1, dTupRg2, dStrOf1, dRep, dLenSet, dstart, fnE_nx, fnE_rt, fnE_ex, Nat.zero_le, Nat.reduceLeDiff, decide_true, decide_false, true_or, or_true, false_or, or_false, decide_eq_true_eq, exists_eq_left', exists_eq_left, exists_eq_right, exists_eq_right', Option.some.injEq, List.cons.injEq, D.int.injEq, D.bl.injEq, D.str.injEq, D.tup.injEq, D.lro.injEq, D.ref.injEq, DO.lst.injEq, and_true, true_and, and_false, false_and, exists_false, exists_const, List.getElem?_cons_zero, List.getElem?_cons_succ, List.map_cons, List.map_nil, List.length_cons, List.length_nil, List.replicate_zero, List.replicate_succ, List.append_nil, List.cons_append, List.nil_append, List.set_cons_zero, List.set_cons_succ, Nat.reduceAdd, Nat.reduceSub, Nat.zero_add, reduceIte, Bool.false_eq_true, reduceCtorEq, if_true, if_false, Bool.not_true, Bool.not_false, exists_and_left]
    refine ⟨a, b, _, es, ps, i, k, _, z, x, .tup [.int m, w], rfl, hb4, by omega, hi, hpl, A, rfl, fun d L' h1 h2 h3 h4 => ?_⟩
    refine ⟨es, ps, i, k, z, x, d, rfl, hp, i0, by omega, he, k0, by omega, fin (hx4.trans h1) h2 (by omega) h3 h4⟩
end D2

set_option Elab.async false
set_option linter.all false
set_option maxRecDepth 100000
set_option maxHeartbeats 1000000
namespace D2
open PySem PySem.Spec PyProof.Rows L2
theorem head_nm {n x ps : D} (h : isLow n = false) : isHead (.tup [n, x, ps]) = false := by
  show (isLow n && wthn x 1 24 && isRow ps 1 4000) = false
  rw [h]; rfl
theorem head_ex {n x ps : D} (h : wthn x 1 24 = false) : isHead (.tup [n, x, ps]) = false := by
  show (isLow n && wthn x 1 24 && isRow ps 1 4000) = false
  rw [h]; simp
theorem head_pl {n x ps : D} (h : isRow ps 1 4000 = false) : isHead (.tup [n, x, ps]) = false := by
  show (isLow n && wthn x 1 24 && isRow ps 1 4000) = false
  rw [h]; simp
theorem bent_head {es : List D} {i : Nat} {e' : D} (h : isHead e' = false) : isProg (.tup (bentP es i e')) = false := bad_head (e := e') (by unfold bentP; simp) h
theorem bent_twice {es : List D} {i : Nat} {e : D} (he : es[i]? = some e) : isProg (.tup (es ++ [e])) = false := by
  cases h : isProg (.tup (es ++ [e])) with
  | false => rfl
  | true =>
    unfold isProg at h
    rw [Bool.and_eq_true] at h
    obtain ⟨xs, e1, _, _, _, hn, _⟩ := areHeads_of h.1
    cases e1
    rw [List.map_append, List.nodup_append] at hn
    exact (hn.2.2 (nmD e) (List.mem_map_of_mem (List.mem_of_getElem? he)) (nmD e) (by simp) rfl).elim
theorem low_sp {z : Str} : lowName (z ++ (" " : Str)) = false := by
  have h : ((z ++ (" " : Str)).cps.toList.all fun c => smallC c || digitC c) = false := by
    rw [str_app, List.all_append]
    have : ((" " : Str).cps.toList.all fun c => smallC c || digitC c) = false := by decide +kernel
    rw [this, Bool.and_false]
  unfold lowName
  rw [h, Bool.and_false]
theorem bent_tm1 {L : DH} {es : List D} {i : Nat} {e' : D} (hpl : Pl 6 (.tup es)) (hi : i < es.length) (h : Tame L 6 e') : Tm L (.tup (bentP es i e')) := by
  refine tm_tup (n := 8) (by decide) (by have := hpl.1; unfold bentP; simp; omega) fun y hy => ?_
  unfold bentP at hy
  rcases List.mem_append.mp hy with hy | hy
  · exact tame_up ((pl_mem hpl (List.mem_of_mem_take hy)).tame L) (by decide)
  · rcases List.mem_cons.mp hy with rfl | hy
    · exact tame_up h (by decide)
    · exact tame_up ((pl_mem hpl (List.mem_of_mem_drop hy)).tame L) (by decide)
def sp_law_bad_head : SpD := fun ds L Q _ => ∃ (a b : Addr) (n : Nat) (es : List D) (i : Int), ds = [.ref a, .tup es, .int i] ∧ BagAt n L a b ∧ n ≤ 700000000 ∧ isProg (.tup es) = true ∧ Pl 6 (.tup es) ∧ 0 ≤ i ∧ i < es.length ∧
  ∀ d L', Ext a L L' → BagAt (n + 40) L' a b → Tm L' d → isProg d = false → Q d L'
theorem len_law_bad_head : ∀ as L Q E, sp_law_bad_head as L Q E → as.length = 3 := by rintro _ L Q E ⟨a, b, n, es, i, rfl, _⟩; rfl
def d__law_bad_head_t4 : DS :=
  (sRet (dOp dAdd (dOp dAdd (dSl dCut (dVar 1) dNoPart (dPart (dVar 2))) (dTup (dCons (dVar 8) dNil))) (dSl dCut (dVar 1) (dPart (dOp dAdd (dVar 2) (dC (.int 1)))) dNoPart)))
def d__law_bad_head_t3 : DS :=
  (sSeq (sIf (dTest (dOp dLt (dVar 3) (dC (.int 5)))) (sAsg (dTup (dCons (dOp dIx (dVar 4) (dCall sp_law_pick (dCons (dVar 0) (dCons (dC (.int 9)) dNil)))) (dCons (dVar 6) (dCons (dVar 7) dNil)))) (gdName 8)) (sIf (dTest (dOp dLt (dVar 3) (dC (.int 7)))) (sAsg (dTup (dCons (dVar 5) (dCons (dOp dIx (dLst (dCons (dC (.int 0)) (dCons (dC (.int 25)) (dCons (dUn dNeg (dC (.int 1))) (dCons (dCB dStrOf (dCons (dVar 6) dNil)) (dCons (dC (.bl true)) dNil)))))) (dCall sp_law_pick (dCons (dVar 0) (dCons (dC (.int 5)) dNil)))) (dCons (dVar 7) dNil)))) (gdName 8)) (sIf (dTest (dOp dEq (dVar 3) (dC (.int 7)))) (sAsg (dTup (dCons (dVar 5) (dCons (dVar 6) (dCons (dCB dListOf (dCons (dVar 7) dNil)) dNil)))) (gdName 8)) (sIf (dTest (dOp dEq (dVar 3) (dC (.int 8)))) (sAsg (dTup (dCons (dVar 5) (dCons (dVar 6) (dCons (dTup dNil) dNil)))) (gdName 8)) (sIf (dTest (dOp dEq (dVar 3) (dC (.int 9)))) (sAsg (dLst (dCons (dVar 5) (dCons (dVar 6) (dCons (dVar 7) dNil)))) (gdName 8)) (sIf (dTest (dOp dEq (dVar 3) (dC (.int 10)))) (sAsg (dTup (dCons (dVar 5) (dCons (dVar 6) (dCons (dVar 7) (dCons (dVar 7) dNil))))) (gdName 8)) (sRet (dOp dAdd (dVar 1) (dTup (dCons (dOp dIx (dVar 1) (dVar 2)) dNil)))))))))) d__law_bad_head_t4)
def d__law_bad_head_t2 : DS :=
  (sSeq (sAsg (dLst (dCons (dC (.str "")) (dCons (dC (.str "Ab")) (dCons (dC (.str "1a")) (dCons (dC (.str "move")) (dCons (dC (.str "a_b")) (dCons (dC (.str "abcdefghijk")) (dCons (dC (.int 3)) (dCons (dC .non) (dCons (dOp dAdd (dVar 5) (dC (.str " "))) dNil)))))))))) (gdName 4)) d__law_bad_head_t3)
def d__law_bad_head_t1 : DS :=
  (sSeq (sAsg (dCall sp_law_pick (dCons (dVar 0) (dCons (dC (.int 12)) dNil))) (gdName 3)) d__law_bad_head_t2)
def d__law_bad_head : DS :=
  (sSeq (sAsg (dOp dIx (dVar 1) (dVar 2)) (gdTup 3 (gdCons (gdName 5) (gdCons (gdName 6) (gdCons (gdName 7) gdNil))))) d__law_bad_head_t1)

theorem pure_law_bad_head : ∀ as L Q E, sp_law_bad_head as L Q E → d__law_bad_head (fnEnds Q E) (dstart 9 as) L := by
  rintro as L Q E ⟨a, b, n, es, i, rfl, hb, hn, hi, hpl, i0, i1, q⟩
  obtain ⟨es', e', hp⟩ := prg_of hi
  cases e'
  have hes := hp.len
  have hii : i.toNat < es.length := by omega
  obtain ⟨z, x, ps, he⟩ : ∃ z x ps, es[i.toNat]? = some (.tup [.str z, .int x, .tup ps]) := by
    obtain ⟨z, x, ps, e⟩ := isHead_ex (hp.hd _ (List.getElem_mem hii))
    exact ⟨z, x, ps, by rw [List.getElem?_eq_getElem hii, e]⟩
  have hat : atI es i = some (.tup [.str z, .int x, .tup ps]) := by
    have := atI_nat he
    rwa [show ((i.toNat : Nat) : Int) = i by omega] at this
  obtain ⟨_, b2, b3, b4, b5, b6⟩ := isHead_of (hp.hd _ (List.mem_of_getElem? he))
  have b2 : lowName z = true := b2
  have b3 : 1 ≤ x := b3
  have b4 : x ≤ 24 := b4
  have b5 : 1 ≤ ps.length := b5
  have b6 : ps.length ≤ 4000 := b6
  have hz := lowName_len b2
  have hpe := pl_mem hpl (List.mem_of_getElem? he)
  have hps : Pl 4 (.tup ps) := pl_mem hpe (by simp)
  have hzP : Pl 4 (.str z) := pl_mem hpe (by simp)
  have end4 : ∀ {e' : D} {L' : DH} {j : Nat} {o0 o3 o4 o5 o6 o7 : Option D}, Ext a L L' → BagAt j L' a b → j ≤ n + 40 → Tame L' 6 e' → isHead e' = false → d__law_bad_head_t4 (fnEnds Q E) [o0, some (.tup es), some (.int i), o3, o4, o5, o6, o7, some e'] L' := by
    intro e' L' j o0 o3 o4 o5 o6 o7 h1 h2 h3 h4 h5
    simp only [d__law_bad_head_t4, dVar, dC, dOp, dUn, dNil, dCons, dTup, dLst, dCB, dTest, dAnd, dOr, dNot, dAndV, dOrV, dNotV, dIfE, dChain, sNext, sSeq, sBreak, sCont, sDrop, sRet, sRetN, sIf, gdName, gdNil, gdCons, gdTup, gdSub, sAsg, dCall, xOf, sFor, dSeq, dRng1, dRng2, dI, dI0, dB0, dAdd, dIsN, dNotN, isNon, dIx, dSetL, dNeg, one, two, dLen1, dListOf1, dTupOf1, dAbs1, dIntOf1, dII, marg, dAppend1, dExtend1, dIsi, isA, dSl, dPart, dNoPart, dCut, dLc, dYes, sRaise, sTry, exBy, sPar2, sPar3, dIsBl, dNotBl, dBM, dBM0, dEq, dNe, dIn, dSgn, dLc2, dEnum, dListRg1, dListRg2, dTupRg1, dTupRg2, dStrOf1, dRep, dLenSet, dstart, fnE_nx, fnE_rt, fnE_ex, Nat.zero_le, Nat.reduceLeDiff, decide_true, decide_false, true_or, or_true, false_or, or_false, decide_eq_true_eq, exists_eq_left', exists_eq_left, exists_eq_right, exists_eq_right', Option.some.injEq, List.cons.injEq, D.int.injEq, D.bl.injEq, D.str.injEq, D.tup.injEq, D.lro.injEq, D.ref.injEq, DO.lst.injEq, and_true, true_and, and_false, false_and, exists_false, exists_const, List.getElem?_cons_zero, List.getElem?_cons_succ, List.map_cons, List.map_nil, List.length_cons, List.length_nil, List.replicate_zero, List.replicate_succ, List.append_nil, List.cons_append, List.nil_append, List.set_cons_zero, List.set_cons_succ, Nat.reduceAdd, Nat.reduceSub, Nat.zero_add, reduceIte, Bool.false_eq_true, reduceCtorEq, if_true, if_false, Bool.not_true, Bool.not_false, exists_and_left, cut_to i0, cut_from (show (0 : Int) ≤ i + 1 by omega)]
    rw [show (i + 1).toNat = i.toNat + 1 by omega]
    refine ⟨by simp; omega, by simp; omega, ?_⟩
    rw [show es.take i.toNat ++ [e'] ++ es.drop (i.toNat + 1) = bentP es i.toNat e' by unfold bentP; simp]
    exact ⟨_, Le.refl, q _ _ h1 (h2.mono h3) (bent_tm1 hpl hii h4) (bent_head h5)⟩
  have entT : ∀ {u v w : D} {L' : DH}, Tame L' 5 u → Tame L' 5 v → Tame L' 5 w → Tame L' 6 (.tup [u, v, w]) := by
    intro u v w L' h1 h2 h3
    refine ⟨by simp, fun y hy => ?_⟩
    simp only [List.mem_cons, List.not_mem_nil, or_false] at hy
    rcases hy with rfl | rfl | rfl
    · exact h1
    · exact h2
    · exact h3
  have tz : ∀ {L'}, Tame L' 5 (.str z) := fun {L'} => tame_up (hzP.tame L') (by decide)
  have tps : ∀ {L'}, Tame L' 5 (.tup ps) := fun {L'} => tame_up (hps.tame L') (by decide)
  have tx : ∀ {L'} {m} {y : Int}, Tame L' m (.int y) := fun {L'} {m} {y} => (pl_int (n := m) (i := y)).tame L'
  simp only [d__law_bad_head, dVar, dC, dOp, dUn, dNil, dCons, dTup, dLst, dCB, dTest, dAnd, dOr, dNot, dAndV, dOrV, dNotV, dIfE, dChain, sNext, sSeq, sBreak, sCont, sDrop, sRet, sRetN, sIf, gdName, gdNil, gdCons, gdTup, gdSub, sAsg, dCall, xOf, sFor, dSeq, dRng1, dRng2, dI, dI0, dB0, dAdd, dIsN, dNotN, isNon, dIx, dSetL, dNeg, one, two, dLen1, dListOf1, dTupOf1, dAbs1, dIntOf1, dII, marg, dAppend1, dExtend1, dIsi, isA, dSl, dPart, dNoPart, dCut, dLc, dYes, sRaise, sTry, exBy, sPar2, sPar3, dIsBl, dNotBl, dBM, dBM0, dEq, dNe, dIn, dSgn, dLc2, dEnum, dListRg1, dListRg2, dTupRg1, dTupRg2, dStrOf1, dRep, dLenSet, dstart, fnE_nx, fnE_rt, fnE_ex, Nat.zero_le, Nat.reduceLeDiff, decide_true, decide_false, true_or, or_true, false_or, or_false, decide_eq_true_eq, exists_eq_left', exists_eq_left, exists_eq_right, exists_eq_right', Option.some.injEq, List.cons.injEq, D.int.injEq, D.bl.injEq, D.str.injEq, D.tup.injEq, D.lro.injEq, D.ref.injEq, DO.lst.injEq, and_true, true_and, and_false, false_and, exists_false, exists_const, List.getElem?_cons_zero, List.getElem?_cons_succ, List.map_cons, List.map_nil, List.length_cons, List.length_nil, List.replicate_zero, List.replicate_succ, List.append_nil, List.cons_append, List.nil_append, List.set_cons_zero, List.set_cons_succ, Nat.reduceAdd, Nat.reduceSub, Nat.zero_add, reduceIte, Bool.false_eq_true, reduceCtorEq, if_true, if_false, Bool.not_true, Bool.not_false, exists_and_left, hat]
  simp only [d__law_bad_head_t1, dVar, dC, dOp, dUn, dNil, dCons, dTup, dLst, dCB, dTest, dAnd, dOr, dNot, dAndV, dOrV, dNotV, dIfE, dChain, sNext, sSeq, sBreak, sCont, sDrop, sRet, sRetN, sIf, gdName, gdNil, gdCons, gdTup, gdSub, sAsg, dCall, xOf, sFor, dSeq, dRng1, dRng2, dI, dI0, dB0, dAdd, dIsN, dNotN, isNon, dIx, dSetL, dNeg, one, two, dLen1, dListOf1, dTupOf1, dAbs1, dIntOf1, dII, marg, dAppend1, dExtend1, dIsi, isA, dSl, dPart, dNoPart, dCut, dLc, dYes, sRaise, sTry, exBy, sPar2, sPar3, dIsBl, dNotBl, dBM, dBM0, dEq, dNe, dIn, dSgn, dLc2, dEnum, dListRg1, dListRg2, dTupRg1, dTupRg2, dStrOf1, dRep, dLenSet, dstart, fnE_nx, fnE_rt, fnE_ex, Nat.zero_le, Nat.reduceLeDiff, decide_true, decide_false, true_or, or_true, false_or, or_false, decide_eq_true_eq, exists_eq_left', exists_eq_left, exists_eq_right, exists_eq_right', Option.some.injEq, List.cons.injEq, D.int.injEq, D.bl.injEq, D.str.injEq, D.tup.injEq, D.lro.injEq, D.ref.injEq, DO.lst.injEq, and_true, true_and, and_false, false_and, exists_false, exists_const, List.getElem?_cons_zero, List.getElem?_cons_succ, List.map_cons, List.map_nil, List.length_cons, List.length_nil, List.replicate_zero, List.replicate_succ, List.append_nil, List.cons_append, List.nil_append, List.set_cons_zero, List.set_cons_succ, Nat.reduceAdd, Nat.reduceSub, Nat.zero_add, reduceIte, Bool.false_eq_true, reduceCtorEq, if_true, if_false, Bool.not_true, Bool.not_false, exists_and_left]
  refine ⟨a, b, 12, _, rfl, hb, by omega, by decide, by decide, fun r o r0 r1 hb1 => ?_⟩
  have hx1 := (Ext.refl (a := a) (L := L)).bag (o := o)
  generalize upd L a o = L1 at hb1 hx1
  simp only [d__law_bad_head_t2, dVar, dC, dOp, dUn, dNil, dCons, dTup, dLst, dCB, dTest, dAnd, dOr, dNot, dAndV, dOrV, dNotV, dIfE, dChain, sNext, sSeq, sBreak, sCont, sDrop, sRet, sRetN, sIf, gdName, gdNil, gdCons, gdTup, gdSub, sAsg, dCall, xOf, sFor, dSeq, dRng1, dRng2, dI, dI0, dB0, dAdd, dIsN, dNotN, isNon, dIx, dSetL, dNeg, one, two, dLen1, dListOf1, dTupOf1, dAbs1, dIntOf1, dII, marg, dAppend1, dExtend1, dIsi, isA, dSl, dPart, dNoPart, dCut, dLc, dYes, sRaise, sTry, exBy, sPar2, sPar3, dIsBl, dNotBl, dBM, dBM0, dEq, dNe, dIn, dSgn, dLc2, dEnum, dListRg1, dListRg2, dTupRg1, dTupRg2, dStrOf1, dRep, dLenSet, dstart, fnE_nx, fnE_rt, fnE_ex, Nat.zero_le, Nat.reduceLeDiff, decide_true, decide_false, true_or, or_true, false_or, or_false, decide_eq_true_eq, exists_eq_left', exists_eq_left, exists_eq_right, exists_eq_right', Option.some.injEq, List.cons.injEq, D.int.injEq, D.bl.injEq, D.str.injEq, D.tup.injEq, D.lro.injEq, D.ref.injEq, DO.lst.injEq, and_true, true_and, and_false, false_and, exists_false, exists_const, List.getElem?_cons_zero, List.getElem?_cons_succ, List.map_cons, List.map_nil, List.length_cons, List.length_nil, List.replicate_zero, List.replicate_succ, List.append_nil, List.cons_append, List.nil_append, List.set_cons_zero, List.set_cons_succ, Nat.reduceAdd, Nat.reduceSub, Nat.zero_add, reduceIte, Bool.false_eq_true, reduceCtorEq, if_true, if_false, Bool.not_true, Bool.not_false, exists_and_left]
  refine ⟨by simp [show (" " : Str).length = 1 from rfl]; omega, fun p1 hp1 => ?_⟩
  obtain ⟨p1a, p1b, hb2⟩ := hb1.new (o := .lst [.str "", .str "Ab", .str "1a", .str "move", .str "a_b", .str "abcdefghijk", .int 3, .non, .str (z ++ " ")]) hp1
  have hx2 := hx1.new (o := .lst [.str "", .str "Ab", .str "1a", .str "move", .str "a_b", .str "abcdefghijk", .int 3, .non, .str (z ++ " ")]) hp1
  simp only [d__law_bad_head_t3, dVar, dC, dOp, dUn, dNil, dCons, dTup, dLst, dCB, dTest, dAnd, dOr, dNot, dAndV, dOrV, dNotV, dIfE, dChain, sNext, sSeq, sBreak, sCont, sDrop, sRet, sRetN, sIf, gdName, gdNil, gdCons, gdTup, gdSub, sAsg, dCall, xOf, sFor, dSeq, dRng1, dRng2, dI, dI0, dB0, dAdd, dIsN, dNotN, isNon, dIx, dSetL, dNeg, one, two, dLen1, dListOf1, dTupOf1, dAbs1, dIntOf1, dII, marg, dAppend1, dExtend1, dIsi, isA, dSl, dPart, dNoPart, dCut, dLc, dYes, sRaise, sTry, exBy, sPar2, sPar3, dIsBl, dNotBl, dBM, dBM0, dEq, dNe, dIn, dSgn, dLc2, dEnum, dListRg1, dListRg2, dTupRg1, dTupRg2, dStrOf1, dRep, dLenSet, dstart, fnE_nx, fnE_rt, fnE_ex, Nat.zero_le, Nat.reduceLeDiff, decide_true, decide_false, true_or, or_true, false_or, or_false, decide_eq_true_eq, exists_eq_left', exists_eq_left, exists_eq_right, exists_eq_right', Option.some.injEq, List.cons.injEq, D.int.injEq, D.bl.injEq, D.str.injEq, D.tup.injEq, D.lro.injEq, D.ref.injEq, DO.lst.injEq, and_true, true_and, and_false, false_and, exists_false, exists_const, List.getElem?_cons_zero, List.getElem?_cons_succ, List.map_cons, List.map_nil, List.length_cons, List.length_nil, List.replicate_zero, List.replicate_succ, List.append_nil, List.cons_append, List.nil_append, List.set_cons_zero, List.set_cons_succ, Nat.reduceAdd, Nat.reduceSub, Nat.zero_add, reduceIte, Bool.false_eq_true, reduceCtorEq, if_true, if_false, Bool.not_true, Bool.not_false, exists_and_left]
  split
  · refine ⟨a, b, 9, _, rfl, hb2, by omega, by decide, by decide, fun k o k0 k1 hb3 => ?_⟩
    have hx3 := hx2.bag (o := o)
    obtain ⟨u, hu, _, hum⟩ := atI_in (xs := [D.str "", .str "Ab", .str "1a", .str "move", .str "a_b", .str "abcdefghijk", .int 3, .non, .str (z ++ " ")]) k0 (by simpa using k1)
    refine ⟨_, by rw [updD_ne p1a, updD_same], u, hu, ?_⟩
    have hu2 : isLow u = false ∧ ∀ L', Tame L' 5 u := by
      simp only [List.mem_cons, List.not_mem_nil, or_false] at hum
      rcases hum with rfl | rfl | rfl | rfl | rfl | rfl | rfl | rfl | rfl
      · exact ⟨by decide +kernel, fun L' => (pl_str (n := 5) (by decide +kernel)).tame L'⟩
      · exact ⟨by decide +kernel, fun L' => (pl_str (n := 5) (by decide +kernel)).tame L'⟩
      · exact ⟨by decide +kernel, fun L' => (pl_str (n := 5) (by decide +kernel)).tame L'⟩
      · exact ⟨by decide +kernel, fun L' => (pl_str (n := 5) (by decide +kernel)).tame L'⟩
      · exact ⟨by decide +kernel, fun L' => (pl_str (n := 5) (by decide +kernel)).tame L'⟩
      · exact ⟨by decide +kernel, fun L' => (pl_str (n := 5) (by decide +kernel)).tame L'⟩
      · exact ⟨rfl, fun L' => trivial⟩
      · exact ⟨rfl, fun L' => trivial⟩
      · refine ⟨low_sp, fun L' => (pl_str (n := 5) ?_).tame L'⟩
        rw [str_len, str_app, List.length_append, ← str_len, ← str_len, show (" " : Str).length = 1 from rfl]
        omega
    exact end4 hx3 hb3 (by omega) (entT (hu2.2 _) tx tps) (head_nm hu2.1)
  split
  · refine ⟨log_small (by omega), fun p2 hp2 => ?_⟩
    obtain ⟨p2a, p2b, hb3⟩ := hb2.new (o := .lst [.int 0, .int 25, .int (-1), .str (Str.ofString (toString x)), .bl true]) hp2
    have hx3 := hx2.new (o := .lst [.int 0, .int 25, .int (-1), .str (Str.ofString (toString x)), .bl true]) hp2
    refine ⟨a, b, 5, _, rfl, hb3, by omega, by decide, by decide, fun k o k0 k1 hb4 => ?_⟩
    have hx4 := hx3.bag (o := o)
    obtain ⟨u, hu, _, hum⟩ := atI_in (xs := [D.int 0, .int 25, .int (-1), .str (Str.ofString (toString x)), .bl true]) k0 (by simpa using k1)
    refine ⟨_, by rw [updD_ne p2a, updD_same], u, hu, ?_⟩
    have hu2 : wthn u 1 24 = false ∧ ∀ L', Tame L' 5 u := by
      simp only [List.mem_cons, List.not_mem_nil, or_false] at hum
      rcases hum with rfl | rfl | rfl | rfl | rfl
      · exact ⟨wthn_no (by omega), fun L' => tx⟩
      · exact ⟨wthn_no (by omega), fun L' => tx⟩
      · exact ⟨wthn_no (by omega), fun L' => tx⟩
      · have h9 : (sfxL x).length ≤ 4 := by
          have := sfx_len4 x.toNat (by omega)
          rwa [show ((x.toNat : Nat) : Int) = x by omega] at this
        refine ⟨rfl, fun L' => (pl_str (n := 5) ?_).tame L'⟩
        have : (Str.ofString (toString x)).length = (sfxL x).length := by rw [str_len]; exact congrArg List.length (sfx_eq x)
        omega
      · exact ⟨rfl, fun L' => trivial⟩
    exact end4 hx4 hb4 (by omega) (entT tz (hu2.2 _) tps) (head_ex hu2.1)
  simp only [eqD_int]
  refine ⟨_, rfl, ?_⟩
  split
  · intro p2 hp2
    obtain ⟨p2a, p2b, hb3⟩ := hb2.new (o := .lst ps) hp2
    have hx3 := hx2.new (o := .lst ps) hp2
    exact end4 hx3 hb3 (by omega) (entT tz tx (tame_up (tame_list updD_same hps (by decide)) (by decide))) (head_pl rfl)
  refine ⟨_, rfl, ?_⟩
  split
  · exact end4 hx2 hb2 (by omega) (entT tz tx (tame_up ((pl_tup (n := 0) (ds := []) (by simp) (by simp)).tame _) (by decide))) (head_pl rfl)
  refine ⟨_, rfl, ?_⟩
  split
  · intro p2 hp2
    obtain ⟨p2a, p2b, hb3⟩ := hb2.new (o := .lst [.str z, .int x, .tup ps]) hp2
    have hx3 := hx2.new (o := .lst [.str z, .int x, .tup ps]) hp2
    exact end4 hx3 hb3 (by omega) (tame_up (tame_list updD_same hpe (by decide)) (by decide)) rfl
  refine ⟨_, rfl, ?_⟩
  split
  · refine end4 hx2 hb2 (by omega) ⟨by simp, fun y hy => ?_⟩ rfl
    simp only [List.mem_cons, List.not_mem_nil, or_false] at hy
    rcases hy with rfl | rfl | rfl | rfl
    · exact tz
    · exact tx
    · exact tps
    · exact tps
  · refine ⟨_, hat, by (try simp); omega, ?_⟩
    refine ⟨_, Le.refl, q _ _ hx2 (hb2.mono (by omega)) ?_ (bent_twice he)⟩
    refine tm_tup (n := 5) (by decide) (by simp; omega) fun y hy => ?_
    rcases List.mem_append.mp hy with hy | hy
    · exact (pl_mem hpl hy).tame _
    · rw [List.mem_singleton] at hy
      subst hy
      exact hpe.tame _
/-! ### many -/
theorem prog_of_heads {es : List D} (h1 : ∀ e, e ∈ es → isHead e = true) (h2 : 1 ≤ es.length) (h3 : es.length ≤ 60) (hn : (es.map nmD).Nodup) (hs : (es.flatMap plD).length ≤ 4000) (ha : allPl (exitsI es) 0 es = true) : isProg (.tup es) = true := by
  show (areHeads (.tup es) && allPl (exitsI es) 0 es) = true
  rw [ha, Bool.and_true]
  show (decide (1 ≤ (es.length : Int) ∧ (es.length : Int) ≤ 60) && es.all isHead && decide (es.map nmD).Nodup && decide (((es.map fun e => ((plD e).length : Int))).sum ≤ 4000)) = true
  rw [sum_len, decide_eq_true (by omega), decide_eq_true hn, decide_eq_true (by omega), List.all_eq_true.mpr h1]; rfl
theorem prog_sum {es : List D} (h : 4000 < (es.flatMap plD).length) : isProg (.tup es) = false := by
  cases hp : isProg (.tup es) with
  | false => rfl
  | true =>
    obtain ⟨xs, e1, P⟩ := prg_of hp
    cases e1
    have := P.sum
    omega
def ent1 (i : Int) : D := .tup [.str (("p" : Str) ++ Str.ofString (toString i)), .int 1, .tup [.tup [.int (i % 10), .tup [.str "exit", .int 0]]]]
theorem many1 : ∀ c : Nat, c < 4 → isProg (.tup ((rngD 0 (59 + c)).map fun d => ent1 (intV d))) = decide ((59 + (c : Int)) ≤ 60) := by decide +kernel
def plE : D := .tup [.int 1, .tup [.str "exit", .int 0]]
theorem exits_rep {z : Str} {x : Int} {d : D} {k : Nat} {es : List D} : exitsI (.tup [.str z, .int x, .tup (List.replicate k d)] :: es) = List.replicate k x ++ exitsI es := by
  show (List.replicate k d).map (fun _ => x) ++ exitsI es = _
  rw [List.map_replicate]
theorem plE_ok {i j : Int} {ex : List Int} (h : ex.getD i.toNat 0 = 1) : isPlc plE i j ex = true := by
  show (wthn (.int 1) 0 9 && (isMove (.tup [.str "exit", .int 0]) i j || isCall (.tup [.str "exit", .int 0]) i j ex || isExit (.tup [.str "exit", .int 0]) (ex.getD i.toNat 0))) = true
  rw [h, show isExit (.tup [.str "exit", .int 0]) 1 = true by decide +kernel, show wthn (.int 1) 0 9 = true from rfl]; simp
theorem head_rep {z : Str} {x : Int} {d : D} {k : Nat} (hz : lowName z = true) (x1 : 1 ≤ x) (x2 : x ≤ 24) (k1 : 1 ≤ k) (k2 : k ≤ 4000) : isHead (.tup [.str z, .int x, .tup (List.replicate k d)]) = true := by
  show (lowName z && wthn (.int x) 1 24 && isRow (.tup (List.replicate k d)) 1 4000) = true
  have : isRow (.tup (List.replicate k d)) 1 4000 = true := decide_eq_true (by rw [List.length_replicate]; omega)
  rw [hz, this, wthn_of x1 x2]; rfl
theorem many2 {t : Nat} (h : 1 ≤ t) : isProg (.tup [.tup [.str "a", .int 1, .tup (List.replicate t plE)]]) = decide ((t : Int) ≤ 4000) := by
  by_cases ht : t ≤ 4000
  · rw [decide_eq_true (by omega)]
    refine prog_of_heads (fun e he => ?_) (by simp) (by simp) (by simp) (by simpa [plD] using ht) ?_
    · rw [List.mem_singleton] at he
      subst he
      exact head_rep (by decide +kernel) (by decide) (by decide) h ht
    · rw [exits_rep]
      show ((List.replicate t plE).all (fun x => isPlc x 0 _ _) && true) = true
      rw [Bool.and_true, List.all_eq_true]
      intro x hx
      rw [(List.mem_replicate.mp hx).2]
      refine plE_ok ?_
      rw [List.getD_eq_getElem?_getD, List.getElem?_append_left (by simp; omega), List.getElem?_replicate, if_pos (show (0 : Int).toNat < t by simp; omega)]; rfl
  · rw [decide_eq_false (by omega)]
    exact prog_sum (by simp [plD]; omega)
def plC (h : Int) : D := .tup [.int 1, .tup [.str "call", .int h, .tup (List.replicate 24 (.int h))]]
theorem many3 {h t : Nat} (h1 : 1 ≤ h) (h2 : h < t) : isProg (.tup [.tup [.str "a", .int 1, .tup (List.replicate h plE)], .tup [.str "b", .int 24, .tup (List.replicate (t - h) (plC h))]]) = decide ((t : Int) ≤ 4000) := by
  by_cases ht : t ≤ 4000
  · rw [decide_eq_true (by omega)]
    refine prog_of_heads (fun e he => ?_) (by simp) (by simp) (show ([("a" : Str), "b"]).Nodup by decide +kernel) (by simp [plD]; omega) ?_
    · simp only [List.mem_cons, List.not_mem_nil, or_false] at he
      rcases he with rfl | rfl
      · exact head_rep (by decide +kernel) (by decide) (by decide) h1 (by omega)
      · exact head_rep (by decide +kernel) (by decide) (by decide) (by omega) (by omega)
    · rw [exits_rep, exits_rep]
      have e0 : exitsI [] = [] := rfl
      rw [e0, List.append_nil]
      show ((List.replicate h plE).all (fun x => isPlc x 0 _ _) && ((List.replicate (t - h) (plC h)).all (fun x => isPlc x (0 + (List.replicate h plE).length) (0 + (List.replicate h plE).length + (List.replicate (t - h) (plC h)).length) _) && true)) = true
      rw [Bool.and_true, Bool.and_eq_true, List.all_eq_true, List.all_eq_true]
      refine ⟨fun x hx => ?_, fun x hx => ?_⟩
      · rw [(List.mem_replicate.mp hx).2]
        refine plE_ok ?_
        rw [List.getD_eq_getElem?_getD, List.getElem?_append_left (by simp; omega), List.getElem?_replicate, if_pos (show (0 : Int).toNat < h by simp; omega)]; rfl
      · rw [(List.mem_replicate.mp hx).2, List.length_replicate, List.length_replicate]
        have eg : (List.replicate h (1 : Int) ++ List.replicate (t - h) (24 : Int)).getD h 0 = 24 := by
          rw [List.getD_eq_getElem?_getD, List.getElem?_append_right (by simp), List.length_replicate, Nat.sub_self, List.getElem?_replicate, if_pos (by omega)]; rfl
        show (wthn (.int 1) 0 9 && (_ || (isStr (.str "call") "call" && wthn (.int h) 0 (((List.replicate h (1 : Int) ++ List.replicate (t - h) (24 : Int)).length : Int) - 1) && isRow (.tup (List.replicate 24 (D.int h))) ((List.replicate h (1 : Int) ++ List.replicate (t - h) (24 : Int)).getD (h : Int).toNat 0) ((List.replicate h (1 : Int) ++ List.replicate (t - h) (24 : Int)).getD (h : Int).toNat 0) && ((List.replicate 24 (D.int h)).all fun x => wthn x (0 + (h : Int)) (0 + (h : Int) + ((t - h : Nat) : Int) - 1))) || _)) = true
        have e3 : isRow (.tup (List.replicate 24 (D.int h))) 24 24 = true := by
          exact (isRow_len (n := 24)).trans (decide_eq_true (by rw [List.length_replicate]))
        have e4 : ((List.replicate 24 (D.int h)).all fun x => wthn x (0 + (h : Int)) (0 + (h : Int) + ((t - h : Nat) : Int) - 1)) = true := by
          rw [List.all_eq_true]
          intro y hy
          rw [(List.mem_replicate.mp hy).2]
          exact wthn_of (by omega) (by omega)
        have e2 : wthn (.int h) 0 (((List.replicate h (1 : Int) ++ List.replicate (t - h) (24 : Int)).length : Int) - 1) = true := wthn_of (by omega) (by simp; omega)
        rw [Int.toNat_natCast, eg, e3, e4, e2, show isStr (.str "call") "call" = true by decide +kernel, show wthn (.int 1) 0 9 = true from rfl]; simp
  · rw [decide_eq_false (by omega)]
    exact prog_sum (by simp [plD]; omega)
def prog4 (k : Nat) : D := .tup [.tup [.str "abcdefghij", .int 24, .tup ([.tup [.int 0, .tup [.str "move", .int 1, .tup (rngD 0 k)]]] ++ List.replicate 9 (.tup [.int 9, .tup [.str "exit", .int 23]]))]]
theorem many4 : ∀ c : Nat, c < 3 → isProg (prog4 (7 + c)) = decide (((7 + c : Nat) : Int) ≤ 8) := by decide +kernel
def sp_law_many : SpD := fun ds L Q _ => ∃ (a b : Addr) (n : Nat), ds = [.ref a] ∧ BagAt n L a b ∧ n ≤ 800000000 ∧
  ∀ p xs L', Ext a L L' → BagAt (n + 10) L' a b → p ≠ a → L' p = some (.lst xs) → (∀ x, x ∈ xs → ∃ d c, x = .tup [d, .bl c] ∧ Pl 8 d ∧ isProg d = c) → Q (.ref p) L'
theorem len_law_many : ∀ as L Q E, sp_law_many as L Q E → as.length = 1 := by rintro _ L Q E ⟨a, b, n, rfl, _⟩; rfl
def d__law_many_t10 : DS :=
  (sRet (dVar 1))
def d__law_many_t9 : DS :=
  (sSeq (sDrop (dBM chkL (marg dAppend1) (dVar 1) (dCons (dTup (dCons (dTup (dCons (dTup (dCons (dC (.str "abcdefghij")) (dCons (dC (.int 24)) (dCons (dOp dAdd (dTup (dCons (dTup (dCons (dC (.int 0)) (dCons (dTup (dCons (dC (.str "move")) (dCons (dC (.int 1)) (dCons (dVar 6) dNil)))) dNil))) dNil)) (dOp dRep (dTup (dCons (dTup (dCons (dC (.int 9)) (dCons (dTup (dCons (dC (.str "exit")) (dCons (dC (.int 23)) dNil))) dNil))) dNil)) (dC (.int 9)))) dNil)))) dNil)) (dCons (dOp dLe (dCB dLen (dCons (dVar 6) dNil)) (dC (.int 8))) dNil))) dNil))) d__law_many_t10)
def d__law_many_t8 : DS :=
  (sSeq (sAsg (dTupRg1 (dOp dAdd (dC (.int 7)) (dCall sp_law_pick (dCons (dVar 0) (dCons (dC (.int 3)) dNil))))) (gdName 6)) d__law_many_t9)
def d__law_many_t7 : DS :=
  (sSeq (sDrop (dBM chkL (marg dAppend1) (dVar 1) (dCons (dTup (dCons (dVar 5) (dCons (dOp dLe (dVar 3) (dC (.int 4000))) dNil))) dNil))) d__law_many_t8)
def d__law_many_t6 : DS :=
  (sSeq (sAsg (dTup (dCons (dTup (dCons (dC (.str "a")) (dCons (dC (.int 1)) (dCons (dCB dTupOf (dCons (dOp dRep (dLst (dCons (dTup (dCons (dC (.int 1)) (dCons (dTup (dCons (dC (.str "exit")) (dCons (dC (.int 0)) dNil))) dNil))) dNil)) (dVar 4)) dNil)) dNil)))) (dCons (dTup (dCons (dC (.str "b")) (dCons (dC (.int 24)) (dCons (dCB dTupOf (dCons (dOp dRep (dLst (dCons (dTup (dCons (dC (.int 1)) (dCons (dTup (dCons (dC (.str "call")) (dCons (dVar 4) (dCons (dOp dRep (dTup (dCons (dVar 4) dNil)) (dC (.int 24))) dNil)))) dNil))) dNil)) (dOp dSub (dVar 3) (dVar 4))) dNil)) dNil)))) dNil))) (gdName 5)) d__law_many_t7)
def d__law_many_t5 : DS :=
  (sSeq (sAsg (dOp dAdd (dC (.int 1)) (dCall sp_law_pick (dCons (dVar 0) (dCons (dC (.int 3998)) dNil)))) (gdName 4)) d__law_many_t6)
def d__law_many_t4 : DS :=
  (sSeq (sDrop (dBM chkL (marg dAppend1) (dVar 1) (dCons (dTup (dCons (dTup (dCons (dTup (dCons (dC (.str "a")) (dCons (dC (.int 1)) (dCons (dCB dTupOf (dCons (dOp dRep (dLst (dCons (dTup (dCons (dC (.int 1)) (dCons (dTup (dCons (dC (.str "exit")) (dCons (dC (.int 0)) dNil))) dNil))) dNil)) (dVar 3)) dNil)) dNil)))) dNil)) (dCons (dOp dLe (dVar 3) (dC (.int 4000))) dNil))) dNil))) d__law_many_t5)
def d__law_many_t3 : DS :=
  (sSeq (sAsg (dOp dAdd (dC (.int 3999)) (dCall sp_law_pick (dCons (dVar 0) (dCons (dC (.int 3)) dNil)))) (gdName 3)) d__law_many_t4)
def d__law_many_t2 : DS :=
  (sSeq (sDrop (dBM chkL (marg dAppend1) (dVar 1) (dCons (dTup (dCons (dCB dTupOf (dCons (dLc (dRng1 (dCons (dVar 2) dNil)) (gdName 7) dYes (dTup (dCons (dOp dAdd (dC (.str "p")) (dCB dStrOf (dCons (dVar 7) dNil))) (dCons (dC (.int 1)) (dCons (dTup (dCons (dTup (dCons (dOp dMod (dVar 7) (dC (.int 10))) (dCons (dTup (dCons (dC (.str "exit")) (dCons (dC (.int 0)) dNil))) dNil))) dNil)) dNil)))) [7]) dNil)) (dCons (dOp dLe (dVar 2) (dC (.int 60))) dNil))) dNil))) d__law_many_t3)
def d__law_many_t1 : DS :=
  (sSeq (sAsg (dOp dAdd (dC (.int 59)) (dCall sp_law_pick (dCons (dVar 0) (dCons (dC (.int 4)) dNil)))) (gdName 2)) d__law_many_t2)
def d__law_many : DS :=
  (sSeq (sAsg (dLst dNil) (gdName 1)) d__law_many_t1)

def ManyOk (x : D) : Prop := ∃ d c, x = .tup [d, .bl c] ∧ Pl 8 d ∧ isProg d = c
theorem pure_law_many : ∀ as L Q E, sp_law_many as L Q E → d__law_many (fnEnds Q E) (dstart 8 as) L := by
  rintro as L Q E ⟨a, b, n, rfl, hb, hn, q⟩
  simp only [d__law_many, dVar, dC, dOp, dUn, dNil, dCons, dTup, dLst, dCB, dTest, dAnd, dOr, dNot, dAndV, dOrV, dNotV, dIfE, dChain, sNext, sSeq, sBreak, sCont, sDrop, sRet, sRetN, sIf, gdName, gdNil, gdCons, gdTup, gdSub, sAsg, dCall, xOf, sFor, dSeq, dRng1, dRng2, dI, dI0, dB0, dAdd, dIsN, dNotN, isNon, dIx, dSetL, dNeg, one, two, dLen1, dListOf1, dTupOf1, dAbs1, dIntOf1, dII, marg, dAppend1, dExtend1, dIsi, isA, dSl, dPart, dNoPart, dCut, dLc, dYes, sRaise, sTry, exBy, sPar2, sPar3, dIsBl, dNotBl, dBM, dBM0, dEq, dNe, dIn, dSgn, dLc2, dEnum, dListRg1, dListRg2, dTupRg1, dTupRg2, dStrOf1, dRep, dLenSet, dstart, fnE_nx, fnE_rt, fnE_ex, Nat.zero_le, Nat.reduceLeDiff, decide_true, decide_false, true_or, or_true, false_or, or_false, decide_eq_true_eq, exists_eq_left', exists_eq_left, exists_eq_right, exists_eq_right', Option.some.injEq, List.cons.injEq, D.int.injEq, D.bl.injEq, D.str.injEq, D.tup.injEq, D.lro.injEq, D.ref.injEq, DO.lst.injEq, and_true, true_and, and_false, false_and, exists_false, exists_const, List.getElem?_cons_zero, List.getElem?_cons_succ, List.map_cons, List.map_nil, List.length_cons, List.length_nil, List.replicate_zero, List.replicate_succ, List.append_nil, List.cons_append, List.nil_append, List.set_cons_zero, List.set_cons_succ, Nat.reduceAdd, Nat.reduceSub, Nat.zero_add, reduceIte, Bool.false_eq_true, reduceCtorEq, if_true, if_false, Bool.not_true, Bool.not_false, exists_and_left]
  intro p hp
  obtain ⟨pa, pb, hb1⟩ := hb.new (o := .lst []) hp
  have hx1 := (Ext.refl (a := a) (L := L)).new (o := .lst []) hp
  have hfr : ∀ {L'}, Ext a (upd L p (.lst [])) L' → True := fun _ => trivial
  simp only [d__law_many_t1, dVar, dC, dOp, dUn, dNil, dCons, dTup, dLst, dCB, dTest, dAnd, dOr, dNot, dAndV, dOrV, dNotV, dIfE, dChain, sNext, sSeq, sBreak, sCont, sDrop, sRet, sRetN, sIf, gdName, gdNil, gdCons, gdTup, gdSub, sAsg, dCall, xOf, sFor, dSeq, dRng1, dRng2, dI, dI0, dB0, dAdd, dIsN, dNotN, isNon, dIx, dSetL, dNeg, one, two, dLen1, dListOf1, dTupOf1, dAbs1, dIntOf1, dII, marg, dAppend1, dExtend1, dIsi, isA, dSl, dPart, dNoPart, dCut, dLc, dYes, sRaise, sTry, exBy, sPar2, sPar3, dIsBl, dNotBl, dBM, dBM0, dEq, dNe, dIn, dSgn, dLc2, dEnum, dListRg1, dListRg2, dTupRg1, dTupRg2, dStrOf1, dRep, dLenSet, dstart, fnE_nx, fnE_rt, fnE_ex, Nat.zero_le, Nat.reduceLeDiff, decide_true, decide_false, true_or, or_true, false_or, or_false, decide_eq_true_eq, exists_eq_left', exists_eq_left, exists_eq_right, exists_eq_right', Option.some.injEq, List.cons.injEq, D.int.injEq, D.bl.injEq, D.str.injEq, D.tup.injEq, D.lro.injEq, D.ref.injEq, DO.lst.injEq, and_true, true_and, and_false, false_and, exists_false, exists_const, List.getElem?_cons_zero, List.getElem?_cons_succ, List.map_cons, List.map_nil, List.length_cons, List.length_nil, List.replicate_zero, List.replicate_succ, List.append_nil, List.cons_append, List.nil_append, List.set_cons_zero, List.set_cons_succ, Nat.reduceAdd, Nat.reduceSub, Nat.zero_add, reduceIte, Bool.false_eq_true, reduceCtorEq, if_true, if_false, Bool.not_true, Bool.not_false, exists_and_left]
  refine ⟨a, b, 4, _, rfl, hb1, by omega, by decide, by decide, fun r o r0 r1 hb2 => ?_⟩
  have hx2 := hx1.bag (o := o)
  have g2 : upd (upd L p (.lst [])) a o p = some (.lst []) := by rw [updD_ne pa, updD_same]
  generalize upd (upd L p (.lst [])) a o = L2 at hb2 hx2 g2
  simp only [d__law_many_t2, dVar, dC, dOp, dUn, dNil, dCons, dTup, dLst, dCB, dTest, dAnd, dOr, dNot, dAndV, dOrV, dNotV, dIfE, dChain, sNext, sSeq, sBreak, sCont, sDrop, sRet, sRetN, sIf, gdName, gdNil, gdCons, gdTup, gdSub, sAsg, dCall, xOf, sFor, dSeq, dRng1, dRng2, dI, dI0, dB0, dAdd, dIsN, dNotN, isNon, dIx, dSetL, dNeg, one, two, dLen1, dListOf1, dTupOf1, dAbs1, dIntOf1, dII, marg, dAppend1, dExtend1, dIsi, isA, dSl, dPart, dNoPart, dCut, dLc, dYes, sRaise, sTry, exBy, sPar2, sPar3, dIsBl, dNotBl, dBM, dBM0, dEq, dNe, dIn, dSgn, dLc2, dEnum, dListRg1, dListRg2, dTupRg1, dTupRg2, dStrOf1, dRep, dLenSet, dstart, fnE_nx, fnE_rt, fnE_ex, Nat.zero_le, Nat.reduceLeDiff, decide_true, decide_false, true_or, or_true, false_or, or_false, decide_eq_true_eq, exists_eq_left', exists_eq_left, exists_eq_right, exists_eq_right', Option.some.injEq, List.cons.injEq, D.int.injEq, D.bl.injEq, D.str.injEq, D.tup.injEq, D.lro.injEq, D.ref.injEq, DO.lst.injEq, and_true, true_and, and_false, false_and, exists_false, exists_const, List.getElem?_cons_zero, List.getElem?_cons_succ, List.map_cons, List.map_nil, List.length_cons, List.length_nil, List.replicate_zero, List.replicate_succ, List.append_nil, List.cons_append, List.nil_append, List.set_cons_zero, List.set_cons_succ, Nat.reduceAdd, Nat.reduceSub, Nat.zero_add, reduceIte, Bool.false_eq_true, reduceCtorEq, if_true, if_false, Bool.not_true, Bool.not_false, exists_and_left]
  refine ⟨⟨_, lstOf_ref g2⟩, ⟨by omega, by omega⟩, ?_⟩
  refine lcD_map (fun d => ent1 (intV d)) _ trivial _ (fun d hd Kt hK Kf => ?_) [] (by rw [rngD_length]; simp; omega) fun p1 hp1 => ?_
  · obtain ⟨j, rfl, j0, j1⟩ := mem_rngD hd
    simp only [dVar, dC, dOp, dUn, dNil, dCons, dTup, dLst, dCB, dTest, dAnd, dOr, dNot, dAndV, dOrV, dNotV, dIfE, dChain, sNext, sSeq, sBreak, sCont, sDrop, sRet, sRetN, sIf, gdName, gdNil, gdCons, gdTup, gdSub, sAsg, dCall, xOf, sFor, dSeq, dRng1, dRng2, dI, dI0, dB0, dAdd, dIsN, dNotN, isNon, dIx, dSetL, dNeg, one, two, dLen1, dListOf1, dTupOf1, dAbs1, dIntOf1, dII, marg, dAppend1, dExtend1, dIsi, isA, dSl, dPart, dNoPart, dCut, dLc, dYes, sRaise, sTry, exBy, sPar2, sPar3, dIsBl, dNotBl, dBM, dBM0, dEq, dNe, dIn, dSgn, dLc2, dEnum, dListRg1, dListRg2, dTupRg1, dTupRg2, dStrOf1, dRep, dLenSet, dstart, fnE_nx, fnE_rt, fnE_ex, Nat.zero_le, Nat.reduceLeDiff, decide_true, decide_false, true_or, or_true, false_or, or_false, decide_eq_true_eq, exists_eq_left', exists_eq_left, exists_eq_right, exists_eq_right', Option.some.injEq, List.cons.injEq, D.int.injEq, D.bl.injEq, D.str.injEq, D.tup.injEq, D.lro.injEq, D.ref.injEq, DO.lst.injEq, and_true, true_and, and_false, false_and, exists_false, exists_const, List.getElem?_cons_zero, List.getElem?_cons_succ, List.map_cons, List.map_nil, List.length_cons, List.length_nil, List.replicate_zero, List.replicate_succ, List.append_nil, List.cons_append, List.nil_append, List.set_cons_zero, List.set_cons_succ, Nat.reduceAdd, Nat.reduceSub, Nat.zero_add, reduceIte, Bool.false_eq_true, reduceCtorEq, if_true, if_false, Bool.not_true, Bool.not_false, exists_and_left, dwipe]
    refine ⟨log_small (by omega), ?_, by decide, hK⟩
    have h9 : (sfxL j).length ≤ 4 := by
      have := sfx_len4 j.toNat (by omega)
      rwa [show ((j.toNat : Nat) : Int) = j by omega] at this
    have : (Str.ofString (toString j)).length = (sfxL j).length := by rw [str_len]; exact congrArg List.length (sfx_eq j)
    rw [this, show ("p" : Str).length = 1 from rfl]
    omega
  obtain ⟨p1a, p1b, hb3⟩ := hb2.new (o := .lst ([] ++ (rngD 0 (59 + r).toNat).map fun d => ent1 (intV d))) hp1
  have n1 : p ≠ p1 := fresh_ne g2 hp1
  have hx3 := hx2.new (o := .lst ([] ++ (rngD 0 (59 + r).toNat).map fun d => ent1 (intV d))) hp1
  refine ⟨_, updD_same, _, by rw [updD_ne n1]; exact g2, by simp, ?_⟩
  have hl0 : L p = none := hp
  have ok1 : ManyOk (.tup [.tup ((rngD 0 (59 + r).toNat).map fun d => ent1 (intV d)), .bl (decide (59 + r ≤ 60))]) := by
    refine ⟨_, _, rfl, pl_tup (by rw [List.length_map, rngD_length]; omega) fun e he => ?_, ?_⟩
    · obtain ⟨d, hd, rfl⟩ := List.mem_map.mp he
      obtain ⟨j, rfl, j0, j1⟩ := mem_rngD hd
      refine pl_3 (pl_str ?_) pl_int (pl_tup (by simp) fun y hy => ?_)
      · have h9 : (sfxL j).length ≤ 4 := by
          have := sfx_len4 j.toNat (by omega)
          rwa [show ((j.toNat : Nat) : Int) = j by omega] at this
        have : (Str.ofString (toString j)).length = (sfxL j).length := by rw [str_len]; exact congrArg List.length (sfx_eq j)
        show (("p" : Str) ++ Str.ofString (toString j)).length ≤ _
        rw [str_len, str_app, List.length_append, ← str_len, ← str_len, this, show ("p" : Str).length = 1 from rfl]
        omega
      · rw [List.mem_singleton] at hy
        subst hy
        exact pl_2 pl_int (pl_2 (pl_str (by decide +kernel)) pl_int)
    · have := many1 r.toNat (by omega)
      rw [show ((r.toNat : Nat) : Int) = r by omega] at this
      rw [show (59 + r).toNat = 59 + r.toNat by omega]
      exact this
  have g3 : upd (upd L2 p1 (.lst ([] ++ (rngD 0 (59 + r).toNat).map fun d => ent1 (intV d)))) p (.lst ([] ++ [.tup [.tup ((rngD 0 (59 + r).toNat).map fun d => ent1 (intV d)), .bl (decide (59 + r ≤ 60))]])) p = some (.lst [.tup [.tup ((rngD 0 (59 + r).toNat).map fun d => ent1 (intV d)), .bl (decide (59 + r ≤ 60))]]) := updD_same
  have hb4 := hb3.off (o := .lst ([] ++ [.tup [.tup ((rngD 0 (59 + r).toNat).map fun d => ent1 (intV d)), .bl (decide (59 + r ≤ 60))]])) pa pb
  have hx4 := hx3.own (o := .lst ([] ++ [.tup [.tup ((rngD 0 (59 + r).toNat).map fun d => ent1 (intV d)), .bl (decide (59 + r ≤ 60))]])) hl0
  rw [show ([] ++ (rngD 0 (59 + r).toNat).map fun d => ent1 (intV d)) = ((rngD 0 (59 + r).toNat).map fun d => ent1 (intV d)) from rfl] at hb4 hx4 g3 ⊢
  generalize D.tup [.tup ((rngD 0 (59 + r).toNat).map fun d => ent1 (intV d)), .bl (decide (59 + r ≤ 60))] = e1 at ok1 hb4 hx4 g3 ⊢
  generalize upd (upd L2 p1 (.lst ((rngD 0 (59 + r).toNat).map fun d => ent1 (intV d)))) p (.lst ([] ++ [e1])) = L4 at hb4 hx4 g3 ⊢
  simp only [d__law_many_t3, dVar, dC, dOp, dUn, dNil, dCons, dTup, dLst, dCB, dTest, dAnd, dOr, dNot, dAndV, dOrV, dNotV, dIfE, dChain, sNext, sSeq, sBreak, sCont, sDrop, sRet, sRetN, sIf, gdName, gdNil, gdCons, gdTup, gdSub, sAsg, dCall, xOf, sFor, dSeq, dRng1, dRng2, dI, dI0, dB0, dAdd, dIsN, dNotN, isNon, dIx, dSetL, dNeg, one, two, dLen1, dListOf1, dTupOf1, dAbs1, dIntOf1, dII, marg, dAppend1, dExtend1, dIsi, isA, dSl, dPart, dNoPart, dCut, dLc, dYes, sRaise, sTry, exBy, sPar2, sPar3, dIsBl, dNotBl, dBM, dBM0, dEq, dNe, dIn, dSgn, dLc2, dEnum, dListRg1, dListRg2, dTupRg1, dTupRg2, dStrOf1, dRep, dLenSet, dstart, fnE_nx, fnE_rt, fnE_ex, Nat.zero_le, Nat.reduceLeDiff, decide_true, decide_false, true_or, or_true, false_or, or_false, decide_eq_true_eq, exists_eq_left', exists_eq_left, exists_eq_right, exists_eq_right', Option.some.injEq, List.cons.injEq, D.int.injEq, D.bl.injEq, D.str.injEq, D.tup.injEq, D.lro.injEq, D.ref.injEq, DO.lst.injEq, and_true, true_and, and_false, false_and, exists_false, exists_const, List.getElem?_cons_zero, List.getElem?_cons_succ, List.map_cons, List.map_nil, List.length_cons, List.length_nil, List.replicate_zero, List.replicate_succ, List.append_nil, List.cons_append, List.nil_append, List.set_cons_zero, List.set_cons_succ, Nat.reduceAdd, Nat.reduceSub, Nat.zero_add, reduceIte, Bool.false_eq_true, reduceCtorEq, if_true, if_false, Bool.not_true, Bool.not_false, exists_and_left]
  refine ⟨a, b, 3, _, rfl, hb4, by omega, by decide, by decide, fun t o t0 t1 hb5 => ?_⟩
  have hx5 := hx4.bag (o := o)
  have g5 : upd L4 a o p = some (.lst [e1]) := by rw [updD_ne pa]; exact g3
  generalize upd L4 a o = L5 at hb5 hx5 g5
  simp only [d__law_many_t4, dVar, dC, dOp, dUn, dNil, dCons, dTup, dLst, dCB, dTest, dAnd, dOr, dNot, dAndV, dOrV, dNotV, dIfE, dChain, sNext, sSeq, sBreak, sCont, sDrop, sRet, sRetN, sIf, gdName, gdNil, gdCons, gdTup, gdSub, sAsg, dCall, xOf, sFor, dSeq, dRng1, dRng2, dI, dI0, dB0, dAdd, dIsN, dNotN, isNon, dIx, dSetL, dNeg, one, two, dLen1, dListOf1, dTupOf1, dAbs1, dIntOf1, dII, marg, dAppend1, dExtend1, dIsi, isA, dSl, dPart, dNoPart, dCut, dLc, dYes, sRaise, sTry, exBy, sPar2, sPar3, dIsBl, dNotBl, dBM, dBM0, dEq, dNe, dIn, dSgn, dLc2, dEnum, dListRg1, dListRg2, dTupRg1, dTupRg2, dStrOf1, dRep, dLenSet, dstart, fnE_nx, fnE_rt, fnE_ex, Nat.zero_le, Nat.reduceLeDiff, decide_true, decide_false, true_or, or_true, false_or, or_false, decide_eq_true_eq, exists_eq_left', exists_eq_left, exists_eq_right, exists_eq_right', Option.some.injEq, List.cons.injEq, D.int.injEq, D.bl.injEq, D.str.injEq, D.tup.injEq, D.lro.injEq, D.ref.injEq, DO.lst.injEq, and_true, true_and, and_false, false_and, exists_false, exists_const, List.getElem?_cons_zero, List.getElem?_cons_succ, List.map_cons, List.map_nil, List.length_cons, List.length_nil, List.replicate_zero, List.replicate_succ, List.append_nil, List.cons_append, List.nil_append, List.set_cons_zero, List.set_cons_succ, Nat.reduceAdd, Nat.reduceSub, Nat.zero_add, reduceIte, Bool.false_eq_true, reduceCtorEq, if_true, if_false, Bool.not_true, Bool.not_false, exists_and_left]
  have flat1 : ∀ (k : Nat) (d : D), (List.replicate k [d]).flatten = List.replicate k d := fun k d => by
    induction k with
    | zero => rfl
    | succ k ih => rw [List.replicate_succ, List.flatten_cons, ih, List.replicate_succ]; rfl
  refine ⟨⟨_, lstOf_ref g5⟩, fun p2 hp2 => ?_⟩
  obtain ⟨p2a, p2b, hb6⟩ := hb5.new (o := .lst [plE]) hp2
  have hx6 := hx5.new (o := .lst [plE]) hp2
  have n2 : p ≠ p2 := fresh_ne g5 hp2
  refine ⟨_, updD_same, by omega, by omega, by simp; omega, fun p3 hp3 => ?_⟩
  rw [flat1]
  obtain ⟨p3a, p3b, hb7⟩ := hb6.new (o := .lst (List.replicate (3999 + t).toNat plE)) hp3
  have hx7 := hx6.new (o := .lst (List.replicate (3999 + t).toNat plE)) hp3
  have n3 : p ≠ p3 := fresh_ne (by rw [updD_ne n2]; exact g5) hp3
  refine ⟨_, updD_same, _, by rw [updD_ne n3, updD_ne n2]; exact g5, by simp, ?_⟩
  have ok2 : ManyOk (.tup [.tup [.tup [.str "a", .int 1, .tup (List.replicate (3999 + t).toNat plE)]], .bl (decide (3999 + t ≤ 4000))]) := by
    refine ⟨_, _, rfl, pl_tup (by simp) fun e he => ?_, ?_⟩
    · rw [List.mem_singleton] at he
      subst he
      refine pl_3 (pl_str (by decide +kernel)) pl_int (pl_tup (by simp; omega) fun y hy => ?_)
      rw [(List.mem_replicate.mp hy).2]
      exact pl_2 pl_int (pl_2 (pl_str (by decide +kernel)) pl_int)
    · have := many2 (t := (3999 + t).toNat) (by omega)
      rw [show (((3999 + t).toNat : Nat) : Int) = 3999 + t by omega] at this
      exact this
  have hb8 := hb7.off (u := p) (o := .lst ([e1] ++ [.tup [.tup [.tup [.str "a", .int 1, .tup (List.replicate (3999 + t).toNat plE)]], .bl (decide (3999 + t ≤ 4000))]])) pa pb
  have hx8 := hx7.own (u := p) (o := .lst ([e1] ++ [.tup [.tup [.tup [.str "a", .int 1, .tup (List.replicate (3999 + t).toNat plE)]], .bl (decide (3999 + t ≤ 4000))]])) hl0
  have g8 := updD_same (L := upd (upd L5 p2 (.lst [plE])) p3 (.lst (List.replicate (3999 + t).toNat plE))) (a := p) (o := .lst ([e1] ++ [.tup [.tup [.tup [.str "a", .int 1, .tup (List.replicate (3999 + t).toNat plE)]], .bl (decide (3999 + t ≤ 4000))]]))
  change d__law_many_t5 _ _ (upd (upd (upd L5 p2 (.lst [plE])) p3 (.lst (List.replicate (3999 + t).toNat plE))) p (.lst ([e1] ++ [.tup [.tup [.tup [.str "a", .int 1, .tup (List.replicate (3999 + t).toNat plE)]], .bl (decide (3999 + t ≤ 4000))]])))
  generalize D.tup [.tup [.tup [.str "a", .int 1, .tup (List.replicate (3999 + t).toNat plE)]], .bl (decide (3999 + t ≤ 4000))] = e2 at ok2 hb8 hx8 g8 ⊢
  generalize upd (upd (upd L5 p2 (.lst [plE])) p3 (.lst (List.replicate (3999 + t).toNat plE))) p (.lst ([e1] ++ [e2])) = L8 at hb8 hx8 g8 ⊢
  simp only [d__law_many_t5, dVar, dC, dOp, dUn, dNil, dCons, dTup, dLst, dCB, dTest, dAnd, dOr, dNot, dAndV, dOrV, dNotV, dIfE, dChain, sNext, sSeq, sBreak, sCont, sDrop, sRet, sRetN, sIf, gdName, gdNil, gdCons, gdTup, gdSub, sAsg, dCall, xOf, sFor, dSeq, dRng1, dRng2, dI, dI0, dB0, dAdd, dIsN, dNotN, isNon, dIx, dSetL, dNeg, one, two, dLen1, dListOf1, dTupOf1, dAbs1, dIntOf1, dII, marg, dAppend1, dExtend1, dIsi, isA, dSl, dPart, dNoPart, dCut, dLc, dYes, sRaise, sTry, exBy, sPar2, sPar3, dIsBl, dNotBl, dBM, dBM0, dEq, dNe, dIn, dSgn, dLc2, dEnum, dListRg1, dListRg2, dTupRg1, dTupRg2, dStrOf1, dRep, dLenSet, dstart, fnE_nx, fnE_rt, fnE_ex, Nat.zero_le, Nat.reduceLeDiff, decide_true, decide_false, true_or, or_true, false_or, or_false, decide_eq_true_eq, exists_eq_left', exists_eq_left, exists_eq_right, exists_eq_right', Option.some.injEq, List.cons.injEq, D.int.injEq, D.bl.injEq, D.str.injEq, D.tup.injEq, D.lro.injEq, D.ref.injEq, DO.lst.injEq, and_true, true_and, and_false, false_and, exists_false, exists_const, List.getElem?_cons_zero, List.getElem?_cons_succ, List.map_cons, List.map_nil, List.length_cons, List.length_nil, List.replicate_zero, List.replicate_succ, List.append_nil, List.cons_append, List.nil_append, List.set_cons_zero, List.set_cons_succ, Nat.reduceAdd, Nat.reduceSub, Nat.zero_add, reduceIte, Bool.false_eq_true, reduceCtorEq, if_true, if_false, Bool.not_true, Bool.not_false, exists_and_left]
  refine ⟨a, b, 3998, _, rfl, hb8, by omega, by decide, by decide, fun h o h0 h1 hb9 => ?_⟩
  have hx9 := hx8.bag (o := o)
  have g9 : upd L8 a o p = some (.lst ([e1] ++ [e2])) := by rw [updD_ne pa]; exact g8
  generalize upd L8 a o = L9 at hb9 hx9 g9
  simp only [d__law_many_t6, dVar, dC, dOp, dUn, dNil, dCons, dTup, dLst, dCB, dTest, dAnd, dOr, dNot, dAndV, dOrV, dNotV, dIfE, dChain, sNext, sSeq, sBreak, sCont, sDrop, sRet, sRetN, sIf, gdName, gdNil, gdCons, gdTup, gdSub, sAsg, dCall, xOf, sFor, dSeq, dRng1, dRng2, dI, dI0, dB0, dAdd, dIsN, dNotN, isNon, dIx, dSetL, dNeg, one, two, dLen1, dListOf1, dTupOf1, dAbs1, dIntOf1, dII, marg, dAppend1, dExtend1, dIsi, isA, dSl, dPart, dNoPart, dCut, dLc, dYes, sRaise, sTry, exBy, sPar2, sPar3, dIsBl, dNotBl, dBM, dBM0, dEq, dNe, dIn, dSgn, dLc2, dEnum, dListRg1, dListRg2, dTupRg1, dTupRg2, dStrOf1, dRep, dLenSet, dstart, fnE_nx, fnE_rt, fnE_ex, Nat.zero_le, Nat.reduceLeDiff, decide_true, decide_false, true_or, or_true, false_or, or_false, decide_eq_true_eq, exists_eq_left', exists_eq_left, exists_eq_right, exists_eq_right', Option.some.injEq, List.cons.injEq, D.int.injEq, D.bl.injEq, D.str.injEq, D.tup.injEq, D.lro.injEq, D.ref.injEq, DO.lst.injEq, and_true, true_and, and_false, false_and, exists_false, exists_const, List.getElem?_cons_zero, List.getElem?_cons_succ, List.map_cons, List.map_nil, List.length_cons, List.length_nil, List.replicate_zero, List.replicate_succ, List.append_nil, List.cons_append, List.nil_append, List.set_cons_zero, List.set_cons_succ, Nat.reduceAdd, Nat.reduceSub, Nat.zero_add, reduceIte, Bool.false_eq_true, reduceCtorEq, if_true, if_false, Bool.not_true, Bool.not_false, exists_and_left]
  intro p4 hp4
  obtain ⟨p4a, p4b, hb10⟩ := hb9.new (o := .lst [plE]) hp4
  have hx10 := hx9.new (o := .lst [plE]) hp4
  have n4 : p ≠ p4 := fresh_ne g9 hp4
  refine ⟨_, updD_same, by omega, by omega, by simp; omega, fun p5 hp5 => ?_⟩
  rw [flat1]
  obtain ⟨p5a, p5b, hb11⟩ := hb10.new (o := .lst (List.replicate (1 + h).toNat plE)) hp5
  have hx11 := hx10.new (o := .lst (List.replicate (1 + h).toNat plE)) hp5
  have g10 : upd L9 p4 (.lst [plE]) p = some (.lst ([e1] ++ [e2])) := by rw [updD_ne n4]; exact g9
  have n5 : p ≠ p5 := fresh_ne g10 hp5
  refine ⟨_, updD_same, by simp, by decide, by decide, fun p6 hp6 => ?_⟩
  have flat24 : (List.replicate (Int.toNat 24) [D.int (1 + h)]).flatten = List.replicate 24 (.int (1 + h)) := flat1 _ _
  rw [flat24]
  obtain ⟨p6a, p6b, hb12⟩ := hb11.new (o := .lst [plC (1 + h)]) hp6
  have hx12 := hx11.new (o := .lst [plC (1 + h)]) hp6
  have g11 : upd (upd L9 p4 (.lst [plE])) p5 (.lst (List.replicate (1 + h).toNat plE)) p = some (.lst ([e1] ++ [e2])) := by rw [updD_ne n5]; exact g10
  have n6 : p ≠ p6 := fresh_ne g11 hp6
  refine ⟨_, updD_same, by omega, by omega, by simp; omega, fun p7 hp7 => ?_⟩
  rw [flat1]
  obtain ⟨p7a, p7b, hb13⟩ := hb12.new (o := .lst (List.replicate (3999 + t - (1 + h)).toNat (plC (1 + h)))) hp7
  have hx13 := hx12.new (o := .lst (List.replicate (3999 + t - (1 + h)).toNat (plC (1 + h)))) hp7
  have g12 : upd (upd (upd L9 p4 (.lst [plE])) p5 (.lst (List.replicate (1 + h).toNat plE))) p6 (.lst [plC (1 + h)]) p = some (.lst ([e1] ++ [e2])) := by rw [updD_ne n6]; exact g11
  have n7 : p ≠ p7 := fresh_ne g12 hp7
  refine ⟨_, updD_same, ?_⟩
  have g13 : upd (upd (upd (upd L9 p4 (.lst [plE])) p5 (.lst (List.replicate (1 + h).toNat plE))) p6 (.lst [plC (1 + h)])) p7 (.lst (List.replicate (3999 + t - (1 + h)).toNat (plC (1 + h)))) p = some (.lst ([e1] ++ [e2])) := by rw [updD_ne n7]; exact g12
  have ok3 : ManyOk (.tup [.tup [.tup [.str "a", .int 1, .tup (List.replicate (1 + h).toNat plE)], .tup [.str "b", .int 24, .tup (List.replicate (3999 + t - (1 + h)).toNat (plC (1 + h)))]], .bl (decide (3999 + t ≤ 4000))]) := by
    refine ⟨_, _, rfl, pl_2 (pl_3 (pl_str (by decide +kernel)) pl_int (pl_tup (by simp; omega) fun y hy => ?_)) (pl_3 (pl_str (by decide +kernel)) pl_int (pl_tup (by simp; omega) fun y hy => ?_)), ?_⟩
    · rw [(List.mem_replicate.mp hy).2]
      exact pl_2 pl_int (pl_2 (pl_str (by decide +kernel)) pl_int)
    · rw [(List.mem_replicate.mp hy).2]
      refine pl_2 pl_int (pl_3 (pl_str (by decide +kernel)) pl_int (pl_tup (by simp) fun y hy => ?_))
      rw [(List.mem_replicate.mp hy).2]
      exact pl_int
    · have := many3 (h := (1 + h).toNat) (t := (3999 + t).toNat) (by omega) (by omega)
      rw [show (((3999 + t).toNat : Nat) : Int) = 3999 + t by omega, show (((1 + h).toNat : Nat) : Int) = 1 + h by omega, show (3999 + t).toNat - (1 + h).toNat = (3999 + t - (1 + h)).toNat by omega] at this
      exact this
  change d__law_many_t7 _ [some (.ref a), some (.ref p), some (.int (59 + r)), some (.int (3999 + t)), some (.int (1 + h)), some (D.tup [.tup [.str "a", .int 1, .tup (List.replicate (1 + h).toNat plE)], .tup [.str "b", .int 24, .tup (List.replicate (3999 + t - (1 + h)).toNat (plC (1 + h)))]]), none, none] (upd (upd (upd (upd L9 p4 (.lst [plE])) p5 (.lst (List.replicate (1 + h).toNat plE))) p6 (.lst [plC (1 + h)])) p7 (.lst (List.replicate (3999 + t - (1 + h)).toNat (plC (1 + h)))))
  generalize D.tup [.tup [.str "a", .int 1, .tup (List.replicate (1 + h).toNat plE)], .tup [.str "b", .int 24, .tup (List.replicate (3999 + t - (1 + h)).toNat (plC (1 + h)))]] = pr at ok3 ⊢
  generalize upd (upd (upd (upd L9 p4 (.lst [plE])) p5 (.lst (List.replicate (1 + h).toNat plE))) p6 (.lst [plC (1 + h)])) p7 (.lst (List.replicate (3999 + t - (1 + h)).toNat (plC (1 + h)))) = L13 at hb13 hx13 g13 ⊢
  simp only [d__law_many_t7, dVar, dC, dOp, dUn, dNil, dCons, dTup, dLst, dCB, dTest, dAnd, dOr, dNot, dAndV, dOrV, dNotV, dIfE, dChain, sNext, sSeq, sBreak, sCont, sDrop, sRet, sRetN, sIf, gdName, gdNil, gdCons, gdTup, gdSub, sAsg, dCall, xOf, sFor, dSeq, dRng1, dRng2, dI, dI0, dB0, dAdd, dIsN, dNotN, isNon, dIx, dSetL, dNeg, one, two, dLen1, dListOf1, dTupOf1, dAbs1, dIntOf1, dII, marg, dAppend1, dExtend1, dIsi, isA, dSl, dPart, dNoPart, dCut, dLc, dYes, sRaise, sTry, exBy, sPar2, sPar3, dIsBl, dNotBl, dBM, dBM0, dEq, dNe, dIn, dSgn, dLc2, dEnum, dListRg1, dListRg2, dTupRg1, dTupRg2, dStrOf1, dRep, dLenSet, dstart, fnE_nx, fnE_rt, fnE_ex, Nat.zero_le, Nat.reduceLeDiff, decide_true, decide_false, true_or, or_true, false_or, or_false, decide_eq_true_eq, exists_eq_left', exists_eq_left, exists_eq_right, exists_eq_right', Option.some.injEq, List.cons.injEq, D.int.injEq, D.bl.injEq, D.str.injEq, D.tup.injEq, D.lro.injEq, D.ref.injEq, DO.lst.injEq, and_true, true_and, and_false, false_and, exists_false, exists_const, List.getElem?_cons_zero, List.getElem?_cons_succ, List.map_cons, List.map_nil, List.length_cons, List.length_nil, List.replicate_zero, List.replicate_succ, List.append_nil, List.cons_append, List.nil_append, List.set_cons_zero, List.set_cons_succ, Nat.reduceAdd, Nat.reduceSub, Nat.zero_add, reduceIte, Bool.false_eq_true, reduceCtorEq, if_true, if_false, Bool.not_true, Bool.not_false, exists_and_left]
  refine ⟨⟨_, lstOf_ref g13⟩, _, g13, by simp, ?_⟩
  generalize D.tup [pr, .bl (decide (3999 + t ≤ 4000))] = e3 at ok3 ⊢
  have hb14 := hb13.off (u := p) (o := .lst ([e1] ++ [e2] ++ [e3])) pa pb
  have hx14 := hx13.own (u := p) (o := .lst ([e1] ++ [e2] ++ [e3])) hl0
  have g14 := updD_same (L := L13) (a := p) (o := .lst ([e1] ++ [e2] ++ [e3]))
  generalize upd L13 p (.lst ([e1] ++ [e2] ++ [e3])) = L14 at hb14 hx14 g14 ⊢
  simp only [d__law_many_t8, dVar, dC, dOp, dUn, dNil, dCons, dTup, dLst, dCB, dTest, dAnd, dOr, dNot, dAndV, dOrV, dNotV, dIfE, dChain, sNext, sSeq, sBreak, sCont, sDrop, sRet, sRetN, sIf, gdName, gdNil, gdCons, gdTup, gdSub, sAsg, dCall, xOf, sFor, dSeq, dRng1, dRng2, dI, dI0, dB0, dAdd, dIsN, dNotN, isNon, dIx, dSetL, dNeg, one, two, dLen1, dListOf1, dTupOf1, dAbs1, dIntOf1, dII, marg, dAppend1, dExtend1, dIsi, isA, dSl, dPart, dNoPart, dCut, dLc, dYes, sRaise, sTry, exBy, sPar2, sPar3, dIsBl, dNotBl, dBM, dBM0, dEq, dNe, dIn, dSgn, dLc2, dEnum, dListRg1, dListRg2, dTupRg1, dTupRg2, dStrOf1, dRep, dLenSet, dstart, fnE_nx, fnE_rt, fnE_ex, Nat.zero_le, Nat.reduceLeDiff, decide_true, decide_false, true_or, or_true, false_or, or_false, decide_eq_true_eq, exists_eq_left', exists_eq_left, exists_eq_right, exists_eq_right', Option.some.injEq, List.cons.injEq, D.int.injEq, D.bl.injEq, D.str.injEq, D.tup.injEq, D.lro.injEq, D.ref.injEq, DO.lst.injEq, and_true, true_and, and_false, false_and, exists_false, exists_const, List.getElem?_cons_zero, List.getElem?_cons_succ, List.map_cons, List.map_nil, List.length_cons, List.length_nil, List.replicate_zero, List.replicate_succ, List.append_nil, List.cons_append, List.nil_append, List.set_cons_zero, List.set_cons_succ, Nat.reduceAdd, Nat.reduceSub, Nat.zero_add, reduceIte, Bool.false_eq_true, reduceCtorEq, if_true, if_false, Bool.not_true, Bool.not_false, exists_and_left]
  refine ⟨a, b, 3, _, rfl, hb14, by omega, by decide, by decide, fun m o m0 m1 hb15 => ?_⟩
  have hx15 := hx14.bag (o := o)
  have g15 : upd L14 a o p = some (.lst ([e1] ++ [e2] ++ [e3])) := by rw [updD_ne pa]; exact g14
  generalize upd L14 a o = L15 at hb15 hx15 g15
  simp only [d__law_many_t9, d__law_many_t10, dVar, dC, dOp, dUn, dNil, dCons, dTup, dLst, dCB, dTest, dAnd, dOr, dNot, dAndV, dOrV, dNotV, dIfE, dChain, sNext, sSeq, sBreak, sCont, sDrop, sRet, sRetN, sIf, gdName, gdNil, gdCons, gdTup, gdSub, sAsg, dCall, xOf, sFor, dSeq, dRng1, dRng2, dI, dI0, dB0, dAdd, dIsN, dNotN, isNon, dIx, dSetL, dNeg, one, two, dLen1, dListOf1, dTupOf1, dAbs1, dIntOf1, dII, marg, dAppend1, dExtend1, dIsi, isA, dSl, dPart, dNoPart, dCut, dLc, dYes, sRaise, sTry, exBy, sPar2, sPar3, dIsBl, dNotBl, dBM, dBM0, dEq, dNe, dIn, dSgn, dLc2, dEnum, dListRg1, dListRg2, dTupRg1, dTupRg2, dStrOf1, dRep, dLenSet, dstart, fnE_nx, fnE_rt, fnE_ex, Nat.zero_le, Nat.reduceLeDiff, decide_true, decide_false, true_or, or_true, false_or, or_false, decide_eq_true_eq, exists_eq_left', exists_eq_left, exists_eq_right, exists_eq_right', Option.some.injEq, List.cons.injEq, D.int.injEq, D.bl.injEq, D.str.injEq, D.tup.injEq, D.lro.injEq, D.ref.injEq, DO.lst.injEq, and_true, true_and, and_false, false_and, exists_false, exists_const, List.getElem?_cons_zero, List.getElem?_cons_succ, List.map_cons, List.map_nil, List.length_cons, List.length_nil, List.replicate_zero, List.replicate_succ, List.append_nil, List.cons_append, List.nil_append, List.set_cons_zero, List.set_cons_succ, Nat.reduceAdd, Nat.reduceSub, Nat.zero_add, reduceIte, Bool.false_eq_true, reduceCtorEq, if_true, if_false, Bool.not_true, Bool.not_false, exists_and_left]
  refine ⟨⟨by omega, by omega, by omega⟩, ⟨_, lstOf_ref g15⟩, by simp, by decide, by decide, by decide, _, g15, by simp, ?_⟩
  have e9 : (List.replicate (Int.toNat 9) [D.tup [.int 9, .tup [.str "exit", .int 23]]]).flatten = List.replicate 9 (.tup [.int 9, .tup [.str "exit", .int 23]]) := flat1 _ _
  rw [e9]
  have ok4 : ManyOk (.tup [prog4 (7 + m).toNat, .bl (decide (((rngD 0 (7 + m).toNat).length : Int) ≤ 8))]) := by
    refine ⟨_, _, rfl, pl_tup (by simp) fun e he => ?_, ?_⟩
    · rw [List.mem_singleton] at he
      subst he
      refine pl_3 (pl_str (by decide +kernel)) pl_int (pl_tup (by simp) fun y hy => ?_)
      rcases List.mem_append.mp hy with hy | hy
      · rw [List.mem_singleton] at hy
        subst hy
        refine pl_2 pl_int (pl_3 (pl_str (by decide +kernel)) pl_int (pl_tup (by rw [rngD_length]; omega) fun y hy => ?_))
        obtain ⟨j, rfl, _, _⟩ := mem_rngD hy
        exact pl_int
      · rw [(List.mem_replicate.mp hy).2]
        exact pl_2 pl_int (pl_2 (pl_str (by decide +kernel)) pl_int)
    · have := many4 m.toNat (by omega)
      rw [rngD_length, show (7 + m).toNat = 7 + m.toNat by omega]
      exact this
  have hb16 := hb15.off (u := p) (o := .lst ([e1] ++ [e2] ++ [e3] ++ [.tup [prog4 (7 + m).toNat, .bl (decide (((rngD 0 (7 + m).toNat).length : Int) ≤ 8))]])) pa pb
  have hx16 := hx15.own (u := p) (o := .lst ([e1] ++ [e2] ++ [e3] ++ [.tup [prog4 (7 + m).toNat, .bl (decide (((rngD 0 (7 + m).toNat).length : Int) ≤ 8))]])) hl0
  refine ⟨_, Le.refl, q p _ _ hx16 (hb16.mono (by omega)) pa updD_same fun x hx => ?_⟩
  simp only [List.mem_append, List.mem_singleton] at hx
  rcases hx with ((rfl | rfl) | rfl) | rfl
  · exact ok1
  · exact ok2
  · exact ok3
  · exact ok4
end D2

set_option Elab.async false
set_option linter.all false
set_option maxRecDepth 100000
set_option maxHeartbeats 1000000
namespace D2
open PySem PySem.Spec PyProof.Rows L2
def sp_law : SpD := fun ds L Q _ => ∃ ns : List Int, ds = [.lro (ns.map .int)] ∧ ns.length ≤ 63 ∧ ∀ L', Q (.bl true) L'
theorem len_law : ∀ as L Q E, sp_law as L Q E → as.length = 1 := by rintro _ L Q E ⟨p, rfl, _⟩; rfl
def d_law_t3b2 : DS :=
  (sIf (dOr (dTest (dOp dNotBl (dCall sp_is_program (dCons (dVar 6) dNil)) (dC (.bl false)))) (dTest (dOp dNotBl (dCall sp_is_program (dCons (dCB dListOf (dCons (dVar 2) dNil)) dNil)) (dC (.bl false))))) (sRet (dC (.bl false))) sNext)
def d_law_t3b1 : DS :=
  (sSeq (sAsg (dIfE (dTest (dOp dEq (dCall sp_law_pick (dCons (dVar 1) (dCons (dC (.int 3)) dNil))) (dC (.int 0)))) (dCall sp_law_bad_head (dCons (dVar 1) (dCons (dVar 2) (dCons (dVar 5) dNil)))) (dCall sp_law_bad_place (dCons (dVar 1) (dCons (dVar 2) dNil)))) (gdName 6)) d_law_t3b2)
def d_law_b3 : DS :=
  (sSeq (sAsg (dCall sp_law_pick (dCons (dVar 1) (dCons (dCB dLen (dCons (dVar 2) dNil)) dNil))) (gdName 5)) d_law_t3b1)
def d_law_t4b1 : DS :=
  (sIf (dOr (dNot (dTest (dIsi .bool (dVar 9)))) (dTest (dOp dNe (dVar 9) (dVar 8)))) (sRet (dC (.bl false))) sNext)
def d_law_b4 : DS :=
  (sSeq (sAsg (dCall sp_is_program (dCons (dVar 7) dNil)) (gdName 9)) d_law_t4b1)
def d_law_t7 : DS :=
  (sRet (dOp dIsBl (dCall sp_is_program (dCons (dVar 2) dNil)) (dC (.bl true))))
def d_law_t6 : DS :=
  (sSeq (sIf (dTest (dOp dNotBl (dCall sp_is_program (dCons (dOp dIx (dVar 4) (dCall sp_law_pick (dCons (dVar 1) (dCons (dCB dLen (dCons (dVar 4) dNil)) dNil)))) dNil)) (dC (.bl false)))) (sRet (dC (.bl false))) sNext) d_law_t7)
def d_law_t5 : DS :=
  (sSeq (sAsg (dLst (dCons (dTup dNil) (dCons (dC .non) (dCons (dC (.int 7)) (dCons (dC (.str "proc a 1 { 0 : 0 exit 0 }")) (dCons (dLst dNil) (dCons (dTup (dCons (dTup dNil) dNil)) (dCons (dTup (dCons (dC .non) dNil)) (dCons (dC (.bl true)) dNil))))))))) (gdName 4)) d_law_t6)
def d_law_t4 : DS :=
  (sSeq (sFor (dSeq (dCall sp_law_many (dCons (dVar 1) dNil))) (gdTup 2 (gdCons (gdName 7) (gdCons (gdName 8) gdNil)))
  d_law_b4) d_law_t5)
def d_law_t3 : DS :=
  (sSeq (sFor (dRng1 (dCons (dC (.int 8)) dNil)) (gdName 3)
  d_law_b3) d_law_t4)
def d_law_t2 : DS :=
  (sSeq (sIf (dTest (dOp dNotBl (dCall sp_is_program (dCons (dVar 2) dNil)) (dC (.bl true)))) (sRet (dC (.bl false))) sNext) d_law_t3)
def d_law_t1 : DS :=
  (sSeq (sAsg (dCall sp_law_program (dCons (dVar 1) (dCons (dC (.int 4)) (dCons (dOp dIx (dLst (dCons (dC (.int 2)) (dCons (dC (.int 24)) dNil))) (dCall sp_law_pick (dCons (dVar 1) (dCons (dC (.int 2)) dNil)))) (dCons (dC (.int 9)) (dCons (dC (.int 3)) dNil)))))) (gdName 2)) d_law_t2)
def d_law : DS :=
  (sSeq (sAsg (dCall sp_law_bag (dCons (dVar 0) dNil)) (gdName 1)) d_law_t1)

theorem pure_law : ∀ as L Q E, sp_law as L Q E → d_law (fnEnds Q E) (dstart 10 as) L := by
  rintro as L Q E ⟨ns, rfl, hl, q⟩
  simp only [d_law, dVar, dC, dOp, dUn, dNil, dCons, dTup, dLst, dCB, dTest, dAnd, dOr, dNot, dAndV, dOrV, dNotV, dIfE, dChain, sNext, sSeq, sBreak, sCont, sDrop, sRet, sRetN, sIf, gdName, gdNil, gdCons, gdTup, gdSub, sAsg, dCall, xOf, sFor, dSeq, dRng1, dRng2, dI, dI0, dB0, dAdd, dIsN, dNotN, isNon, dIx, dSetL, dNeg, one, two, dLen1, dListOf1, dTupOf1, dAbs1, dIntOf1, dII, marg, dAppend1, dExtend1, dIsi, isA, dSl, dPart, dNoPart, dCut, dLc, dYes, sRaise, sTry, exBy, sPar2, sPar3, dIsBl, dNotBl, dBM, dBM0, dEq, dNe, dIn, dSgn, dLc2, dEnum, dListRg1, dListRg2, dTupRg1, dTupRg2, dStrOf1, dRep, dLenSet, dstart, fnE_nx, fnE_rt, fnE_ex, Nat.zero_le, Nat.reduceLeDiff, decide_true, decide_false, true_or, or_true, false_or, or_false, decide_eq_true_eq, exists_eq_left', exists_eq_left, exists_eq_right, exists_eq_right', Option.some.injEq, List.cons.injEq, D.int.injEq, D.bl.injEq, D.str.injEq, D.tup.injEq, D.lro.injEq, D.ref.injEq, DO.lst.injEq, and_true, true_and, and_false, false_and, exists_false, exists_const, List.getElem?_cons_zero, List.getElem?_cons_succ, List.map_cons, List.map_nil, List.length_cons, List.length_nil, List.replicate_zero, List.replicate_succ, List.append_nil, List.cons_append, List.nil_append, List.set_cons_zero, List.set_cons_succ, Nat.reduceAdd, Nat.reduceSub, Nat.zero_add, reduceIte, Bool.false_eq_true, reduceCtorEq, if_true, if_false, Bool.not_true, Bool.not_false, exists_and_left]
  refine ⟨ns, rfl, by omega, fun a b L1 hb1 => ?_⟩
  simp only [d_law_t1, dVar, dC, dOp, dUn, dNil, dCons, dTup, dLst, dCB, dTest, dAnd, dOr, dNot, dAndV, dOrV, dNotV, dIfE, dChain, sNext, sSeq, sBreak, sCont, sDrop, sRet, sRetN, sIf, gdName, gdNil, gdCons, gdTup, gdSub, sAsg, dCall, xOf, sFor, dSeq, dRng1, dRng2, dI, dI0, dB0, dAdd, dIsN, dNotN, isNon, dIx, dSetL, dNeg, one, two, dLen1, dListOf1, dTupOf1, dAbs1, dIntOf1, dII, marg, dAppend1, dExtend1, dIsi, isA, dSl, dPart, dNoPart, dCut, dLc, dYes, sRaise, sTry, exBy, sPar2, sPar3, dIsBl, dNotBl, dBM, dBM0, dEq, dNe, dIn, dSgn, dLc2, dEnum, dListRg1, dListRg2, dTupRg1, dTupRg2, dStrOf1, dRep, dLenSet, dstart, fnE_nx, fnE_rt, fnE_ex, Nat.zero_le, Nat.reduceLeDiff, decide_true, decide_false, true_or, or_true, false_or, or_false, decide_eq_true_eq, exists_eq_left', exists_eq_left, exists_eq_right, exists_eq_right', Option.some.injEq, List.cons.injEq, D.int.injEq, D.bl.injEq, D.str.injEq, D.tup.injEq, D.lro.injEq, D.ref.injEq, DO.lst.injEq, and_true, true_and, and_false, false_and, exists_false, exists_const, List.getElem?_cons_zero, List.getElem?_cons_succ, List.map_cons, List.map_nil, List.length_cons, List.length_nil, List.replicate_zero, List.replicate_succ, List.append_nil, List.cons_append, List.nil_append, List.set_cons_zero, List.set_cons_succ, Nat.reduceAdd, Nat.reduceSub, Nat.zero_add, reduceIte, Bool.false_eq_true, reduceCtorEq, if_true, if_false, Bool.not_true, Bool.not_false, exists_and_left]
  intro p hp
  obtain ⟨pa, pb, hb2⟩ := hb1.new (o := .lst [.int 2, .int 24]) hp
  refine ⟨a, b, 2, _, rfl, hb2, by omega, by decide, by decide, fun r o r0 r1 hb3 => ?_⟩
  obtain ⟨u, hu, _, hum⟩ := atI_in (xs := [D.int 2, .int 24]) r0 (by simpa using r1)
  refine ⟨_, by rw [updD_ne pa, updD_same], u, hu, ?_⟩
  obtain ⟨e, rfl, e1, e2⟩ : ∃ e : Int, u = .int e ∧ 1 ≤ e ∧ e ≤ 24 := by
    simp only [List.mem_cons, List.not_mem_nil, or_false] at hum
    rcases hum with rfl | rfl
    · exact ⟨_, rfl, by decide, by decide⟩
    · exact ⟨_, rfl, by decide, by decide⟩
  generalize upd (upd L1 p (.lst [.int 2, .int 24])) a o = L3 at hb3
  refine ⟨a, b, _, 4, e, 9, 3, rfl, hb3, by omega, by decide, by decide, e1, e2, by decide, by decide, by decide, by decide, by decide, fun prog o G hb4 => ?_⟩
  generalize upd L3 a o = L4 at hb4
  obtain ⟨es, rfl, hp⟩ := prg_of G.ok
  have hpl := G.pl
  have hi := G.ok
  have hes := hp.len
  have htm : ∀ L, Tm L (.tup es) := fun L => hpl.tm (by decide) L
  simp only [d_law_t2, dVar, dC, dOp, dUn, dNil, dCons, dTup, dLst, dCB, dTest, dAnd, dOr, dNot, dAndV, dOrV, dNotV, dIfE, dChain, sNext, sSeq, sBreak, sCont, sDrop, sRet, sRetN, sIf, gdName, gdNil, gdCons, gdTup, gdSub, sAsg, dCall, xOf, sFor, dSeq, dRng1, dRng2, dI, dI0, dB0, dAdd, dIsN, dNotN, isNon, dIx, dSetL, dNeg, one, two, dLen1, dListOf1, dTupOf1, dAbs1, dIntOf1, dII, marg, dAppend1, dExtend1, dIsi, isA, dSl, dPart, dNoPart, dCut, dLc, dYes, sRaise, sTry, exBy, sPar2, sPar3, dIsBl, dNotBl, dBM, dBM0, dEq, dNe, dIn, dSgn, dLc2, dEnum, dListRg1, dListRg2, dTupRg1, dTupRg2, dStrOf1, dRep, dLenSet, dstart, fnE_nx, fnE_rt, fnE_ex, Nat.zero_le, Nat.reduceLeDiff, decide_true, decide_false, true_or, or_true, false_or, or_false, decide_eq_true_eq, exists_eq_left', exists_eq_left, exists_eq_right, exists_eq_right', Option.some.injEq, List.cons.injEq, D.int.injEq, D.bl.injEq, D.str.injEq, D.tup.injEq, D.lro.injEq, D.ref.injEq, DO.lst.injEq, and_true, true_and, and_false, false_and, exists_false, exists_const, List.getElem?_cons_zero, List.getElem?_cons_succ, List.map_cons, List.map_nil, List.length_cons, List.length_nil, List.replicate_zero, List.replicate_succ, List.append_nil, List.cons_append, List.nil_append, List.set_cons_zero, List.set_cons_succ, Nat.reduceAdd, Nat.reduceSub, Nat.zero_add, reduceIte, Bool.false_eq_true, reduceCtorEq, if_true, if_false, Bool.not_true, Bool.not_false, exists_and_left]
  refine ⟨.tup es, rfl, htm _, ?_⟩
  rw [hi]
  simp only [d_law_t3, dVar, dC, dOp, dUn, dNil, dCons, dTup, dLst, dCB, dTest, dAnd, dOr, dNot, dAndV, dOrV, dNotV, dIfE, dChain, sNext, sSeq, sBreak, sCont, sDrop, sRet, sRetN, sIf, gdName, gdNil, gdCons, gdTup, gdSub, sAsg, dCall, xOf, sFor, dSeq, dRng1, dRng2, dI, dI0, dB0, dAdd, dIsN, dNotN, isNon, dIx, dSetL, dNeg, one, two, dLen1, dListOf1, dTupOf1, dAbs1, dIntOf1, dII, marg, dAppend1, dExtend1, dIsi, isA, dSl, dPart, dNoPart, dCut, dLc, dYes, sRaise, sTry, exBy, sPar2, sPar3, dIsBl, dNotBl, dBM, dBM0, dEq, dNe, dIn, dSgn, dLc2, dEnum, dListRg1, dListRg2, dTupRg1, dTupRg2, dStrOf1, dRep, dLenSet, dstart, fnE_nx, fnE_rt, fnE_ex, Nat.zero_le, Nat.reduceLeDiff, decide_true, decide_false, true_or, or_true, false_or, or_false, decide_eq_true_eq, exists_eq_left', exists_eq_left, exists_eq_right, exists_eq_right', Option.some.injEq, List.cons.injEq, D.int.injEq, D.bl.injEq, D.str.injEq, D.tup.injEq, D.lro.injEq, D.ref.injEq, DO.lst.injEq, and_true, true_and, and_false, false_and, exists_false, exists_const, List.getElem?_cons_zero, List.getElem?_cons_succ, List.map_cons, List.map_nil, List.length_cons, List.length_nil, List.replicate_zero, List.replicate_succ, List.append_nil, List.cons_append, List.nil_append, List.set_cons_zero, List.set_cons_succ, Nat.reduceAdd, Nat.reduceSub, Nat.zero_add, reduceIte, Bool.false_eq_true, reduceCtorEq, if_true, if_false, Bool.not_true, Bool.not_false, exists_and_left]
  refine ⟨⟨by decide, by decide⟩, ?_⟩
  refine forD_ind (fun rest s L' => ∃ m o3 o5 o6, m + 100 * rest.length = 201001 ∧ BagAt m L' a b ∧ s = [some (.lro (ns.map .int)), some (.ref a), some (.tup es), o3, none, o5, o6, none, none, none]) ?_ ?_ _ _ _ ⟨200201, none, none, none, by rw [rngD_length]; rfl, hb4.mono (by omega), rfl⟩
  · rintro d rest s L' P hP ⟨m, o3, o5, o6, hm, hb, rfl⟩
    have hm2 : m ≤ 300000 := by simp at hm; omega
    refine ⟨trivial, ?_⟩
    simp only [d_law_b3, dVar, dC, dOp, dUn, dNil, dCons, dTup, dLst, dCB, dTest, dAnd, dOr, dNot, dAndV, dOrV, dNotV, dIfE, dChain, sNext, sSeq, sBreak, sCont, sDrop, sRet, sRetN, sIf, gdName, gdNil, gdCons, gdTup, gdSub, sAsg, dCall, xOf, sFor, dSeq, dRng1, dRng2, dI, dI0, dB0, dAdd, dIsN, dNotN, isNon, dIx, dSetL, dNeg, one, two, dLen1, dListOf1, dTupOf1, dAbs1, dIntOf1, dII, marg, dAppend1, dExtend1, dIsi, isA, dSl, dPart, dNoPart, dCut, dLc, dYes, sRaise, sTry, exBy, sPar2, sPar3, dIsBl, dNotBl, dBM, dBM0, dEq, dNe, dIn, dSgn, dLc2, dEnum, dListRg1, dListRg2, dTupRg1, dTupRg2, dStrOf1, dRep, dLenSet, dstart, fnE_nx, fnE_rt, fnE_ex, Nat.zero_le, Nat.reduceLeDiff, decide_true, decide_false, true_or, or_true, false_or, or_false, decide_eq_true_eq, exists_eq_left', exists_eq_left, exists_eq_right, exists_eq_right', Option.some.injEq, List.cons.injEq, D.int.injEq, D.bl.injEq, D.str.injEq, D.tup.injEq, D.lro.injEq, D.ref.injEq, DO.lst.injEq, and_true, true_and, and_false, false_and, exists_false, exists_const, List.getElem?_cons_zero, List.getElem?_cons_succ, List.map_cons, List.map_nil, List.length_cons, List.length_nil, List.replicate_zero, List.replicate_succ, List.append_nil, List.cons_append, List.nil_append, List.set_cons_zero, List.set_cons_succ, Nat.reduceAdd, Nat.reduceSub, Nat.zero_add, reduceIte, Bool.false_eq_true, reduceCtorEq, if_true, if_false, Bool.not_true, Bool.not_false, exists_and_left]
    refine ⟨a, b, _, _, rfl, hb, by omega, by omega, big_m (by omega), fun i o i0 i1 hb1 => ?_⟩
    have hfin : ∀ (bent : D) (L5 : DH), BagAt (m + 50) L5 a b → Tm L5 bent → isProg bent = false → d_law_t3b2 { nx := P, rt := (fnEnds Q E).rt, bk := d_law_t4 (fnEnds Q E), ct := P, ex := (fnEnds Q E).ex } [some (.lro (ns.map .int)), some (.ref a), some (.tup es), some d, none, some (.int i), some bent, none, none, none] L5 := by
      intro bent L5 hb5 ht hbad
      simp only [d_law_t3b2, dVar, dC, dOp, dUn, dNil, dCons, dTup, dLst, dCB, dTest, dAnd, dOr, dNot, dAndV, dOrV, dNotV, dIfE, dChain, sNext, sSeq, sBreak, sCont, sDrop, sRet, sRetN, sIf, gdName, gdNil, gdCons, gdTup, gdSub, sAsg, dCall, xOf, sFor, dSeq, dRng1, dRng2, dI, dI0, dB0, dAdd, dIsN, dNotN, isNon, dIx, dSetL, dNeg, one, two, dLen1, dListOf1, dTupOf1, dAbs1, dIntOf1, dII, marg, dAppend1, dExtend1, dIsi, isA, dSl, dPart, dNoPart, dCut, dLc, dYes, sRaise, sTry, exBy, sPar2, sPar3, dIsBl, dNotBl, dBM, dBM0, dEq, dNe, dIn, dSgn, dLc2, dEnum, dListRg1, dListRg2, dTupRg1, dTupRg2, dStrOf1, dRep, dLenSet, dstart, fnE_nx, fnE_rt, fnE_ex, Nat.zero_le, Nat.reduceLeDiff, decide_true, decide_false, true_or, or_true, false_or, or_false, decide_eq_true_eq, exists_eq_left', exists_eq_left, exists_eq_right, exists_eq_right', Option.some.injEq, List.cons.injEq, D.int.injEq, D.bl.injEq, D.str.injEq, D.tup.injEq, D.lro.injEq, D.ref.injEq, DO.lst.injEq, and_true, true_and, and_false, false_and, exists_false, exists_const, List.getElem?_cons_zero, List.getElem?_cons_succ, List.map_cons, List.map_nil, List.length_cons, List.length_nil, List.replicate_zero, List.replicate_succ, List.append_nil, List.cons_append, List.nil_append, List.set_cons_zero, List.set_cons_succ, Nat.reduceAdd, Nat.reduceSub, Nat.zero_add, reduceIte, Bool.false_eq_true, reduceCtorEq, if_true, if_false, Bool.not_true, Bool.not_false, exists_and_left]
      refine ⟨bent, rfl, ht, ?_⟩
      rw [hbad]
      simp only [dVar, dC, dOp, dUn, dNil, dCons, dTup, dLst, dCB, dTest, dAnd, dOr, dNot, dAndV, dOrV, dNotV, dIfE, dChain, sNext, sSeq, sBreak, sCont, sDrop, sRet, sRetN, sIf, gdName, gdNil, gdCons, gdTup, gdSub, sAsg, dCall, xOf, sFor, dSeq, dRng1, dRng2, dI, dI0, dB0, dAdd, dIsN, dNotN, isNon, dIx, dSetL, dNeg, one, two, dLen1, dListOf1, dTupOf1, dAbs1, dIntOf1, dII, marg, dAppend1, dExtend1, dIsi, isA, dSl, dPart, dNoPart, dCut, dLc, dYes, sRaise, sTry, exBy, sPar2, sPar3, dIsBl, dNotBl, dBM, dBM0, dEq, dNe, dIn, dSgn, dLc2, dEnum, dListRg1, dListRg2, dTupRg1, dTupRg2, dStrOf1, dRep, dLenSet, dstart, fnE_nx, fnE_rt, fnE_ex, Nat.zero_le, Nat.reduceLeDiff, decide_true, decide_false, true_or, or_true, false_or, or_false, decide_eq_true_eq, exists_eq_left', exists_eq_left, exists_eq_right, exists_eq_right', Option.some.injEq, List.cons.injEq, D.int.injEq, D.bl.injEq, D.str.injEq, D.tup.injEq, D.lro.injEq, D.ref.injEq, DO.lst.injEq, and_true, true_and, and_false, false_and, exists_false, exists_const, List.getElem?_cons_zero, List.getElem?_cons_succ, List.map_cons, List.map_nil, List.length_cons, List.length_nil, List.replicate_zero, List.replicate_succ, List.append_nil, List.cons_append, List.nil_append, List.set_cons_zero, List.set_cons_succ, Nat.reduceAdd, Nat.reduceSub, Nat.zero_add, reduceIte, Bool.false_eq_true, reduceCtorEq, if_true, if_false, Bool.not_true, Bool.not_false, exists_and_left]
      intro p hp
      obtain ⟨pa, pb, hb6⟩ := hb5.new (o := .lst es) hp
      refine ⟨.ref p, rfl, tm_list updD_same hpl (by decide), ?_⟩
      rw [show isProg (.ref p) = false from rfl]
      simp only [dVar, dC, dOp, dUn, dNil, dCons, dTup, dLst, dCB, dTest, dAnd, dOr, dNot, dAndV, dOrV, dNotV, dIfE, dChain, sNext, sSeq, sBreak, sCont, sDrop, sRet, sRetN, sIf, gdName, gdNil, gdCons, gdTup, gdSub, sAsg, dCall, xOf, sFor, dSeq, dRng1, dRng2, dI, dI0, dB0, dAdd, dIsN, dNotN, isNon, dIx, dSetL, dNeg, one, two, dLen1, dListOf1, dTupOf1, dAbs1, dIntOf1, dII, marg, dAppend1, dExtend1, dIsi, isA, dSl, dPart, dNoPart, dCut, dLc, dYes, sRaise, sTry, exBy, sPar2, sPar3, dIsBl, dNotBl, dBM, dBM0, dEq, dNe, dIn, dSgn, dLc2, dEnum, dListRg1, dListRg2, dTupRg1, dTupRg2, dStrOf1, dRep, dLenSet, dstart, fnE_nx, fnE_rt, fnE_ex, Nat.zero_le, Nat.reduceLeDiff, decide_true, decide_false, true_or, or_true, false_or, or_false, decide_eq_true_eq, exists_eq_left', exists_eq_left, exists_eq_right, exists_eq_right', Option.some.injEq, List.cons.injEq, D.int.injEq, D.bl.injEq, D.str.injEq, D.tup.injEq, D.lro.injEq, D.ref.injEq, DO.lst.injEq, and_true, true_and, and_false, false_and, exists_false, exists_const, List.getElem?_cons_zero, List.getElem?_cons_succ, List.map_cons, List.map_nil, List.length_cons, List.length_nil, List.replicate_zero, List.replicate_succ, List.append_nil, List.cons_append, List.nil_append, List.set_cons_zero, List.set_cons_succ, Nat.reduceAdd, Nat.reduceSub, Nat.zero_add, reduceIte, Bool.false_eq_true, reduceCtorEq, if_true, if_false, Bool.not_true, Bool.not_false, exists_and_left]
      exact hP _ _ ⟨m + 50 + 50, _, _, _, by simp at hm ⊢; omega, hb6.mono (by omega), rfl⟩
    generalize upd L' a o = L5 at hb1
    simp only [d_law_t3b1, dVar, dC, dOp, dUn, dNil, dCons, dTup, dLst, dCB, dTest, dAnd, dOr, dNot, dAndV, dOrV, dNotV, dIfE, dChain, sNext, sSeq, sBreak, sCont, sDrop, sRet, sRetN, sIf, gdName, gdNil, gdCons, gdTup, gdSub, sAsg, dCall, xOf, sFor, dSeq, dRng1, dRng2, dI, dI0, dB0, dAdd, dIsN, dNotN, isNon, dIx, dSetL, dNeg, one, two, dLen1, dListOf1, dTupOf1, dAbs1, dIntOf1, dII, marg, dAppend1, dExtend1, dIsi, isA, dSl, dPart, dNoPart, dCut, dLc, dYes, sRaise, sTry, exBy, sPar2, sPar3, dIsBl, dNotBl, dBM, dBM0, dEq, dNe, dIn, dSgn, dLc2, dEnum, dListRg1, dListRg2, dTupRg1, dTupRg2, dStrOf1, dRep, dLenSet, dstart, fnE_nx, fnE_rt, fnE_ex, Nat.zero_le, Nat.reduceLeDiff, decide_true, decide_false, true_or, or_true, false_or, or_false, decide_eq_true_eq, exists_eq_left', exists_eq_left, exists_eq_right, exists_eq_right', Option.some.injEq, List.cons.injEq, D.int.injEq, D.bl.injEq, D.str.injEq, D.tup.injEq, D.lro.injEq, D.ref.injEq, DO.lst.injEq, and_true, true_and, and_false, false_and, exists_false, exists_const, List.getElem?_cons_zero, List.getElem?_cons_succ, List.map_cons, List.map_nil, List.length_cons, List.length_nil, List.replicate_zero, List.replicate_succ, List.append_nil, List.cons_append, List.nil_append, List.set_cons_zero, List.set_cons_succ, Nat.reduceAdd, Nat.reduceSub, Nat.zero_add, reduceIte, Bool.false_eq_true, reduceCtorEq, if_true, if_false, Bool.not_true, Bool.not_false, exists_and_left]
    refine ⟨a, b, _, _, rfl, hb1, by omega, by decide, by decide, fun k o k0 k1 hb2 => ?_⟩
    generalize upd L5 a o = L6 at hb2
    simp only [eqD_int]
    refine ⟨_, rfl, ?_⟩
    split
    · exact ⟨a, b, _, es, i, rfl, hb2, by omega, hi, hpl, i0, i1, fun bent L7 _ h1 h2 h3 => hfin _ _ (h1.mono (by omega)) h2 h3⟩
    · exact ⟨a, b, _, es, rfl, hb2, by omega, hi, hpl, fun bent L7 _ h1 h2 h3 => hfin _ _ (h1.mono (by omega)) h2 h3⟩
  · rintro s L' ⟨m, o3, o5, o6, hm, hb, rfl⟩
    refine ⟨trivial, ?_⟩
    simp only [d_law_t4, dVar, dC, dOp, dUn, dNil, dCons, dTup, dLst, dCB, dTest, dAnd, dOr, dNot, dAndV, dOrV, dNotV, dIfE, dChain, sNext, sSeq, sBreak, sCont, sDrop, sRet, sRetN, sIf, gdName, gdNil, gdCons, gdTup, gdSub, sAsg, dCall, xOf, sFor, dSeq, dRng1, dRng2, dI, dI0, dB0, dAdd, dIsN, dNotN, isNon, dIx, dSetL, dNeg, one, two, dLen1, dListOf1, dTupOf1, dAbs1, dIntOf1, dII, marg, dAppend1, dExtend1, dIsi, isA, dSl, dPart, dNoPart, dCut, dLc, dYes, sRaise, sTry, exBy, sPar2, sPar3, dIsBl, dNotBl, dBM, dBM0, dEq, dNe, dIn, dSgn, dLc2, dEnum, dListRg1, dListRg2, dTupRg1, dTupRg2, dStrOf1, dRep, dLenSet, dstart, fnE_nx, fnE_rt, fnE_ex, Nat.zero_le, Nat.reduceLeDiff, decide_true, decide_false, true_or, or_true, false_or, or_false, decide_eq_true_eq, exists_eq_left', exists_eq_left, exists_eq_right, exists_eq_right', Option.some.injEq, List.cons.injEq, D.int.injEq, D.bl.injEq, D.str.injEq, D.tup.injEq, D.lro.injEq, D.ref.injEq, DO.lst.injEq, and_true, true_and, and_false, false_and, exists_false, exists_const, List.getElem?_cons_zero, List.getElem?_cons_succ, List.map_cons, List.map_nil, List.length_cons, List.length_nil, List.replicate_zero, List.replicate_succ, List.append_nil, List.cons_append, List.nil_append, List.set_cons_zero, List.set_cons_succ, Nat.reduceAdd, Nat.reduceSub, Nat.zero_add, reduceIte, Bool.false_eq_true, reduceCtorEq, if_true, if_false, Bool.not_true, Bool.not_false, exists_and_left]
    have hm : m ≤ 300000 := by omega
    refine ⟨a, b, _, rfl, hb, by omega, fun p xs L5 _ hb5 pa hxs hmany => ?_⟩
    refine ⟨_, _, isSeq_ref hxs, ?_⟩
    refine forD_mem (fun s L' => BagAt (m + 10) L' a b ∧ L' p = some (.lst xs) ∧ ∃ o7 o8 o9, s = [some (.lro (ns.map .int)), some (.ref a), some (.tup es), o3, none, o5, o6, o7, o8, o9]) _ ?_ ?_ _ _ ⟨hb5, hxs, none, none, none, rfl⟩
    · rintro d hd s L6 P hP ⟨hb6, hx6, o7, o8, o9, rfl⟩
      refine ⟨hx6, ?_⟩
      obtain ⟨t, c, rfl, ht, hc⟩ := hmany d hd
      simp only [dVar, dC, dOp, dUn, dNil, dCons, dTup, dLst, dCB, dTest, dAnd, dOr, dNot, dAndV, dOrV, dNotV, dIfE, dChain, sNext, sSeq, sBreak, sCont, sDrop, sRet, sRetN, sIf, gdName, gdNil, gdCons, gdTup, gdSub, sAsg, dCall, xOf, sFor, dSeq, dRng1, dRng2, dI, dI0, dB0, dAdd, dIsN, dNotN, isNon, dIx, dSetL, dNeg, one, two, dLen1, dListOf1, dTupOf1, dAbs1, dIntOf1, dII, marg, dAppend1, dExtend1, dIsi, isA, dSl, dPart, dNoPart, dCut, dLc, dYes, sRaise, sTry, exBy, sPar2, sPar3, dIsBl, dNotBl, dBM, dBM0, dEq, dNe, dIn, dSgn, dLc2, dEnum, dListRg1, dListRg2, dTupRg1, dTupRg2, dStrOf1, dRep, dLenSet, dstart, fnE_nx, fnE_rt, fnE_ex, Nat.zero_le, Nat.reduceLeDiff, decide_true, decide_false, true_or, or_true, false_or, or_false, decide_eq_true_eq, exists_eq_left', exists_eq_left, exists_eq_right, exists_eq_right', Option.some.injEq, List.cons.injEq, D.int.injEq, D.bl.injEq, D.str.injEq, D.tup.injEq, D.lro.injEq, D.ref.injEq, DO.lst.injEq, and_true, true_and, and_false, false_and, exists_false, exists_const, List.getElem?_cons_zero, List.getElem?_cons_succ, List.map_cons, List.map_nil, List.length_cons, List.length_nil, List.replicate_zero, List.replicate_succ, List.append_nil, List.cons_append, List.nil_append, List.set_cons_zero, List.set_cons_succ, Nat.reduceAdd, Nat.reduceSub, Nat.zero_add, reduceIte, Bool.false_eq_true, reduceCtorEq, if_true, if_false, Bool.not_true, Bool.not_false, exists_and_left]
      simp only [d_law_b4, dVar, dC, dOp, dUn, dNil, dCons, dTup, dLst, dCB, dTest, dAnd, dOr, dNot, dAndV, dOrV, dNotV, dIfE, dChain, sNext, sSeq, sBreak, sCont, sDrop, sRet, sRetN, sIf, gdName, gdNil, gdCons, gdTup, gdSub, sAsg, dCall, xOf, sFor, dSeq, dRng1, dRng2, dI, dI0, dB0, dAdd, dIsN, dNotN, isNon, dIx, dSetL, dNeg, one, two, dLen1, dListOf1, dTupOf1, dAbs1, dIntOf1, dII, marg, dAppend1, dExtend1, dIsi, isA, dSl, dPart, dNoPart, dCut, dLc, dYes, sRaise, sTry, exBy, sPar2, sPar3, dIsBl, dNotBl, dBM, dBM0, dEq, dNe, dIn, dSgn, dLc2, dEnum, dListRg1, dListRg2, dTupRg1, dTupRg2, dStrOf1, dRep, dLenSet, dstart, fnE_nx, fnE_rt, fnE_ex, Nat.zero_le, Nat.reduceLeDiff, decide_true, decide_false, true_or, or_true, false_or, or_false, decide_eq_true_eq, exists_eq_left', exists_eq_left, exists_eq_right, exists_eq_right', Option.some.injEq, List.cons.injEq, D.int.injEq, D.bl.injEq, D.str.injEq, D.tup.injEq, D.lro.injEq, D.ref.injEq, DO.lst.injEq, and_true, true_and, and_false, false_and, exists_false, exists_const, List.getElem?_cons_zero, List.getElem?_cons_succ, List.map_cons, List.map_nil, List.length_cons, List.length_nil, List.replicate_zero, List.replicate_succ, List.append_nil, List.cons_append, List.nil_append, List.set_cons_zero, List.set_cons_succ, Nat.reduceAdd, Nat.reduceSub, Nat.zero_add, reduceIte, Bool.false_eq_true, reduceCtorEq, if_true, if_false, Bool.not_true, Bool.not_false, exists_and_left]
      refine ⟨t, rfl, ht.tm (by decide) _, ?_⟩
      rw [hc]
      simp only [d_law_t4b1, dVar, dC, dOp, dUn, dNil, dCons, dTup, dLst, dCB, dTest, dAnd, dOr, dNot, dAndV, dOrV, dNotV, dIfE, dChain, sNext, sSeq, sBreak, sCont, sDrop, sRet, sRetN, sIf, gdName, gdNil, gdCons, gdTup, gdSub, sAsg, dCall, xOf, sFor, dSeq, dRng1, dRng2, dI, dI0, dB0, dAdd, dIsN, dNotN, isNon, dIx, dSetL, dNeg, one, two, dLen1, dListOf1, dTupOf1, dAbs1, dIntOf1, dII, marg, dAppend1, dExtend1, dIsi, isA, dSl, dPart, dNoPart, dCut, dLc, dYes, sRaise, sTry, exBy, sPar2, sPar3, dIsBl, dNotBl, dBM, dBM0, dEq, dNe, dIn, dSgn, dLc2, dEnum, dListRg1, dListRg2, dTupRg1, dTupRg2, dStrOf1, dRep, dLenSet, dstart, fnE_nx, fnE_rt, fnE_ex, Nat.zero_le, Nat.reduceLeDiff, decide_true, decide_false, true_or, or_true, false_or, or_false, decide_eq_true_eq, exists_eq_left', exists_eq_left, exists_eq_right, exists_eq_right', Option.some.injEq, List.cons.injEq, D.int.injEq, D.bl.injEq, D.str.injEq, D.tup.injEq, D.lro.injEq, D.ref.injEq, DO.lst.injEq, and_true, true_and, and_false, false_and, exists_false, exists_const, List.getElem?_cons_zero, List.getElem?_cons_succ, List.map_cons, List.map_nil, List.length_cons, List.length_nil, List.replicate_zero, List.replicate_succ, List.append_nil, List.cons_append, List.nil_append, List.set_cons_zero, List.set_cons_succ, Nat.reduceAdd, Nat.reduceSub, Nat.zero_add, reduceIte, Bool.false_eq_true, reduceCtorEq, if_true, if_false, Bool.not_true, Bool.not_false, exists_and_left]
      refine ⟨true, (eqD_of (pyL_bl (L := L6) 59 c) (pyL_bl (L := L6) 59 c)).trans (by cases c <;> rfl), ?_⟩
      simp only [dVar, dC, dOp, dUn, dNil, dCons, dTup, dLst, dCB, dTest, dAnd, dOr, dNot, dAndV, dOrV, dNotV, dIfE, dChain, sNext, sSeq, sBreak, sCont, sDrop, sRet, sRetN, sIf, gdName, gdNil, gdCons, gdTup, gdSub, sAsg, dCall, xOf, sFor, dSeq, dRng1, dRng2, dI, dI0, dB0, dAdd, dIsN, dNotN, isNon, dIx, dSetL, dNeg, one, two, dLen1, dListOf1, dTupOf1, dAbs1, dIntOf1, dII, marg, dAppend1, dExtend1, dIsi, isA, dSl, dPart, dNoPart, dCut, dLc, dYes, sRaise, sTry, exBy, sPar2, sPar3, dIsBl, dNotBl, dBM, dBM0, dEq, dNe, dIn, dSgn, dLc2, dEnum, dListRg1, dListRg2, dTupRg1, dTupRg2, dStrOf1, dRep, dLenSet, dstart, fnE_nx, fnE_rt, fnE_ex, Nat.zero_le, Nat.reduceLeDiff, decide_true, decide_false, true_or, or_true, false_or, or_false, decide_eq_true_eq, exists_eq_left', exists_eq_left, exists_eq_right, exists_eq_right', Option.some.injEq, List.cons.injEq, D.int.injEq, D.bl.injEq, D.str.injEq, D.tup.injEq, D.lro.injEq, D.ref.injEq, DO.lst.injEq, and_true, true_and, and_false, false_and, exists_false, exists_const, List.getElem?_cons_zero, List.getElem?_cons_succ, List.map_cons, List.map_nil, List.length_cons, List.length_nil, List.replicate_zero, List.replicate_succ, List.append_nil, List.cons_append, List.nil_append, List.set_cons_zero, List.set_cons_succ, Nat.reduceAdd, Nat.reduceSub, Nat.zero_add, reduceIte, Bool.false_eq_true, reduceCtorEq, if_true, if_false, Bool.not_true, Bool.not_false, exists_and_left]
      exact hP _ _ ⟨hb6, hx6, _, _, _, rfl⟩
    · rintro s L6 ⟨hb6, hx6, o7, o8, o9, rfl⟩
      refine ⟨hx6, ?_⟩
      simp only [d_law_t5, dVar, dC, dOp, dUn, dNil, dCons, dTup, dLst, dCB, dTest, dAnd, dOr, dNot, dAndV, dOrV, dNotV, dIfE, dChain, sNext, sSeq, sBreak, sCont, sDrop, sRet, sRetN, sIf, gdName, gdNil, gdCons, gdTup, gdSub, sAsg, dCall, xOf, sFor, dSeq, dRng1, dRng2, dI, dI0, dB0, dAdd, dIsN, dNotN, isNon, dIx, dSetL, dNeg, one, two, dLen1, dListOf1, dTupOf1, dAbs1, dIntOf1, dII, marg, dAppend1, dExtend1, dIsi, isA, dSl, dPart, dNoPart, dCut, dLc, dYes, sRaise, sTry, exBy, sPar2, sPar3, dIsBl, dNotBl, dBM, dBM0, dEq, dNe, dIn, dSgn, dLc2, dEnum, dListRg1, dListRg2, dTupRg1, dTupRg2, dStrOf1, dRep, dLenSet, dstart, fnE_nx, fnE_rt, fnE_ex, Nat.zero_le, Nat.reduceLeDiff, decide_true, decide_false, true_or, or_true, false_or, or_false, decide_eq_true_eq, exists_eq_left', exists_eq_left, exists_eq_right, exists_eq_right', Option.some.injEq, List.cons.injEq, D.int.injEq, D.bl.injEq, D.str.injEq, D.tup.injEq, D.lro.injEq, D.ref.injEq, DO.lst.injEq, and_true, true_and, and_false, false_and, exists_false, exists_const, List.getElem?_cons_zero, List.getElem?_cons_succ, List.map_cons, List.map_nil, List.length_cons, List.length_nil, List.replicate_zero, List.replicate_succ, List.append_nil, List.cons_append, List.nil_append, List.set_cons_zero, List.set_cons_succ, Nat.reduceAdd, Nat.reduceSub, Nat.zero_add, reduceIte, Bool.false_eq_true, reduceCtorEq, if_true, if_false, Bool.not_true, Bool.not_false, exists_and_left]
      intro p1 hp1
      intro p2 hp2
      obtain ⟨_, _, hb7⟩ := hb6.new (o := .lst []) hp1
      obtain ⟨p2a, p2b, hb8⟩ := hb7.new (o := .lst [.tup [], .non, .int 7, .str "proc a 1 { 0 : 0 exit 0 }", .ref p1, .tup [.tup []], .tup [.non], .bl true]) hp2
      simp only [d_law_t6, dVar, dC, dOp, dUn, dNil, dCons, dTup, dLst, dCB, dTest, dAnd, dOr, dNot, dAndV, dOrV, dNotV, dIfE, dChain, sNext, sSeq, sBreak, sCont, sDrop, sRet, sRetN, sIf, gdName, gdNil, gdCons, gdTup, gdSub, sAsg, dCall, xOf, sFor, dSeq, dRng1, dRng2, dI, dI0, dB0, dAdd, dIsN, dNotN, isNon, dIx, dSetL, dNeg, one, two, dLen1, dListOf1, dTupOf1, dAbs1, dIntOf1, dII, marg, dAppend1, dExtend1, dIsi, isA, dSl, dPart, dNoPart, dCut, dLc, dYes, sRaise, sTry, exBy, sPar2, sPar3, dIsBl, dNotBl, dBM, dBM0, dEq, dNe, dIn, dSgn, dLc2, dEnum, dListRg1, dListRg2, dTupRg1, dTupRg2, dStrOf1, dRep, dLenSet, dstart, fnE_nx, fnE_rt, fnE_ex, Nat.zero_le, Nat.reduceLeDiff, decide_true, decide_false, true_or, or_true, false_or, or_false, decide_eq_true_eq, exists_eq_left', exists_eq_left, exists_eq_right, exists_eq_right', Option.some.injEq, List.cons.injEq, D.int.injEq, D.bl.injEq, D.str.injEq, D.tup.injEq, D.lro.injEq, D.ref.injEq, DO.lst.injEq, and_true, true_and, and_false, false_and, exists_false, exists_const, List.getElem?_cons_zero, List.getElem?_cons_succ, List.map_cons, List.map_nil, List.length_cons, List.length_nil, List.replicate_zero, List.replicate_succ, List.append_nil, List.cons_append, List.nil_append, List.set_cons_zero, List.set_cons_succ, Nat.reduceAdd, Nat.reduceSub, Nat.zero_add, reduceIte, Bool.false_eq_true, reduceCtorEq, if_true, if_false, Bool.not_true, Bool.not_false, exists_and_left]
      have n12 : p1 ≠ p2 := fresh_ne updD_same hp2
      have p1a : p1 ≠ a := (hb6.new (o := .lst []) hp1).1
      refine ⟨_, updD_same, a, b, _, _, rfl, hb8, by omega, by show (1 : Int) ≤ 8; decide, big_m (by show (8 : Int) ≤ 1000000000; decide), fun k o k0 k1 hb9 => ?_⟩
      refine ⟨_, by rw [updD_ne p2a, updD_same], ?_⟩
      obtain ⟨u, hu, _, hum⟩ := atI_in (xs := [D.tup [], .non, .int 7, .str "proc a 1 { 0 : 0 exit 0 }", .ref p1, .tup [.tup []], .tup [.non], .bl true]) k0 (by simpa using k1)
      refine ⟨u, hu, ?_⟩
      have hu2 : Tm (upd (upd (upd L6 p1 (.lst [])) p2 (.lst [.tup [], .non, .int 7, .str "proc a 1 { 0 : 0 exit 0 }", .ref p1, .tup [.tup []], .tup [.non], .bl true])) a o) u ∧ isProg u = false := by
        have e0 : Pl 1 (.tup []) := ⟨by simp, by simp⟩
        simp only [List.mem_cons, List.not_mem_nil, or_false] at hum
        rcases hum with rfl | rfl | rfl | rfl | rfl | rfl | rfl | rfl
        · exact ⟨e0.tm (by decide) _, rfl⟩
        · exact ⟨(show Pl 0 .non from trivial).tm (by decide) _, rfl⟩
        · exact ⟨(pl_int (n := 0)).tm (by decide) _, rfl⟩
        · exact ⟨(pl_str (n := 0) (by decide +kernel)).tm (by decide) _, rfl⟩
        · exact ⟨tm_list (n := 0) (es := []) (by rw [updD_ne p1a, updD_ne n12, updD_same]) e0 (by decide), rfl⟩
        · exact ⟨(pl_tup (n := 1) (ds := [.tup []]) (by simp) (fun d hd => by rw [List.mem_singleton] at hd; subst hd; exact e0)).tm (by decide) _, rfl⟩
        · exact ⟨(pl_tup (n := 0) (ds := [.non]) (by simp) (fun d hd => by rw [List.mem_singleton] at hd; subst hd; trivial)).tm (by decide) _, rfl⟩
        · exact ⟨(show Pl 0 (.bl true) from trivial).tm (by decide) _, rfl⟩
      refine ⟨u, rfl, hu2.1, ?_⟩
      rw [hu2.2]
      simp only [dVar, dC, dOp, dUn, dNil, dCons, dTup, dLst, dCB, dTest, dAnd, dOr, dNot, dAndV, dOrV, dNotV, dIfE, dChain, sNext, sSeq, sBreak, sCont, sDrop, sRet, sRetN, sIf, gdName, gdNil, gdCons, gdTup, gdSub, sAsg, dCall, xOf, sFor, dSeq, dRng1, dRng2, dI, dI0, dB0, dAdd, dIsN, dNotN, isNon, dIx, dSetL, dNeg, one, two, dLen1, dListOf1, dTupOf1, dAbs1, dIntOf1, dII, marg, dAppend1, dExtend1, dIsi, isA, dSl, dPart, dNoPart, dCut, dLc, dYes, sRaise, sTry, exBy, sPar2, sPar3, dIsBl, dNotBl, dBM, dBM0, dEq, dNe, dIn, dSgn, dLc2, dEnum, dListRg1, dListRg2, dTupRg1, dTupRg2, dStrOf1, dRep, dLenSet, dstart, fnE_nx, fnE_rt, fnE_ex, Nat.zero_le, Nat.reduceLeDiff, decide_true, decide_false, true_or, or_true, false_or, or_false, decide_eq_true_eq, exists_eq_left', exists_eq_left, exists_eq_right, exists_eq_right', Option.some.injEq, List.cons.injEq, D.int.injEq, D.bl.injEq, D.str.injEq, D.tup.injEq, D.lro.injEq, D.ref.injEq, DO.lst.injEq, and_true, true_and, and_false, false_and, exists_false, exists_const, List.getElem?_cons_zero, List.getElem?_cons_succ, List.map_cons, List.map_nil, List.length_cons, List.length_nil, List.replicate_zero, List.replicate_succ, List.append_nil, List.cons_append, List.nil_append, List.set_cons_zero, List.set_cons_succ, Nat.reduceAdd, Nat.reduceSub, Nat.zero_add, reduceIte, Bool.false_eq_true, reduceCtorEq, if_true, if_false, Bool.not_true, Bool.not_false, exists_and_left]
      simp only [d_law_t7, dVar, dC, dOp, dUn, dNil, dCons, dTup, dLst, dCB, dTest, dAnd, dOr, dNot, dAndV, dOrV, dNotV, dIfE, dChain, sNext, sSeq, sBreak, sCont, sDrop, sRet, sRetN, sIf, gdName, gdNil, gdCons, gdTup, gdSub, sAsg, dCall, xOf, sFor, dSeq, dRng1, dRng2, dI, dI0, dB0, dAdd, dIsN, dNotN, isNon, dIx, dSetL, dNeg, one, two, dLen1, dListOf1, dTupOf1, dAbs1, dIntOf1, dII, marg, dAppend1, dExtend1, dIsi, isA, dSl, dPart, dNoPart, dCut, dLc, dYes, sRaise, sTry, exBy, sPar2, sPar3, dIsBl, dNotBl, dBM, dBM0, dEq, dNe, dIn, dSgn, dLc2, dEnum, dListRg1, dListRg2, dTupRg1, dTupRg2, dStrOf1, dRep, dLenSet, dstart, fnE_nx, fnE_rt, fnE_ex, Nat.zero_le, Nat.reduceLeDiff, decide_true, decide_false, true_or, or_true, false_or, or_false, decide_eq_true_eq, exists_eq_left', exists_eq_left, exists_eq_right, exists_eq_right', Option.some.injEq, List.cons.injEq, D.int.injEq, D.bl.injEq, D.str.injEq, D.tup.injEq, D.lro.injEq, D.ref.injEq, DO.lst.injEq, and_true, true_and, and_false, false_and, exists_false, exists_const, List.getElem?_cons_zero, List.getElem?_cons_succ, List.map_cons, List.map_nil, List.length_cons, List.length_nil, List.replicate_zero, List.replicate_succ, List.append_nil, List.cons_append, List.nil_append, List.set_cons_zero, List.set_cons_succ, Nat.reduceAdd, Nat.reduceSub, Nat.zero_add, reduceIte, Bool.false_eq_true, reduceCtorEq, if_true, if_false, Bool.not_true, Bool.not_false, exists_and_left]
      refine ⟨.tup es, rfl, htm _, ?_⟩
      rw [hi]
      simp only [dVar, dC, dOp, dUn, dNil, dCons, dTup, dLst, dCB, dTest, dAnd, dOr, dNot, dAndV, dOrV, dNotV, dIfE, dChain, sNext, sSeq, sBreak, sCont, sDrop, sRet, sRetN, sIf, gdName, gdNil, gdCons, gdTup, gdSub, sAsg, dCall, xOf, sFor, dSeq, dRng1, dRng2, dI, dI0, dB0, dAdd, dIsN, dNotN, isNon, dIx, dSetL, dNeg, one, two, dLen1, dListOf1, dTupOf1, dAbs1, dIntOf1, dII, marg, dAppend1, dExtend1, dIsi, isA, dSl, dPart, dNoPart, dCut, dLc, dYes, sRaise, sTry, exBy, sPar2, sPar3, dIsBl, dNotBl, dBM, dBM0, dEq, dNe, dIn, dSgn, dLc2, dEnum, dListRg1, dListRg2, dTupRg1, dTupRg2, dStrOf1, dRep, dLenSet, dstart, fnE_nx, fnE_rt, fnE_ex, Nat.zero_le, Nat.reduceLeDiff, decide_true, decide_false, true_or, or_true, false_or, or_false, decide_eq_true_eq, exists_eq_left', exists_eq_left, exists_eq_right, exists_eq_right', Option.some.injEq, List.cons.injEq, D.int.injEq, D.bl.injEq, D.str.injEq, D.tup.injEq, D.lro.injEq, D.ref.injEq, DO.lst.injEq, and_true, true_and, and_false, false_and, exists_false, exists_const, List.getElem?_cons_zero, List.getElem?_cons_succ, List.map_cons, List.map_nil, List.length_cons, List.length_nil, List.replicate_zero, List.replicate_succ, List.append_nil, List.cons_append, List.nil_append, List.set_cons_zero, List.set_cons_succ, Nat.reduceAdd, Nat.reduceSub, Nat.zero_add, reduceIte, Bool.false_eq_true, reduceCtorEq, if_true, if_false, Bool.not_true, Bool.not_false, exists_and_left]
      exact endOf (q _)
end D2

set_option Elab.async false
set_option linter.all false
set_option maxRecDepth 100000
set_option maxHeartbeats 1000000
namespace D2
open PySem PySem.Spec PyProof.Rows L2
def top (i : Nat) : Stmt := PySem.Challenge.pw_callgames_k01_programs_judged.main.body.getD i (.Pass ⟨0, 0, 0, 0⟩)
abbrev s_is_int : Stmt := top 5
theorem sc_is_int : FnScope ["thing"] ["thing"] (defScope s_is_int) := ⟨rfl, rfl, rfl, by decide +kernel, rfl, by decide +kernel, by decide +kernel⟩
abbrev s_within : Stmt := top 6
theorem sc_within : FnScope ["thing", "low", "high"] ["thing", "low", "high"] (defScope s_within) := ⟨rfl, rfl, rfl, by decide +kernel, rfl, by decide +kernel, by decide +kernel⟩
abbrev s_is_row : Stmt := top 7
theorem sc_is_row : FnScope ["thing", "low", "high"] ["thing", "low", "high"] (defScope s_is_row) := ⟨rfl, rfl, rfl, by decide +kernel, rfl, by decide +kernel, by decide +kernel⟩
abbrev s_is_low_name : Stmt := top 8
theorem sc_is_low_name : FnScope ["thing", "sign"] ["thing"] (defScope s_is_low_name) := ⟨rfl, rfl, rfl, by decide +kernel, rfl, by decide +kernel, by decide +kernel⟩
abbrev s_starts_of : Stmt := top 15
theorem sc_starts_of : FnScope ["program", "found", "entry"] ["program"] (defScope s_starts_of) := ⟨rfl, rfl, rfl, by decide +kernel, rfl, by decide +kernel, by decide +kernel⟩
abbrev s_is_head : Stmt := top 16
theorem sc_is_head : FnScope ["thing"] ["thing"] (defScope s_is_head) := ⟨rfl, rfl, rfl, by decide +kernel, rfl, by decide +kernel, by decide +kernel⟩
abbrev s_are_heads : Stmt := top 17
theorem sc_are_heads : FnScope ["thing", "entry"] ["thing"] (defScope s_are_heads) := ⟨rfl, rfl, rfl, by decide +kernel, rfl, by decide +kernel, by decide +kernel⟩
abbrev s_are_places : Stmt := top 18
theorem sc_are_places : FnScope ["thing", "first", "behind", "entry"] ["thing", "first", "behind"] (defScope s_are_places) := ⟨rfl, rfl, rfl, by decide +kernel, rfl, by decide +kernel, by decide +kernel⟩
abbrev s_is_move : Stmt := top 19
theorem sc_is_move : FnScope ["thing", "first", "behind"] ["thing", "first", "behind"] (defScope s_is_move) := ⟨rfl, rfl, rfl, by decide +kernel, rfl, by decide +kernel, by decide +kernel⟩
abbrev s_is_call : Stmt := top 20
theorem sc_is_call : FnScope ["thing", "first", "behind", "exits"] ["thing", "first", "behind", "exits"] (defScope s_is_call) := ⟨rfl, rfl, rfl, by decide +kernel, rfl, by decide +kernel, by decide +kernel⟩
abbrev s_is_exit : Stmt := top 21
theorem sc_is_exit : FnScope ["thing", "many"] ["thing", "many"] (defScope s_is_exit) := ⟨rfl, rfl, rfl, by decide +kernel, rfl, by decide +kernel, by decide +kernel⟩
abbrev s_is_place : Stmt := top 22
theorem sc_is_place : FnScope ["thing", "first", "behind", "exits", "what"] ["thing", "first", "behind", "exits"] (defScope s_is_place) := ⟨rfl, rfl, rfl, by decide +kernel, rfl, by decide +kernel, by decide +kernel⟩
abbrev s_is_program : Stmt := top 23
theorem sc_is_program : FnScope ["thing", "exits", "starts", "index", "entry", "place"] ["thing"] (defScope s_is_program) := ⟨rfl, rfl, rfl, by decide +kernel, rfl, by decide +kernel, by decide +kernel⟩
abbrev s__law_bag : Stmt := top 25
theorem sc__law_bag : FnScope ["script"] ["script"] (defScope s__law_bag) := ⟨rfl, rfl, rfl, by decide +kernel, rfl, by decide +kernel, by decide +kernel⟩
abbrev s__law_pick : Stmt := top 26
theorem sc__law_pick : FnScope ["bag", "many", "got", "at", "cell"] ["bag", "many"] (defScope s__law_pick) := ⟨rfl, rfl, rfl, by decide +kernel, rfl, by decide +kernel, by decide +kernel⟩
abbrev s__law_name : Stmt := top 27
theorem sc__law_name : FnScope ["bag", "used", "small", "word", "k"] ["bag", "used"] (defScope s__law_name) := ⟨rfl, rfl, rfl, by decide +kernel, rfl, by decide +kernel, by decide +kernel⟩
abbrev s__law_nexts : Stmt := top 28
theorem sc__law_nexts : FnScope ["bag", "low", "many", "pool", "found", "k"] ["bag", "low", "many"] (defScope s__law_nexts) := ⟨rfl, rfl, rfl, by decide +kernel, rfl, by decide +kernel, by decide +kernel⟩
abbrev s__law_what : Stmt := top 29
theorem sc__law_what : FnScope ["bag", "heads", "head", "total", "pick", "place", "exits", "other", "e"] ["bag", "heads", "head", "total"] (defScope s__law_what) := ⟨rfl, rfl, rfl, by decide +kernel, rfl, by decide +kernel, by decide +kernel⟩
abbrev s__law_program : Stmt := top 30
theorem sc__law_program : FnScope ["bag", "procs", "exits", "size", "marks", "row", "k", "found", "head", "used", "heads", "total", "many", "places"] ["bag", "procs", "exits", "size", "marks"] (defScope s__law_program) := ⟨rfl, rfl, rfl, by decide +kernel, rfl, by decide +kernel, by decide +kernel⟩
abbrev s__law_flat : Stmt := top 31
theorem sc__law_flat : FnScope ["program", "found", "name", "exits", "places"] ["program"] (defScope s__law_flat) := ⟨rfl, rfl, rfl, by decide +kernel, rfl, by decide +kernel, by decide +kernel⟩
abbrev s__law_bent : Stmt := top 32
theorem sc__law_bent : FnScope ["program", "index", "at", "place", "entry", "name", "exits", "places"] ["program", "index", "at", "place"] (defScope s__law_bent) := ⟨rfl, rfl, rfl, by decide +kernel, rfl, by decide +kernel, by decide +kernel⟩
abbrev s__law_bad_head : Stmt := top 33
theorem sc__law_bad_head : FnScope ["bag", "program", "index", "pick", "names", "name", "exits", "places", "entry"] ["bag", "program", "index"] (defScope s__law_bad_head) := ⟨rfl, rfl, rfl, by decide +kernel, rfl, by decide +kernel, by decide +kernel⟩
abbrev s__law_bad_nexts : Stmt := top 34
theorem sc__law_bad_nexts : FnScope ["bag", "what", "low", "high", "total", "nexts", "at", "others", "pick", "place"] ["bag", "what", "low", "high", "total"] (defScope s__law_bad_nexts) := ⟨rfl, rfl, rfl, by decide +kernel, rfl, by decide +kernel, by decide +kernel⟩
abbrev s__law_bad_what : Stmt := top 35
theorem sc__law_bad_what : FnScope ["bag", "program", "index", "at", "low", "total", "pick", "name", "exits", "places", "mark", "what", "wrong"] ["bag", "program", "index", "at", "low"] (defScope s__law_bad_what) := ⟨rfl, rfl, rfl, by decide +kernel, rfl, by decide +kernel, by decide +kernel⟩
abbrev s__law_bad_place : Stmt := top 36
theorem sc__law_bad_place : FnScope ["bag", "program", "index", "low", "places", "at", "mark", "place", "k"] ["bag", "program"] (defScope s__law_bad_place) := ⟨rfl, rfl, rfl, by decide +kernel, rfl, by decide +kernel, by decide +kernel⟩
abbrev s__law_many : Stmt := top 37
theorem sc__law_many : FnScope ["bag", "found", "count", "total", "half", "pair", "nexts", "k"] ["bag"] (defScope s__law_many) := ⟨rfl, rfl, rfl, by decide +kernel, rfl, by decide +kernel, by decide +kernel⟩
abbrev s_law : Stmt := top 38
theorem sc_law : FnScope ["script", "bag", "program", "k", "others", "index", "bent", "thing", "due", "found"] ["script"] (defScope s_law) := ⟨rfl, rfl, rfl, by decide +kernel, rfl, by decide +kernel, by decide +kernel⟩

theorem ok_is_int {P : Program} {w : World} {K : PySem.W.Frag} {mg : Str → Option Value} {base : Heap} (D : DefAt K mg "is_int" s_is_int) (z_isinstance : mg "isinstance" = none) (z_int : mg "int" = none) (z_bool : mg "bool" = none) : Ok P w K mg base "is_int" (1) ["thing"] sp_is_int := by
  obtain ⟨f, fd, gm, F⟩ := D.ex
  refine ⟨f, fd, Fun.okD (k := 1 - 1) F sc_is_int (len_is_int ) (pure_is_int ) (fun cdv A outer s H E hr => ?_), gm, F.kp, F.binds (ps := ["thing"]) (fun _ _ _ _ _ _ us hl => match us, hl with | [_], _ => rfl), F.lk⟩
  have nd := sc_is_int.nd
  exact (qss_one (qs_ret (qe_and (q_isi .int z_isinstance z_int (by decide +kernel) (qv 0)) (qe_one (qe_not (q_isi .bool z_isinstance z_bool (by decide +kernel) (qv 0)))))))

theorem ok_within {P : Program} {w : World} {K : PySem.W.Frag} {mg : Str → Option Value} {base : Heap} (D : DefAt K mg "within" s_within) (o_is_int : Ok P w K mg base "is_int" (1) ["thing"] sp_is_int) : Ok P w K mg base "within" (2) ["thing", "low", "high"] sp_within := by
  obtain ⟨f, fd, gm, F⟩ := D.ex
  refine ⟨f, fd, Fun.okD (k := 2 - 1) F sc_within (len_within ) (pure_within ) (fun cdv A outer s H E hr => ?_), gm, F.kp, F.binds (ps := ["thing", "low", "high"]) (fun _ _ _ _ _ _ us hl => match us, hl with | [_, _, _], _ => rfl), F.lk⟩
  have nd := sc_within.nd
  have tk : Takes (cxOf (L2.CX P w) P w K mg base ["thing", "low", "high"] "within" (defScope s_within) f cdv A outer s H E) (wE E) := takes_of rfl rfl rfl rfl
  exact (qss_one (qs_ret (qe_and (q_callO o_is_int (hr.mono (by omega)) tk (qa_cons (qv 0) qa_nil)) (qe_one (q_chain op_le op_le opd_B0 opd_B0 (qv 1) (qv 0) (qv 2))))))

theorem ok_is_row {P : Program} {w : World} {K : PySem.W.Frag} {mg : Str → Option Value} {base : Heap} (D : DefAt K mg "is_row" s_is_row) (z_isinstance : mg "isinstance" = none) (z_tuple : mg "tuple" = none) (z_len : mg "len" = none) : Ok P w K mg base "is_row" (1) ["thing", "low", "high"] sp_is_row := by
  obtain ⟨f, fd, gm, F⟩ := D.ex
  refine ⟨f, fd, Fun.okD (k := 1 - 1) F sc_is_row (len_is_row ) (pure_is_row ) (fun cdv A outer s H E hr => ?_), gm, F.kp, F.binds (ps := ["thing", "low", "high"]) (fun _ _ _ _ _ _ us hl => match us, hl with | [_, _, _], _ => rfl), F.lk⟩
  have nd := sc_is_row.nd
  exact (qss_one (qs_ret (qe_and (q_isi .tup z_isinstance z_tuple (by decide +kernel) (qv 0)) (qe_one (q_chain op_le op_le opd_B0 opd_B0 (qv 1) (q_callB call_len cd_len rfl z_len (by decide +kernel) (qa_cons (qv 0) qa_nil)) (qv 2))))))

theorem ok_is_low_name {P : Program} {w : World} {K : PySem.W.Frag} {mg : Str → Option Value} {base : Heap} (D : DefAt K mg "is_low_name" s_is_low_name) (z_isinstance : mg "isinstance" = none) (z_str : mg "str" = none) (z_len : mg "len" = none) (c_MOST_NAME : ConstOk K mg "MOST_NAME" (.int 10)) (c_WORDS : ConstOk K mg "WORDS" (.tup [(.str "call"), (.str "exit"), (.str "move"), (.str "proc")])) (c_SMALL : ConstOk K mg "SMALL" (.str "abcdefghijklmnopqrstuvwxyz")) (c_DIGITS : ConstOk K mg "DIGITS" (.str "0123456789")) (z_all : mg "all" = none) : Ok P w K mg base "is_low_name" (1) ["thing"] sp_is_low_name := by
  obtain ⟨f, fd, gm, F⟩ := D.ex
  refine ⟨f, fd, Fun.okD (k := 1 - 1) F sc_is_low_name (len_is_low_name ) (pure_is_low_name ) (fun cdv A outer s H E hr => ?_), gm, F.kp, F.binds (ps := ["thing"]) (fun _ _ _ _ _ _ us hl => match us, hl with | [_], _ => rfl), F.lk⟩
  have nd := sc_is_low_name.nd
  have hu := hr.units
  exact (qss_cons (qs_if (QW.qt (qw_or (qt_not (qt_val (q_isi .str z_isinstance z_str (by decide +kernel) (qv 0)))) (qw_or (qt_not (qt_chain op_le op_le opd_B0 opd_B0 q_int (q_callB call_len cd_len rfl z_len (by decide +kernel) (qa_cons (qv 0) qa_nil)) (q_cst c_MOST_NAME))) (qw_or1 (qt_cmp (op_inS.or (op_inP hu)) (opd_in false) (qv 0) (q_cst c_WORDS) rfl))))) (qss_one (qs_ret q_bl)) qss_nil)
  (qss_one (qs_ret (qe_and (q_cmp (op_inS.or (op_inP hu)) (opd_in false) (q_ix ix_seq opd_ix (qv 0) q_int (fun _ _ => rfl)) (q_cst c_SMALL) rfl) (qe_one (q_callB (cr_all rfl) cd_all rfl z_all (by decide +kernel) (qa_cons (qe_lc (own := [("sign", 1)]) rfl nd (qi_sgn (qv 0)) (blkOk_by (N := ["thing", "sign"]) (sc := defScope s_is_low_name) (by decide +kernel)) (fun _ _ _ _ _ => (pg_name (i := 1) nd rfl (by first | exact Or.inl rfl | exact Or.inr rfl))) (lgo_name 1) (fun _ _ _ _ _ => qts_nil) (fun _ _ _ _ _ => (qe_or (q_cmp (op_inS.or (op_inP hu)) (opd_in false) (qv 1) (q_cst c_SMALL) rfl) (qe_one (q_cmp (op_inS.or (op_inP hu)) (opd_in false) (qv 1) (q_cst c_DIGITS) rfl))))) qa_nil)))))))

theorem ok_starts_of {P : Program} {w : World} {K : PySem.W.Frag} {mg : Str → Option Value} {base : Heap} (D : DefAt K mg "starts_of" s_starts_of) (z_len : mg "len" = none) : Ok P w K mg base "starts_of" (1) ["program"] sp_starts_of := by
  obtain ⟨f, fd, gm, F⟩ := D.ex
  refine ⟨f, fd, Fun.okD (k := 1 - 1) F sc_starts_of (len_starts_of ) (pure_starts_of ) (fun cdv A outer s H E hr => ?_), gm, F.kp, F.binds (ps := ["program"]) (fun _ _ _ _ _ _ us hl => match us, hl with | [_], _ => rfl), F.lk⟩
  have nd := sc_starts_of.nd
  exact (qss_cons (qs_set (i := 1) nd (q_lst (qa_cons q_int qa_nil)))
  (qss_cons (qs_for (passes_of rfl) rfl (qi_seq (qv 0)) (qg_name 2 nd)
  (qss_one (qs_expr (q_bm PySem.F.plainAttrs_list PySem.F.slot_list_append PySem.F.type_list_append mt_append chkL_ok md_append (qv 1) (qa_cons (q_op op_addAll opd_add (q_ix ix_seq opd_ix (qv 1) (q_un un_neg und_neg q_int) (fun _ _ => rfl)) (q_callB call_len cd_len rfl z_len (by decide +kernel) (qa_cons (q_ix ix_seq opd_ix (qv 2) q_int (fun _ _ => rfl)) qa_nil))) qa_nil)))))
  (qss_one (qs_ret (qv 1)))))

theorem ok_is_head {P : Program} {w : World} {K : PySem.W.Frag} {mg : Str → Option Value} {base : Heap} (D : DefAt K mg "is_head" s_is_head) (o_is_row : Ok P w K mg base "is_row" (1) ["thing", "low", "high"] sp_is_row) (o_is_low_name : Ok P w K mg base "is_low_name" (1) ["thing"] sp_is_low_name) (c_MOST_EXITS : ConstOk K mg "MOST_EXITS" (.int 24)) (o_within : Ok P w K mg base "within" (2) ["thing", "low", "high"] sp_within) (c_MOST_PLACES : ConstOk K mg "MOST_PLACES" (.int 4000)) : Ok P w K mg base "is_head" (3) ["thing"] sp_is_head := by
  obtain ⟨f, fd, gm, F⟩ := D.ex
  refine ⟨f, fd, Fun.okD (k := 3 - 1) F sc_is_head (len_is_head ) (pure_is_head ) (fun cdv A outer s H E hr => ?_), gm, F.kp, F.binds (ps := ["thing"]) (fun _ _ _ _ _ _ us hl => match us, hl with | [_], _ => rfl), F.lk⟩
  have nd := sc_is_head.nd
  have tk : Takes (cxOf (L2.CX P w) P w K mg base ["thing"] "is_head" (defScope s_is_head) f cdv A outer s H E) (wE E) := takes_of rfl rfl rfl rfl
  exact (qss_cons (qs_if (QW.qt (qw_or (qt_not (qt_val (q_callO o_is_row (hr.mono (by omega)) tk (qa_cons (qv 0) (qa_cons q_int (qa_cons q_int qa_nil)))))) (qw_or1 (qt_not (qt_val (q_callO o_is_low_name (hr.mono (by omega)) tk (qa_cons (q_ix ix_seq opd_ix (qv 0) q_int (fun _ _ => rfl)) qa_nil))))))) (qss_one (qs_ret q_bl)) qss_nil)
  (qss_one (qs_ret (qe_and (q_callO o_within (hr.mono (by omega)) tk (qa_cons (q_ix ix_seq opd_ix (qv 0) q_int (fun _ _ => rfl)) (qa_cons q_int (qa_cons (q_cst c_MOST_EXITS) qa_nil)))) (qe_one (q_callO o_is_row (hr.mono (by omega)) tk (qa_cons (q_ix ix_seq opd_ix (qv 0) q_int (fun _ _ => rfl)) (qa_cons q_int (qa_cons (q_cst c_MOST_PLACES) qa_nil)))))))))

theorem ok_are_heads {P : Program} {w : World} {K : PySem.W.Frag} {mg : Str → Option Value} {base : Heap} (D : DefAt K mg "are_heads" s_are_heads) (c_MOST_PROCEDURES : ConstOk K mg "MOST_PROCEDURES" (.int 60)) (o_is_row : Ok P w K mg base "is_row" (1) ["thing", "low", "high"] sp_is_row) (o_is_head : Ok P w K mg base "is_head" (3) ["thing"] sp_is_head) (z_all : mg "all" = none) (z_len : mg "len" = none) (z_set : mg "set" = none) (z_sum : mg "sum" = none) (c_MOST_PLACES : ConstOk K mg "MOST_PLACES" (.int 4000)) : Ok P w K mg base "are_heads" (4) ["thing"] sp_are_heads := by
  obtain ⟨f, fd, gm, F⟩ := D.ex
  refine ⟨f, fd, Fun.okD (k := 4 - 1) F sc_are_heads (len_are_heads ) (pure_are_heads ) (fun cdv A outer s H E hr => ?_), gm, F.kp, F.binds (ps := ["thing"]) (fun _ _ _ _ _ _ us hl => match us, hl with | [_], _ => rfl), F.lk⟩
  have nd := sc_are_heads.nd
  have tk : Takes (cxOf (L2.CX P w) P w K mg base ["thing", "entry"] "are_heads" (defScope s_are_heads) f cdv A outer s H E) (wE E) := takes_of rfl rfl rfl rfl
  exact (qss_cons (qs_if (QW.qt (qw_or (qt_not (qt_val (q_callO o_is_row (hr.mono (by omega)) tk (qa_cons (qv 0) (qa_cons q_int (qa_cons (q_cst c_MOST_PROCEDURES) qa_nil)))))) (qw_or1 (qt_not (qt_val (q_callB (cr_all rfl) cd_all rfl z_all (by decide +kernel) (qa_cons (qe_lc (own := [("entry", 1)]) rfl nd (qi_seq (qv 0)) (blkOk_by (N := ["thing", "entry"]) (sc := defScope s_are_heads) (by decide +kernel)) (fun _ _ _ _ _ => (pg_name (i := 1) nd rfl (by first | exact Or.inl rfl | exact Or.inr rfl))) (lgo_name 1) (fun _ _ _ _ _ => qts_nil) (fun _ _ _ _ _ => (q_callO o_is_head (hr.mono (by omega)) takes0 (qa_cons (qv 1) qa_nil)))) qa_nil))))))) (qss_one (qs_ret q_bl)) qss_nil)
  (qss_cons (qs_if (qt_cmp op_lt opd_B0 (q_lenSet z_len z_set (qe_lc (own := [("entry", 1)]) rfl nd (qi_seq (qv 0)) (blkOk_by (N := ["thing", "entry"]) (sc := defScope s_are_heads) (by decide +kernel)) (fun _ _ _ _ _ => (pg_name (i := 1) nd rfl (by first | exact Or.inl rfl | exact Or.inr rfl))) (lgo_name 1) (fun _ _ _ _ _ => qts_nil) (fun _ _ _ _ _ => (q_ix ix_seq opd_ix (qv 1) q_int (fun _ _ => rfl))))) (q_callB call_len cd_len rfl z_len (by decide +kernel) (qa_cons (qv 0) qa_nil)) (nomark _)) (qss_one (qs_ret q_bl)) qss_nil)
  (qss_one (qs_ret (q_cmp op_le opd_B0 (q_callB (cr_sum rfl) cd_sum rfl z_sum (by decide +kernel) (qa_cons (qe_lc (own := [("entry", 1)]) rfl nd (qi_seq (qv 0)) (blkOk_by (N := ["thing", "entry"]) (sc := defScope s_are_heads) (by decide +kernel)) (fun _ _ _ _ _ => (pg_name (i := 1) nd rfl (by first | exact Or.inl rfl | exact Or.inr rfl))) (lgo_name 1) (fun _ _ _ _ _ => qts_nil) (fun _ _ _ _ _ => (q_callB call_len cd_len rfl z_len (by decide +kernel) (qa_cons (q_ix ix_seq opd_ix (qv 1) q_int (fun _ _ => rfl)) qa_nil)))) qa_nil)) (q_cst c_MOST_PLACES) (nomark _))))))

theorem ok_are_places {P : Program} {w : World} {K : PySem.W.Frag} {mg : Str → Option Value} {base : Heap} (D : DefAt K mg "are_places" s_are_places) (o_within : Ok P w K mg base "within" (2) ["thing", "low", "high"] sp_within) (z_all : mg "all" = none) : Ok P w K mg base "are_places" (3) ["thing", "first", "behind"] sp_are_places := by
  obtain ⟨f, fd, gm, F⟩ := D.ex
  refine ⟨f, fd, Fun.okD (k := 3 - 1) F sc_are_places (len_are_places ) (pure_are_places ) (fun cdv A outer s H E hr => ?_), gm, F.kp, F.binds (ps := ["thing", "first", "behind"]) (fun _ _ _ _ _ _ us hl => match us, hl with | [_, _, _], _ => rfl), F.lk⟩
  have nd := sc_are_places.nd
  exact (qss_one (qs_ret (q_callB (cr_all rfl) cd_all rfl z_all (by decide +kernel) (qa_cons (qe_lc (own := [("entry", 3)]) rfl nd (qi_seq (qv 0)) (blkOk_by (N := ["thing", "first", "behind", "entry"]) (sc := defScope s_are_places) (by decide +kernel)) (fun _ _ _ _ _ => (pg_name (i := 3) nd rfl (by first | exact Or.inl rfl | exact Or.inr rfl))) (lgo_name 3) (fun _ _ _ _ _ => qts_nil) (fun _ _ _ _ _ => (q_callO o_within (hr.mono (by omega)) takes0 (qa_cons (qv 3) (qa_cons (qv 1) (qa_cons (q_op op_sub opd_I0 (qv 2) q_int) qa_nil)))))) qa_nil))))

theorem ok_is_move {P : Program} {w : World} {K : PySem.W.Frag} {mg : Str → Option Value} {base : Heap} (D : DefAt K mg "is_move" s_is_move) (o_is_row : Ok P w K mg base "is_row" (1) ["thing", "low", "high"] sp_is_row) (o_within : Ok P w K mg base "within" (2) ["thing", "low", "high"] sp_within) (c_MOST_NEXTS : ConstOk K mg "MOST_NEXTS" (.int 8)) (o_are_places : Ok P w K mg base "are_places" (3) ["thing", "first", "behind"] sp_are_places) (z_len : mg "len" = none) (z_set : mg "set" = none) : Ok P w K mg base "is_move" (4) ["thing", "first", "behind"] sp_is_move := by
  obtain ⟨f, fd, gm, F⟩ := D.ex
  refine ⟨f, fd, Fun.okD (k := 4 - 1) F sc_is_move (len_is_move ) (pure_is_move ) (fun cdv A outer s H E hr => ?_), gm, F.kp, F.binds (ps := ["thing", "first", "behind"]) (fun _ _ _ _ _ _ us hl => match us, hl with | [_, _, _], _ => rfl), F.lk⟩
  have nd := sc_is_move.nd
  have hu := hr.units
  have tk : Takes (cxOf (L2.CX P w) P w K mg base ["thing", "first", "behind"] "is_move" (defScope s_is_move) f cdv A outer s H E) (wE E) := takes_of rfl rfl rfl rfl
  exact (qss_cons (qs_if (QW.qt (qw_or (qt_not (qt_val (q_callO o_is_row (hr.mono (by omega)) tk (qa_cons (qv 0) (qa_cons q_int (qa_cons q_int qa_nil)))))) (qw_or (qt_cmp (op_neD hu) opd_ne (q_ix ix_seq opd_ix (qv 0) q_int (fun _ _ => rfl)) q_str (nomark _)) (qw_or1 (qt_not (qt_val (q_callO o_within (hr.mono (by omega)) tk (qa_cons (q_ix ix_seq opd_ix (qv 0) q_int (fun _ _ => rfl)) (qa_cons q_int (qa_cons q_int qa_nil)))))))))) (qss_one (qs_ret q_bl)) qss_nil)
  (qss_cons (qs_if (QW.qt (qw_or (qt_not (qt_val (q_callO o_is_row (hr.mono (by omega)) tk (qa_cons (q_ix ix_seq opd_ix (qv 0) q_int (fun _ _ => rfl)) (qa_cons q_int (qa_cons (q_cst c_MOST_NEXTS) qa_nil)))))) (qw_or1 (qt_not (qt_val (q_callO o_are_places (hr.mono (by omega)) tk (qa_cons (q_ix ix_seq opd_ix (qv 0) q_int (fun _ _ => rfl)) (qa_cons (qv 1) (qa_cons (qv 2) qa_nil))))))))) (qss_one (qs_ret q_bl)) qss_nil)
  (qss_one (qs_ret (q_cmp (op_eqD hu) opd_eq (q_lenSet z_len z_set (q_ix ix_seq opd_ix (qv 0) q_int (fun _ _ => rfl))) (q_callB call_len cd_len rfl z_len (by decide +kernel) (qa_cons (q_ix ix_seq opd_ix (qv 0) q_int (fun _ _ => rfl)) qa_nil)) (nomark _))))))

theorem ok_is_call {P : Program} {w : World} {K : PySem.W.Frag} {mg : Str → Option Value} {base : Heap} (D : DefAt K mg "is_call" s_is_call) (o_is_row : Ok P w K mg base "is_row" (1) ["thing", "low", "high"] sp_is_row) (z_len : mg "len" = none) (o_within : Ok P w K mg base "within" (2) ["thing", "low", "high"] sp_within) (o_are_places : Ok P w K mg base "are_places" (3) ["thing", "first", "behind"] sp_are_places) : Ok P w K mg base "is_call" (4) ["thing", "first", "behind", "exits"] sp_is_call := by
  obtain ⟨f, fd, gm, F⟩ := D.ex
  refine ⟨f, fd, Fun.okD (k := 4 - 1) F sc_is_call (len_is_call ) (pure_is_call ) (fun cdv A outer s H E hr => ?_), gm, F.kp, F.binds (ps := ["thing", "first", "behind", "exits"]) (fun _ _ _ _ _ _ us hl => match us, hl with | [_, _, _, _], _ => rfl), F.lk⟩
  have nd := sc_is_call.nd
  have hu := hr.units
  have tk : Takes (cxOf (L2.CX P w) P w K mg base ["thing", "first", "behind", "exits"] "is_call" (defScope s_is_call) f cdv A outer s H E) (wE E) := takes_of rfl rfl rfl rfl
  exact (qss_cons (qs_if (QW.qt (qw_or (qt_not (qt_val (q_callO o_is_row (hr.mono (by omega)) tk (qa_cons (qv 0) (qa_cons q_int (qa_cons q_int qa_nil)))))) (qw_or (qt_cmp (op_neD hu) opd_ne (q_ix ix_seq opd_ix (qv 0) q_int (fun _ _ => rfl)) q_str (nomark _)) (qw_or1 (qt_not (qt_val (q_callO o_within (hr.mono (by omega)) tk (qa_cons (q_ix ix_seq opd_ix (qv 0) q_int (fun _ _ => rfl)) (qa_cons q_int (qa_cons (q_op op_sub opd_I0 (q_callB call_len cd_len rfl z_len (by decide +kernel) (qa_cons (qv 3) qa_nil)) q_int) qa_nil)))))))))) (qss_one (qs_ret q_bl)) qss_nil)
  (qss_one (qs_ret (qe_and (q_callO o_is_row (hr.mono (by omega)) tk (qa_cons (q_ix ix_seq opd_ix (qv 0) q_int (fun _ _ => rfl)) (qa_cons (q_ix ix_seq opd_ix (qv 3) (q_ix ix_seq opd_ix (qv 0) q_int (fun _ _ => rfl)) (fun _ _ => rfl)) (qa_cons (q_ix ix_seq opd_ix (qv 3) (q_ix ix_seq opd_ix (qv 0) q_int (fun _ _ => rfl)) (fun _ _ => rfl)) qa_nil)))) (qe_one (q_callO o_are_places (hr.mono (by omega)) tk (qa_cons (q_ix ix_seq opd_ix (qv 0) q_int (fun _ _ => rfl)) (qa_cons (qv 1) (qa_cons (qv 2) qa_nil)))))))))

theorem ok_is_exit {P : Program} {w : World} {K : PySem.W.Frag} {mg : Str → Option Value} {base : Heap} (D : DefAt K mg "is_exit" s_is_exit) (o_is_row : Ok P w K mg base "is_row" (1) ["thing", "low", "high"] sp_is_row) (o_within : Ok P w K mg base "within" (2) ["thing", "low", "high"] sp_within) : Ok P w K mg base "is_exit" (3) ["thing", "many"] sp_is_exit := by
  obtain ⟨f, fd, gm, F⟩ := D.ex
  refine ⟨f, fd, Fun.okD (k := 3 - 1) F sc_is_exit (len_is_exit ) (pure_is_exit ) (fun cdv A outer s H E hr => ?_), gm, F.kp, F.binds (ps := ["thing", "many"]) (fun _ _ _ _ _ _ us hl => match us, hl with | [_, _], _ => rfl), F.lk⟩
  have nd := sc_is_exit.nd
  have hu := hr.units
  have tk : Takes (cxOf (L2.CX P w) P w K mg base ["thing", "many"] "is_exit" (defScope s_is_exit) f cdv A outer s H E) (wE E) := takes_of rfl rfl rfl rfl
  exact (qss_one (qs_ret (qe_and (q_callO o_is_row (hr.mono (by omega)) tk (qa_cons (qv 0) (qa_cons q_int (qa_cons q_int qa_nil)))) (qe_and (q_cmp (op_eqD hu) opd_eq (q_ix ix_seq opd_ix (qv 0) q_int (fun _ _ => rfl)) q_str (nomark _)) (qe_one (q_callO o_within (hr.mono (by omega)) tk (qa_cons (q_ix ix_seq opd_ix (qv 0) q_int (fun _ _ => rfl)) (qa_cons q_int (qa_cons (q_op op_sub opd_I0 (qv 1) q_int) qa_nil)))))))))

theorem ok_is_place {P : Program} {w : World} {K : PySem.W.Frag} {mg : Str → Option Value} {base : Heap} (D : DefAt K mg "is_place" s_is_place) (o_is_row : Ok P w K mg base "is_row" (1) ["thing", "low", "high"] sp_is_row) (c_MOST_MARK : ConstOk K mg "MOST_MARK" (.int 9)) (o_within : Ok P w K mg base "within" (2) ["thing", "low", "high"] sp_within) (o_is_move : Ok P w K mg base "is_move" (4) ["thing", "first", "behind"] sp_is_move) (o_is_call : Ok P w K mg base "is_call" (4) ["thing", "first", "behind", "exits"] sp_is_call) (o_is_exit : Ok P w K mg base "is_exit" (3) ["thing", "many"] sp_is_exit) : Ok P w K mg base "is_place" (5) ["thing", "first", "behind", "exits"] sp_is_place := by
  obtain ⟨f, fd, gm, F⟩ := D.ex
  refine ⟨f, fd, Fun.okD (k := 5 - 1) F sc_is_place (len_is_place ) (pure_is_place ) (fun cdv A outer s H E hr => ?_), gm, F.kp, F.binds (ps := ["thing", "first", "behind", "exits"]) (fun _ _ _ _ _ _ us hl => match us, hl with | [_, _, _, _], _ => rfl), F.lk⟩
  have nd := sc_is_place.nd
  have tk : Takes (cxOf (L2.CX P w) P w K mg base ["thing", "first", "behind", "exits", "what"] "is_place" (defScope s_is_place) f cdv A outer s H E) (wE E) := takes_of rfl rfl rfl rfl
  exact (qss_cons (qs_if (QW.qt (qw_or (qt_not (qt_val (q_callO o_is_row (hr.mono (by omega)) tk (qa_cons (qv 0) (qa_cons q_int (qa_cons q_int qa_nil)))))) (qw_or1 (qt_not (qt_val (q_callO o_within (hr.mono (by omega)) tk (qa_cons (q_ix ix_seq opd_ix (qv 0) q_int (fun _ _ => rfl)) (qa_cons q_int (qa_cons (q_cst c_MOST_MARK) qa_nil))))))))) (qss_one (qs_ret q_bl)) qss_nil)
  (qss_cons (qs_set (i := 4) nd (q_ix ix_seq opd_ix (qv 0) q_int (fun _ _ => rfl)))
  (qss_one (qs_ret (qe_or (q_callO o_is_move (hr.mono (by omega)) tk (qa_cons (qv 4) (qa_cons (qv 1) (qa_cons (qv 2) qa_nil)))) (qe_or (q_callO o_is_call (hr.mono (by omega)) tk (qa_cons (qv 4) (qa_cons (qv 1) (qa_cons (qv 2) (qa_cons (qv 3) qa_nil))))) (qe_one (q_callO o_is_exit (hr.mono (by omega)) tk (qa_cons (qv 4) (qa_cons (q_ix ix_seq opd_ix (qv 3) (qv 1) (fun _ _ => rfl)) qa_nil))))))))))

theorem ok_is_program {P : Program} {w : World} {K : PySem.W.Frag} {mg : Str → Option Value} {base : Heap} (D : DefAt K mg "is_program" s_is_program) (o_are_heads : Ok P w K mg base "are_heads" (4) ["thing"] sp_are_heads) (o_starts_of : Ok P w K mg base "starts_of" (1) ["program"] sp_starts_of) (z_enumerate : mg "enumerate" = none) (o_is_place : Ok P w K mg base "is_place" (5) ["thing", "first", "behind", "exits"] sp_is_place) : Ok P w K mg base "is_program" (6) ["thing"] sp_is_program := by
  obtain ⟨f, fd, gm, F⟩ := D.ex
  refine ⟨f, fd, Fun.okD (k := 6 - 1) F sc_is_program (len_is_program ) (pure_is_program ) (fun cdv A outer s H E hr => ?_), gm, F.kp, F.binds (ps := ["thing"]) (fun _ _ _ _ _ _ us hl => match us, hl with | [_], _ => rfl), F.lk⟩
  have nd := sc_is_program.nd
  have tk : Takes (cxOf (L2.CX P w) P w K mg base ["thing", "exits", "starts", "index", "entry", "place"] "is_program" (defScope s_is_program) f cdv A outer s H E) (wE E) := takes_of rfl rfl rfl rfl
  exact (qss_cons (qs_if (qt_not (qt_val (q_callO o_are_heads (hr.mono (by omega)) tk (qa_cons (qv 0) qa_nil)))) (qss_one (qs_ret q_bl)) qss_nil)
  (qss_cons (qs_setLc2 (i := 1) (own := [("entry", 4), ("place", 5)]) (vs1 := [5]) rfl nd (qi_seq (qv 0)) (blkOk_by (N := ["thing", "exits", "starts", "index", "entry", "place"]) (sc := defScope s_is_program) (by decide +kernel)) (by decide) (fun _ _ _ _ _ => (pg_name (i := 4) nd rfl (by first | exact Or.inl rfl | exact Or.inr rfl))) (lgo_name 4) (fun _ _ _ _ _ => qts_nil) (fun _ _ _ _ _ => (qi_seq (q_ix ix_seq opd_ix (qv 4) q_int (fun _ _ => rfl)))) (fun _ _ _ _ _ => (pg_name (i := 5) nd rfl (by first | exact Or.inl rfl | exact Or.inr rfl))) (lgo_name 5) (fun _ _ _ _ _ => qts_nil) (fun _ _ _ _ _ => (q_ix ix_seq opd_ix (qv 4) q_int (fun _ _ => rfl))) (sw_true rfl rfl rfl (by decide +kernel)))
  (qss_cons (qs_set (i := 2) nd (q_callO o_starts_of (hr.mono (by omega)) tk (qa_cons (qv 0) qa_nil)))
  (qss_cons (qs_for (passes_of rfl) rfl (qi_enum z_enumerate (qa_cons (qv 0) qa_nil)) (qg_tup rfl (qgs_cons (qg_name 3 nd) (qgs_cons (qg_name 4 nd) qgs_nil)))
  (qss_one (qs_for (passes_of rfl) rfl (qi_seq (q_ix ix_seq opd_ix (qv 4) q_int (fun _ _ => rfl))) (qg_name 5 nd)
  (qss_one (qs_if (qt_not (qt_val (q_callO o_is_place (hr.mono (by omega)) tk (qa_cons (qv 5) (qa_cons (q_ix ix_seq opd_ix (qv 2) (qv 3) (fun _ _ => rfl)) (qa_cons (q_ix ix_seq opd_ix (qv 2) (q_op op_addAll opd_add (qv 3) q_int) (fun _ _ => rfl)) (qa_cons (qv 1) qa_nil))))))) (qss_one (qs_ret q_bl)) qss_nil)))))
  (qss_one (qs_ret q_bl))))))

theorem ok__law_bag {P : Program} {w : World} {K : PySem.W.Frag} {mg : Str → Option Value} {base : Heap} (D : DefAt K mg "_law_bag" s__law_bag) (z_list : mg "list" = none) : Ok P w K mg base "_law_bag" (1) ["script"] sp_law_bag := by
  obtain ⟨f, fd, gm, F⟩ := D.ex
  refine ⟨f, fd, Fun.okD (k := 1 - 1) F sc__law_bag (len_law_bag ) (pure_law_bag ) (fun cdv A outer s H E hr => ?_), gm, F.kp, F.binds (ps := ["script"]) (fun _ _ _ _ _ _ us hl => match us, hl with | [_], _ => rfl), F.lk⟩
  have nd := sc__law_bag.nd
  exact (qss_one (qs_ret (q_lst (qa_cons (q_callTy call_list_of cd_list rfl z_list (by decide +kernel) (qa_cons (qv 0) qa_nil)) (qa_cons q_int (qa_cons q_int (qa_cons q_int qa_nil)))))))

theorem ok__law_pick {P : Program} {w : World} {K : PySem.W.Frag} {mg : Str → Option Value} {base : Heap} (D : DefAt K mg "_law_pick" s__law_pick) (z_len : mg "len" = none) (z_int : mg "int" = none) : Ok P w K mg base "_law_pick" (1) ["bag", "many"] sp_law_pick := by
  obtain ⟨f, fd, gm, F⟩ := D.ex
  refine ⟨f, fd, Fun.okD (k := 1 - 1) F sc__law_pick (len_law_pick ) (pure_law_pick ) (fun cdv A outer s H E hr => ?_), gm, F.kp, F.binds (ps := ["bag", "many"]) (fun _ _ _ _ _ _ us hl => match us, hl with | [_, _], _ => rfl), F.lk⟩
  have nd := sc__law_pick.nd
  exact (qss_cons (qs_if (qt_cmp op_lt opd_B0 (q_ix ix_seq opd_ix (qv 0) q_int (fun _ _ => rfl)) (qv 1) (nomark _)) (qss_cons (qs_set (i := 3) nd (q_ix ix_seq opd_ix (qv 0) q_int (fun _ _ => rfl)))
  (qss_cons (qs_set (i := 4) nd (qe_if (qt_cmp op_lt opd_B0 (qv 3) (q_callB call_len cd_len rfl z_len (by decide +kernel) (qa_cons (q_ix ix_seq opd_ix (qv 0) q_int (fun _ _ => rfl)) qa_nil)) (nomark _)) (q_ix ix_seq opd_ix (q_ix ix_seq opd_ix (qv 0) q_int (fun _ _ => rfl)) (qv 3) (fun _ _ => rfl)) (q_op op_addAll opd_add (q_op op_fdivW opd_I (q_ix ix_seq opd_ix (qv 0) q_int (fun _ _ => rfl)) q_int) (q_op op_mulA opd_I q_int (qv 3)))))
  (qss_cons (qs_set (i := 4) nd (qe_if (qt_cmp op_ge opd_B0 (qv 4) q_int (nomark _)) (q_op op_mulA opd_I q_int (qv 4)) (q_op op_sub opd_I0 (q_op op_mulA opd_I (q_un un_neg und_neg q_int) (qv 4)) q_int)))
  (qss_cons (qs_if (qt_cmp op_lt opd_B0 (qv 4) (q_op op_powW opd_I q_int q_int) (nomark _)) (qss_cons (qs_set (i := 4) nd (q_op op_mulA opd_I (q_op op_addAll opd_add (q_op op_addAll opd_add (q_op op_mulA opd_I (qv 4) q_int) (q_op op_mulA opd_I q_int (qv 3))) q_int) (q_op op_addAll opd_add (q_op op_addAll opd_add (qv 4) q_int) (qv 3))))
  (qss_one (qs_set (i := 4) nd (q_op op_addAll opd_add (q_op op_fdivW opd_I (q_op op_mulA opd_I (qv 4) (qv 4)) q_int) (q_op op_mulA opd_I (qv 4) q_int))))) qss_nil)
  (qss_cons (qs_asg (q_op op_addAll opd_add (qv 3) q_int) (qg_sub (qv 0) q_int set_list set_d))
  (qss_cons (qs_asg (qv 4) (qg_sub (qv 0) q_int set_list set_d))
  (qss_one (qs_asg (q_op op_mod opd_I (q_callTy call_int1 cd_int rfl z_int (by decide +kernel) (qa_cons (q_op op_addAll opd_add (q_op op_mulA opd_I (q_ix ix_seq opd_ix (qv 0) q_int (fun _ _ => rfl)) q_int) (qv 4)) qa_nil)) q_int) (qg_sub (qv 0) q_int set_list set_d))))))))) qss_nil)
  (qss_cons (qs_set (i := 2) nd (q_op op_mod opd_I (q_callTy call_int1 cd_int rfl z_int (by decide +kernel) (qa_cons (q_ix ix_seq opd_ix (qv 0) q_int (fun _ _ => rfl)) qa_nil)) (qv 1)))
  (qss_cons (qs_asg (q_op op_fdivW opd_I (q_ix ix_seq opd_ix (qv 0) q_int (fun _ _ => rfl)) (qv 1)) (qg_sub (qv 0) q_int set_list set_d))
  (qss_one (qs_ret (qv 2))))))

theorem ok__law_name {P : Program} {w : World} {K : PySem.W.Frag} {mg : Str → Option Value} {base : Heap} (D : DefAt K mg "_law_name" s__law_name) (o__law_pick : Ok P w K mg base "_law_pick" (1) ["bag", "many"] sp_law_pick) (z_range : mg "range" = none) (z_str : mg "str" = none) : Ok P w K mg base "_law_name" (2) ["bag", "used"] sp_law_name := by
  obtain ⟨f, fd, gm, F⟩ := D.ex
  refine ⟨f, fd, Fun.okD (k := 2 - 1) F sc__law_name (len_law_name ) (pure_law_name ) (fun cdv A outer s H E hr => ?_), gm, F.kp, F.binds (ps := ["bag", "used"]) (fun _ _ _ _ _ _ us hl => match us, hl with | [_, _], _ => rfl), F.lk⟩
  have nd := sc__law_name.nd
  have hu := hr.units
  have tk : Takes (cxOf (L2.CX P w) P w K mg base ["bag", "used", "small", "word", "k"] "_law_name" (defScope s__law_name) f cdv A outer s H E) (wE E) := takes_of rfl rfl rfl rfl
  exact (qss_cons (qs_set (i := 2) nd q_str)
  (qss_cons (qs_set (i := 3) nd (q_ix ix_seq opd_ix (qv 2) (q_callO o__law_pick (hr.mono (by omega)) tk (qa_cons (qv 0) (qa_cons q_int qa_nil))) (fun _ _ => rfl)))
  (qss_cons (qs_for (passes_of rfl) rfl (qi_rng1 z_range (qa_cons (q_callO o__law_pick (hr.mono (by omega)) tk (qa_cons (qv 0) (qa_cons q_int qa_nil))) qa_nil)) (qg_name 4 nd)
  (qss_one (qs_set (i := 3) nd (q_op op_addAll opd_add (qv 3) (q_ix ix_seq opd_ix (q_op op_addAll opd_add (qv 2) q_str) (q_callO o__law_pick (hr.mono (by omega)) tk (qa_cons (qv 0) (qa_cons q_int qa_nil))) (fun _ _ => rfl))))))
  (qss_cons (qs_if (QW.qt (qw_or (qt_cmp (op_inS.or (op_inP hu)) (opd_in false) (qv 3) (qv 1) rfl) (qw_or1 (qt_cmp (op_inS.or (op_inP hu)) (opd_in false) (qv 3) (q_tup (qa_cons q_str (qa_cons q_str (qa_cons q_str (qa_cons q_str qa_nil))))) rfl)))) (qss_one (qs_set (i := 3) nd (q_ix ix_seq opd_ix (qe_lc (own := [("k", 4)]) rfl nd (qi_rng1 z_range (qa_cons q_int qa_nil)) (blkOk_by (N := ["bag", "used", "small", "word", "k"]) (sc := defScope s__law_name) (by decide +kernel)) (fun _ _ _ _ _ => (pg_name (i := 4) nd rfl (by first | exact Or.inl rfl | exact Or.inr rfl))) (lgo_name 4) (fun _ _ _ _ _ => (qts_one (qt_cmp (op_ninS.or (op_ninP hu)) (opd_in true) (q_op op_addAll opd_add (q_slice sl_all slok_all (qv 3) qo_none (qo_some q_int)) (q_callTy call_str_int cd_str rfl z_str (by decide +kernel) (qa_cons (qv 4) qa_nil))) (qv 1) rfl))) (fun _ _ _ _ _ => (q_op op_addAll opd_add (q_slice sl_all slok_all (qv 3) qo_none (qo_some q_int)) (q_callTy call_str_int cd_str rfl z_str (by decide +kernel) (qa_cons (qv 4) qa_nil))))) q_int (fun _ _ => rfl)))) qss_nil)
  (qss_cons (qs_expr (q_bm PySem.F.plainAttrs_list PySem.F.slot_list_append PySem.F.type_list_append mt_append chkL_ok md_append (qv 1) (qa_cons (qv 3) qa_nil)))
  (qss_one (qs_ret (qv 3))))))))

theorem ok__law_nexts {P : Program} {w : World} {K : PySem.W.Frag} {mg : Str → Option Value} {base : Heap} (D : DefAt K mg "_law_nexts" s__law_nexts) (z_list : mg "list" = none) (z_range : mg "range" = none) (z_min : mg "min" = none) (o__law_pick : Ok P w K mg base "_law_pick" (1) ["bag", "many"] sp_law_pick) (z_len : mg "len" = none) (z_tuple : mg "tuple" = none) : Ok P w K mg base "_law_nexts" (2) ["bag", "low", "many"] sp_law_nexts := by
  obtain ⟨f, fd, gm, F⟩ := D.ex
  refine ⟨f, fd, Fun.okD (k := 2 - 1) F sc__law_nexts (len_law_nexts ) (pure_law_nexts ) (fun cdv A outer s H E hr => ?_), gm, F.kp, F.binds (ps := ["bag", "low", "many"]) (fun _ _ _ _ _ _ us hl => match us, hl with | [_, _, _], _ => rfl), F.lk⟩
  have nd := sc__law_nexts.nd
  have tk : Takes (cxOf (L2.CX P w) P w K mg base ["bag", "low", "many", "pool", "found", "k"] "_law_nexts" (defScope s__law_nexts) f cdv A outer s H E) (wE E) := takes_of rfl rfl rfl rfl
  exact (qss_cons (qs_set (i := 3) nd (q_listRg2 z_list z_range (qv 1) (q_op op_addAll opd_add (qv 1) (qv 2))))
  (qss_cons (qs_set (i := 4) nd (q_lst qa_nil))
  (qss_cons (qs_for (passes_of rfl) rfl (qi_rng1 z_range (qa_cons (q_op op_addAll opd_add q_int (q_callO o__law_pick (hr.mono (by omega)) tk (qa_cons (qv 0) (qa_cons (q_callB (call_min2 rfl) cd_min2 rfl z_min (by decide +kernel) (qa_cons q_int (qa_cons (qv 2) qa_nil))) qa_nil)))) qa_nil)) (qg_name 5 nd)
  (qss_one (qs_expr (q_bm PySem.F.plainAttrs_list PySem.F.slot_list_append PySem.F.type_list_append mt_append chkL_ok md_append (qv 4) (qa_cons (q_bm PySem.F.plainAttrs_list PySem.F.slot_list_pop PySem.F.type_list_pop mt_popAt chkL_ok md_popAt (qv 3) (qa_cons (q_callO o__law_pick (hr.mono (by omega)) tk (qa_cons (qv 0) (qa_cons (q_callB call_len cd_len rfl z_len (by decide +kernel) (qa_cons (qv 3) qa_nil)) qa_nil))) qa_nil)) qa_nil)))))
  (qss_one (qs_ret (q_callTy call_tuple_of cd_tup rfl z_tuple (by decide +kernel) (qa_cons (qv 4) qa_nil)))))))

theorem ok__law_what {P : Program} {w : World} {K : PySem.W.Frag} {mg : Str → Option Value} {base : Heap} (D : DefAt K mg "_law_what" s__law_what) (o__law_pick : Ok P w K mg base "_law_pick" (1) ["bag", "many"] sp_law_pick) (o__law_nexts : Ok P w K mg base "_law_nexts" (2) ["bag", "low", "many"] sp_law_nexts) (z_range : mg "range" = none) (z_tuple : mg "tuple" = none) : Ok P w K mg base "_law_what" (3) ["bag", "heads", "head", "total"] sp_law_what := by
  obtain ⟨f, fd, gm, F⟩ := D.ex
  refine ⟨f, fd, Fun.okD (k := 3 - 1) F sc__law_what (len_law_what ) (pure_law_what ) (fun cdv A outer s H E hr => ?_), gm, F.kp, F.binds (ps := ["bag", "heads", "head", "total"]) (fun _ _ _ _ _ _ us hl => match us, hl with | [_, _, _, _], _ => rfl), F.lk⟩
  have nd := sc__law_what.nd
  have tk : Takes (cxOf (L2.CX P w) P w K mg base ["bag", "heads", "head", "total", "pick", "place", "exits", "other", "e"] "_law_what" (defScope s__law_what) f cdv A outer s H E) (wE E) := takes_of rfl rfl rfl rfl
  exact (qss_cons (qs_set (i := 4) nd (q_callO o__law_pick (hr.mono (by omega)) tk (qa_cons (qv 0) (qa_cons q_int qa_nil))))
  (qss_cons (qs_if (qt_cmp op_lt opd_B0 (qv 4) q_int (nomark _)) (qss_one (qs_ret (q_tup (qa_cons q_str (qa_cons (q_callO o__law_pick (hr.mono (by omega)) tk (qa_cons (qv 0) (qa_cons q_int qa_nil))) (qa_cons (q_callO o__law_nexts (hr.mono (by omega)) tk (qa_cons (qv 0) (qa_cons (q_ix ix_seq opd_ix (qv 2) q_int (fun _ _ => rfl)) (qa_cons (q_ix ix_seq opd_ix (qv 2) q_int (fun _ _ => rfl)) qa_nil)))) qa_nil)))))) qss_nil)
  (qss_cons (qs_if (qt_cmp op_lt opd_B0 (qv 4) q_int (nomark _)) (qss_cons (qs_set (i := 5) nd (q_callO o__law_pick (hr.mono (by omega)) tk (qa_cons (qv 0) (qa_cons (qv 3) qa_nil))))
  (qss_cons (qs_set (i := 6) nd (q_ix ix_seq opd_ix (qe_lc (own := [("other", 7)]) rfl nd (qi_seq (qv 1)) (blkOk_by (N := ["bag", "heads", "head", "total", "pick", "place", "exits", "other", "e"]) (sc := defScope s__law_what) (by decide +kernel)) (fun _ _ _ _ _ => (pg_name (i := 7) nd rfl (by first | exact Or.inl rfl | exact Or.inr rfl))) (lgo_name 7) (fun _ _ _ _ _ => (qts_one (qt_chain op_le op_lt opd_B0 opd_B0 (q_ix ix_seq opd_ix (qv 7) q_int (fun _ _ => rfl)) (qv 5) (q_op op_addAll opd_add (q_ix ix_seq opd_ix (qv 7) q_int (fun _ _ => rfl)) (q_ix ix_seq opd_ix (qv 7) q_int (fun _ _ => rfl)))))) (fun _ _ _ _ _ => (q_ix ix_seq opd_ix (qv 7) q_int (fun _ _ => rfl)))) q_int (fun _ _ => rfl)))
  (qss_one (qs_ret (q_tup (qa_cons q_str (qa_cons (qv 5) (qa_cons (q_callTy call_tuple_of cd_tup rfl z_tuple (by decide +kernel) (qa_cons (qe_lc (own := [("e", 8)]) rfl nd (qi_rng1 z_range (qa_cons (qv 6) qa_nil)) (blkOk_by (N := ["bag", "heads", "head", "total", "pick", "place", "exits", "other", "e"]) (sc := defScope s__law_what) (by decide +kernel)) (fun _ _ _ _ _ => (pg_name (i := 8) nd rfl (by first | exact Or.inl rfl | exact Or.inr rfl))) (lgo_name 8) (fun _ _ _ _ _ => qts_nil) (fun _ _ _ _ _ => (q_op op_addAll opd_add (q_ix ix_seq opd_ix (qv 2) q_int (fun _ _ => rfl)) (q_callO o__law_pick (hr.mono (by omega)) takes0 (qa_cons (qv 0) (qa_cons (q_ix ix_seq opd_ix (qv 2) q_int (fun _ _ => rfl)) qa_nil)))))) qa_nil)) qa_nil)))))))) qss_nil)
  (qss_one (qs_ret (q_tup (qa_cons q_str (qa_cons (q_callO o__law_pick (hr.mono (by omega)) tk (qa_cons (qv 0) (qa_cons (q_ix ix_seq opd_ix (qv 2) q_int (fun _ _ => rfl)) qa_nil))) qa_nil))))))))

theorem ok__law_program {P : Program} {w : World} {K : PySem.W.Frag} {mg : Str → Option Value} {base : Heap} (D : DefAt K mg "_law_program" s__law_program) (z_range : mg "range" = none) (o__law_pick : Ok P w K mg base "_law_pick" (1) ["bag", "many"] sp_law_pick) (o__law_name : Ok P w K mg base "_law_name" (2) ["bag", "used"] sp_law_name) (o__law_what : Ok P w K mg base "_law_what" (3) ["bag", "heads", "head", "total"] sp_law_what) (z_tuple : mg "tuple" = none) : Ok P w K mg base "_law_program" (4) ["bag", "procs", "exits", "size", "marks"] sp_law_program := by
  obtain ⟨f, fd, gm, F⟩ := D.ex
  refine ⟨f, fd, Fun.okD (k := 4 - 1) F sc__law_program (len_law_program ) (pure_law_program ) (fun cdv A outer s H E hr => ?_), gm, F.kp, F.binds (ps := ["bag", "procs", "exits", "size", "marks"]) (fun _ _ _ _ _ _ us hl => match us, hl with | [_, _, _, _, _], _ => rfl), F.lk⟩
  have nd := sc__law_program.nd
  have tk : Takes (cxOf (L2.CX P w) P w K mg base ["bag", "procs", "exits", "size", "marks", "row", "k", "found", "head", "used", "heads", "total", "many", "places"] "_law_program" (defScope s__law_program) f cdv A outer s H E) (wE E) := takes_of rfl rfl rfl rfl
  exact (qss_cons (qs_set (i := 5) nd (qe_lc (own := [("k", 6)]) rfl nd (qi_rng1 z_range (qa_cons (qv 4) qa_nil)) (blkOk_by (N := ["bag", "procs", "exits", "size", "marks", "row", "k", "found", "head", "used", "heads", "total", "many", "places"]) (sc := defScope s__law_program) (by decide +kernel)) (fun _ _ _ _ _ => (pg_name (i := 6) nd rfl (by first | exact Or.inl rfl | exact Or.inr rfl))) (lgo_name 6) (fun _ _ _ _ _ => qts_nil) (fun _ _ _ _ _ => (q_callO o__law_pick (hr.mono (by omega)) takes0 (qa_cons (qv 0) (qa_cons q_int qa_nil))))))
  (qss_cons (qs_asg (q_tup (qa_cons (q_lst qa_nil) (qa_cons (q_lst qa_nil) (qa_cons q_int qa_nil)))) (qg_tup rfl (qgs_cons (qg_name 9 nd) (qgs_cons (qg_name 10 nd) (qgs_cons (qg_name 11 nd) qgs_nil)))))
  (qss_cons (qs_for (passes_of rfl) rfl (qi_rng1 z_range (qa_cons (q_op op_addAll opd_add q_int (q_callO o__law_pick (hr.mono (by omega)) tk (qa_cons (qv 0) (qa_cons (qv 1) qa_nil)))) qa_nil)) (qg_name 6 nd)
  (qss_cons (qs_set (i := 12) nd (q_op op_addAll opd_add q_int (q_callO o__law_pick (hr.mono (by omega)) tk (qa_cons (qv 0) (qa_cons (qv 3) qa_nil)))))
  (qss_cons (qs_expr (q_bm PySem.F.plainAttrs_list PySem.F.slot_list_append PySem.F.type_list_append mt_append chkL_ok md_append (qv 10) (qa_cons (q_tup (qa_cons (q_callO o__law_name (hr.mono (by omega)) tk (qa_cons (qv 0) (qa_cons (qv 9) qa_nil))) (qa_cons (q_op op_addAll opd_add q_int (q_callO o__law_pick (hr.mono (by omega)) tk (qa_cons (qv 0) (qa_cons (qv 2) qa_nil)))) (qa_cons (qv 11) (qa_cons (qv 12) qa_nil))))) qa_nil)))
  (qss_one (qs_set (i := 11) nd (q_op op_addAll opd_add (qv 11) (qv 12)))))))
  (qss_cons (qs_set (i := 7) nd (q_lst qa_nil))
  (qss_cons (qs_for (passes_of rfl) rfl (qi_seq (qv 10)) (qg_name 8 nd)
  (qss_cons (qs_setLc (i := 13) (own := [("k", 6)]) rfl nd (qi_rng1 z_range (qa_cons (q_ix ix_seq opd_ix (qv 8) q_int (fun _ _ => rfl)) qa_nil)) (blkOk_by (N := ["bag", "procs", "exits", "size", "marks", "row", "k", "found", "head", "used", "heads", "total", "many", "places"]) (sc := defScope s__law_program) (by decide +kernel)) (fun _ _ _ _ _ => (pg_name (i := 6) nd rfl (by first | exact Or.inl rfl | exact Or.inr rfl))) (lgo_name 6) (fun _ _ _ _ _ => qts_nil) (fun _ _ _ _ _ => (q_tup (qa_cons (q_ix ix_seq opd_ix (qv 5) (q_callO o__law_pick (hr.mono (by omega)) takes0 (qa_cons (qv 0) (qa_cons (qv 4) qa_nil))) (fun _ _ => rfl)) (qa_cons (q_callO o__law_what (hr.mono (by omega)) takes0 (qa_cons (qv 0) (qa_cons (qv 10) (qa_cons (qv 8) (qa_cons (qv 11) qa_nil))))) qa_nil)))) (sw_true rfl rfl rfl (by decide +kernel)))
  (qss_one (qs_expr (q_bm PySem.F.plainAttrs_list PySem.F.slot_list_append PySem.F.type_list_append mt_append chkL_ok md_append (qv 7) (qa_cons (q_tup (qa_cons (q_ix ix_seq opd_ix (qv 8) q_int (fun _ _ => rfl)) (qa_cons (q_ix ix_seq opd_ix (qv 8) q_int (fun _ _ => rfl)) (qa_cons (q_callTy call_tuple_of cd_tup rfl z_tuple (by decide +kernel) (qa_cons (qv 13) qa_nil)) qa_nil)))) qa_nil))))))
  (qss_one (qs_ret (q_callTy call_tuple_of cd_tup rfl z_tuple (by decide +kernel) (qa_cons (qv 7) qa_nil)))))))))

theorem ok__law_flat {P : Program} {w : World} {K : PySem.W.Frag} {mg : Str → Option Value} {base : Heap} (D : DefAt K mg "_law_flat" s__law_flat) (z_list : mg "list" = none) : Ok P w K mg base "_law_flat" (1) ["program"] sp_law_flat := by
  obtain ⟨f, fd, gm, F⟩ := D.ex
  refine ⟨f, fd, Fun.okD (k := 1 - 1) F sc__law_flat (len_law_flat ) (pure_law_flat ) (fun cdv A outer s H E hr => ?_), gm, F.kp, F.binds (ps := ["program"]) (fun _ _ _ _ _ _ us hl => match us, hl with | [_], _ => rfl), F.lk⟩
  have nd := sc__law_flat.nd
  exact (qss_cons (qs_set (i := 1) nd (q_lst qa_nil))
  (qss_cons (qs_for (passes_of rfl) rfl (qi_seq (qv 0)) (qg_tup rfl (qgs_cons (qg_name 2 nd) (qgs_cons (qg_name 3 nd) (qgs_cons (qg_name 4 nd) qgs_nil))))
  (qss_one (qs_expr (q_bm PySem.F.plainAttrs_list PySem.F.slot_list_extend PySem.F.type_list_extend mt_extend chkL_ok md_extend (qv 1) (qa_cons (q_callTy call_list_of cd_list rfl z_list (by decide +kernel) (qa_cons (qv 4) qa_nil)) qa_nil)))))
  (qss_one (qs_ret (qv 1)))))

theorem ok__law_bent {P : Program} {w : World} {K : PySem.W.Frag} {mg : Str → Option Value} {base : Heap} (D : DefAt K mg "_law_bent" s__law_bent)  : Ok P w K mg base "_law_bent" (1) ["program", "index", "at", "place"] sp_law_bent := by
  obtain ⟨f, fd, gm, F⟩ := D.ex
  refine ⟨f, fd, Fun.okD (k := 1 - 1) F sc__law_bent (len_law_bent ) (pure_law_bent ) (fun cdv A outer s H E hr => ?_), gm, F.kp, F.binds (ps := ["program", "index", "at", "place"]) (fun _ _ _ _ _ _ us hl => match us, hl with | [_, _, _, _], _ => rfl), F.lk⟩
  have nd := sc__law_bent.nd
  exact (qss_cons (qs_asg (q_ix ix_seq opd_ix (qv 0) (qv 1) (fun _ _ => rfl)) (qg_tup rfl (qgs_cons (qg_name 5 nd) (qgs_cons (qg_name 6 nd) (qgs_cons (qg_name 7 nd) qgs_nil)))))
  (qss_cons (qs_set (i := 4) nd (q_tup (qa_cons (qv 5) (qa_cons (qv 6) (qa_cons (q_op op_addAll opd_add (q_op op_addAll opd_add (q_slice sl_all slok_all (qv 7) qo_none (qo_some (qv 2))) (q_tup (qa_cons (qv 3) qa_nil))) (q_slice sl_all slok_all (qv 7) (qo_some (q_op op_addAll opd_add (qv 2) q_int)) qo_none)) qa_nil)))))
  (qss_one (qs_ret (q_op op_addAll opd_add (q_op op_addAll opd_add (q_slice sl_all slok_all (qv 0) qo_none (qo_some (qv 1))) (q_tup (qa_cons (qv 4) qa_nil))) (q_slice sl_all slok_all (qv 0) (qo_some (q_op op_addAll opd_add (qv 1) q_int)) qo_none))))))

theorem ok__law_bad_head {P : Program} {w : World} {K : PySem.W.Frag} {mg : Str → Option Value} {base : Heap} (D : DefAt K mg "_law_bad_head" s__law_bad_head) (o__law_pick : Ok P w K mg base "_law_pick" (1) ["bag", "many"] sp_law_pick) (z_str : mg "str" = none) (z_list : mg "list" = none) : Ok P w K mg base "_law_bad_head" (2) ["bag", "program", "index"] sp_law_bad_head := by
  obtain ⟨f, fd, gm, F⟩ := D.ex
  refine ⟨f, fd, Fun.okD (k := 2 - 1) F sc__law_bad_head (len_law_bad_head ) (pure_law_bad_head ) (fun cdv A outer s H E hr => ?_), gm, F.kp, F.binds (ps := ["bag", "program", "index"]) (fun _ _ _ _ _ _ us hl => match us, hl with | [_, _, _], _ => rfl), F.lk⟩
  have nd := sc__law_bad_head.nd
  have hu := hr.units
  have tk : Takes (cxOf (L2.CX P w) P w K mg base ["bag", "program", "index", "pick", "names", "name", "exits", "places", "entry"] "_law_bad_head" (defScope s__law_bad_head) f cdv A outer s H E) (wE E) := takes_of rfl rfl rfl rfl
  exact (qss_cons (qs_asg (q_ix ix_seq opd_ix (qv 1) (qv 2) (fun _ _ => rfl)) (qg_tup rfl (qgs_cons (qg_name 5 nd) (qgs_cons (qg_name 6 nd) (qgs_cons (qg_name 7 nd) qgs_nil)))))
  (qss_cons (qs_set (i := 3) nd (q_callO o__law_pick (hr.mono (by omega)) tk (qa_cons (qv 0) (qa_cons q_int qa_nil))))
  (qss_cons (qs_set (i := 4) nd (q_lst (qa_cons q_str (qa_cons q_str (qa_cons q_str (qa_cons q_str (qa_cons q_str (qa_cons q_str (qa_cons q_int (qa_cons q_non (qa_cons (q_op op_addAll opd_add (qv 5) q_str) qa_nil)))))))))))
  (qss_cons (qs_if (qt_cmp op_lt opd_B0 (qv 3) q_int (nomark _)) (qss_one (qs_set (i := 8) nd (q_tup (qa_cons (q_ix ix_seq opd_ix (qv 4) (q_callO o__law_pick (hr.mono (by omega)) tk (qa_cons (qv 0) (qa_cons q_int qa_nil))) (fun _ _ => rfl)) (qa_cons (qv 6) (qa_cons (qv 7) qa_nil)))))) (qss_one (qs_if (qt_cmp op_lt opd_B0 (qv 3) q_int (nomark _)) (qss_one (qs_set (i := 8) nd (q_tup (qa_cons (qv 5) (qa_cons (q_ix ix_seq opd_ix (q_lst (qa_cons q_int (qa_cons q_int (qa_cons (q_un un_neg und_neg q_int) (qa_cons (q_callTy call_str_int cd_str rfl z_str (by decide +kernel) (qa_cons (qv 6) qa_nil)) (qa_cons q_bl qa_nil)))))) (q_callO o__law_pick (hr.mono (by omega)) tk (qa_cons (qv 0) (qa_cons q_int qa_nil))) (fun _ _ => rfl)) (qa_cons (qv 7) qa_nil)))))) (qss_one (qs_if (qt_cmp (op_eqD hu) opd_eq (qv 3) q_int (nomark _)) (qss_one (qs_set (i := 8) nd (q_tup (qa_cons (qv 5) (qa_cons (qv 6) (qa_cons (q_callTy call_list_of cd_list rfl z_list (by decide +kernel) (qa_cons (qv 7) qa_nil)) qa_nil)))))) (qss_one (qs_if (qt_cmp (op_eqD hu) opd_eq (qv 3) q_int (nomark _)) (qss_one (qs_set (i := 8) nd (q_tup (qa_cons (qv 5) (qa_cons (qv 6) (qa_cons (q_tup qa_nil) qa_nil)))))) (qss_one (qs_if (qt_cmp (op_eqD hu) opd_eq (qv 3) q_int (nomark _)) (qss_one (qs_set (i := 8) nd (q_lst (qa_cons (qv 5) (qa_cons (qv 6) (qa_cons (qv 7) qa_nil)))))) (qss_one (qs_if (qt_cmp (op_eqD hu) opd_eq (qv 3) q_int (nomark _)) (qss_one (qs_set (i := 8) nd (q_tup (qa_cons (qv 5) (qa_cons (qv 6) (qa_cons (qv 7) (qa_cons (qv 7) qa_nil))))))) (qss_one (qs_ret (q_op op_addAll opd_add (qv 1) (q_tup (qa_cons (q_ix ix_seq opd_ix (qv 1) (qv 2) (fun _ _ => rfl)) qa_nil))))))))))))))))
  (qss_one (qs_ret (q_op op_addAll opd_add (q_op op_addAll opd_add (q_slice sl_all slok_all (qv 1) qo_none (qo_some (qv 2))) (q_tup (qa_cons (qv 8) qa_nil))) (q_slice sl_all slok_all (qv 1) (qo_some (q_op op_addAll opd_add (qv 2) q_int)) qo_none))))))))

theorem ok__law_bad_nexts {P : Program} {w : World} {K : PySem.W.Frag} {mg : Str → Option Value} {base : Heap} (D : DefAt K mg "_law_bad_nexts" s__law_bad_nexts) (z_len : mg "len" = none) (o__law_pick : Ok P w K mg base "_law_pick" (1) ["bag", "many"] sp_law_pick) (z_range : mg "range" = none) (z_str : mg "str" = none) (z_list : mg "list" = none) : Ok P w K mg base "_law_bad_nexts" (2) ["bag", "what", "low", "high", "total"] sp_law_bad_nexts := by
  obtain ⟨f, fd, gm, F⟩ := D.ex
  refine ⟨f, fd, Fun.okD (k := 2 - 1) F sc__law_bad_nexts (len_law_bad_nexts ) (pure_law_bad_nexts ) (fun cdv A outer s H E hr => ?_), gm, F.kp, F.binds (ps := ["bag", "what", "low", "high", "total"]) (fun _ _ _ _ _ _ us hl => match us, hl with | [_, _, _, _, _], _ => rfl), F.lk⟩
  have nd := sc__law_bad_nexts.nd
  have hu := hr.units
  have tk : Takes (cxOf (L2.CX P w) P w K mg base ["bag", "what", "low", "high", "total", "nexts", "at", "others", "pick", "place"] "_law_bad_nexts" (defScope s__law_bad_nexts) f cdv A outer s H E) (wE E) := takes_of rfl rfl rfl rfl
  exact (qss_cons (qs_set (i := 5) nd (q_ix ix_seq opd_ix (qv 1) q_int (fun _ _ => rfl)))
  (qss_cons (qs_set (i := 6) nd (q_callO o__law_pick (hr.mono (by omega)) tk (qa_cons (qv 0) (qa_cons (q_callB call_len cd_len rfl z_len (by decide +kernel) (qa_cons (qv 5) qa_nil)) qa_nil))))
  (qss_cons (qs_set (i := 7) nd (q_op op_addAll opd_add (qe_lc (own := [("place", 9)]) rfl nd (qi_rng1 z_range (qa_cons (qv 4) qa_nil)) (blkOk_by (N := ["bag", "what", "low", "high", "total", "nexts", "at", "others", "pick", "place"]) (sc := defScope s__law_bad_nexts) (by decide +kernel)) (fun _ _ _ _ _ => (pg_name (i := 9) nd rfl (by first | exact Or.inl rfl | exact Or.inr rfl))) (lgo_name 9) (fun _ _ _ _ _ => (qts_one (qt_not (qt_chain op_le op_lt opd_B0 opd_B0 (qv 2) (qv 9) (qv 3))))) (fun _ _ _ _ _ => (qv 9))) (q_lst (qa_cons (q_un un_neg und_neg q_int) (qa_cons (qv 4) (qa_cons q_bl (qa_cons q_non (qa_cons (q_callTy call_str_int cd_str rfl z_str (by decide +kernel) (qa_cons (qv 2) qa_nil)) qa_nil))))))))
  (qss_cons (qs_set (i := 8) nd (q_callO o__law_pick (hr.mono (by omega)) tk (qa_cons (qv 0) (qa_cons q_int qa_nil))))
  (qss_cons (qs_if (qt_cmp (op_eqD hu) opd_eq (qv 8) q_int (nomark _)) (qss_one (qs_ret (q_callTy call_list_of cd_list rfl z_list (by decide +kernel) (qa_cons (qv 5) qa_nil)))) qss_nil)
  (qss_cons (qs_if (qt_cmp (op_eqD hu) opd_eq (qv 8) q_int (nomark _)) (qss_one (qs_ret (qe_if (qt_cmp (op_eqD hu) opd_eq (q_ix ix_seq opd_ix (qv 1) q_int (fun _ _ => rfl)) q_str (nomark _)) (q_op op_addAll opd_add (q_slice sl_all slok_all (qv 5) qo_none (qo_some (qv 6))) (q_slice sl_all slok_all (qv 5) (qo_some (q_op op_addAll opd_add (qv 6) q_int)) qo_none)) (q_tup qa_nil)))) qss_nil)
  (qss_cons (qs_if (qt_cmp (op_eqD hu) opd_eq (qv 8) q_int (nomark _)) (qss_one (qs_ret (q_op op_addAll opd_add (qv 5) (q_tup (qa_cons (q_ix ix_seq opd_ix (qv 5) (qv 6) (fun _ _ => rfl)) qa_nil))))) qss_nil)
  (qss_one (qs_ret (q_op op_addAll opd_add (q_op op_addAll opd_add (q_slice sl_all slok_all (qv 5) qo_none (qo_some (qv 6))) (q_tup (qa_cons (q_ix ix_seq opd_ix (qv 7) (q_callO o__law_pick (hr.mono (by omega)) tk (qa_cons (qv 0) (qa_cons (q_callB call_len cd_len rfl z_len (by decide +kernel) (qa_cons (qv 7) qa_nil)) qa_nil))) (fun _ _ => rfl)) qa_nil))) (q_slice sl_all slok_all (qv 5) (qo_some (q_op op_addAll opd_add (qv 6) q_int)) qo_none)))))))))))

theorem ok__law_bad_what {P : Program} {w : World} {K : PySem.W.Frag} {mg : Str → Option Value} {base : Heap} (D : DefAt K mg "_law_bad_what" s__law_bad_what) (o__law_flat : Ok P w K mg base "_law_flat" (1) ["program"] sp_law_flat) (z_len : mg "len" = none) (o__law_pick : Ok P w K mg base "_law_pick" (1) ["bag", "many"] sp_law_pick) (z_list : mg "list" = none) (z_str : mg "str" = none) (o__law_bad_nexts : Ok P w K mg base "_law_bad_nexts" (2) ["bag", "what", "low", "high", "total"] sp_law_bad_nexts) : Ok P w K mg base "_law_bad_what" (3) ["bag", "program", "index", "at", "low"] sp_law_bad_what := by
  obtain ⟨f, fd, gm, F⟩ := D.ex
  refine ⟨f, fd, Fun.okD (k := 3 - 1) F sc__law_bad_what (len_law_bad_what ) (pure_law_bad_what ) (fun cdv A outer s H E hr => ?_), gm, F.kp, F.binds (ps := ["bag", "program", "index", "at", "low"]) (fun _ _ _ _ _ _ us hl => match us, hl with | [_, _, _, _, _], _ => rfl), F.lk⟩
  have nd := sc__law_bad_what.nd
  have hu := hr.units
  have tk : Takes (cxOf (L2.CX P w) P w K mg base ["bag", "program", "index", "at", "low", "total", "pick", "name", "exits", "places", "mark", "what", "wrong"] "_law_bad_what" (defScope s__law_bad_what) f cdv A outer s H E) (wE E) := takes_of rfl rfl rfl rfl
  exact (qss_cons (qs_asg (q_ix ix_seq opd_ix (qv 1) (qv 2) (fun _ _ => rfl)) (qg_tup rfl (qgs_cons (qg_name 7 nd) (qgs_cons (qg_name 8 nd) (qgs_cons (qg_name 9 nd) qgs_nil)))))
  (qss_cons (qs_asg (q_ix ix_seq opd_ix (qv 9) (qv 3) (fun _ _ => rfl)) (qg_tup rfl (qgs_cons (qg_name 10 nd) (qgs_cons (qg_name 11 nd) qgs_nil))))
  (qss_cons (qs_set (i := 5) nd (q_callB call_len cd_len rfl z_len (by decide +kernel) (qa_cons (q_callO o__law_flat (hr.mono (by omega)) tk (qa_cons (qv 1) qa_nil)) qa_nil)))
  (qss_cons (qs_set (i := 6) nd (q_callO o__law_pick (hr.mono (by omega)) tk (qa_cons (qv 0) (qa_cons q_int qa_nil))))
  (qss_cons (qs_if (qt_cmp (op_eqD hu) opd_eq (qv 6) q_int (nomark _)) (qss_one (qs_ret (q_tup (qa_cons (qv 10) (qa_cons (q_op op_addAll opd_add (qv 11) (q_tup (qa_cons q_int qa_nil))) qa_nil))))) qss_nil)
  (qss_cons (qs_if (qt_cmp (op_eqD hu) opd_eq (qv 6) q_int (nomark _)) (qss_one (qs_ret (q_tup (qa_cons (qv 10) (qa_cons (q_op op_addAll opd_add (q_tup (qa_cons (q_ix ix_seq opd_ix (q_lst (qa_cons q_str (qa_cons q_str (qa_cons q_str (qa_cons q_non (qa_cons q_int qa_nil)))))) (q_callO o__law_pick (hr.mono (by omega)) tk (qa_cons (qv 0) (qa_cons q_int qa_nil))) (fun _ _ => rfl)) qa_nil)) (q_slice sl_all slok_all (qv 11) (qo_some q_int) qo_none)) qa_nil))))) qss_nil)
  (qss_cons (qs_if (qt_cmp (op_eqD hu) opd_eq (qv 6) q_int (nomark _)) (qss_one (qs_ret (q_tup (qa_cons (qv 10) (qa_cons (q_callTy call_list_of cd_list rfl z_list (by decide +kernel) (qa_cons (qv 11) qa_nil)) qa_nil))))) qss_nil)
  (qss_cons (qs_if (qt_cmp (op_eqD hu) opd_eq (q_ix ix_seq opd_ix (qv 11) q_int (fun _ _ => rfl)) q_str (nomark _)) (qss_one (qs_ret (q_tup (qa_cons (qv 10) (qa_cons (q_tup (qa_cons q_str (qa_cons (q_ix ix_seq opd_ix (q_lst (qa_cons (qv 8) (qa_cons (q_un un_neg und_neg q_int) (qa_cons q_non (qa_cons (q_callTy call_str_int cd_str rfl z_str (by decide +kernel) (qa_cons (q_ix ix_seq opd_ix (qv 11) q_int (fun _ _ => rfl)) qa_nil)) (qa_cons q_bl qa_nil)))))) (q_callO o__law_pick (hr.mono (by omega)) tk (qa_cons (qv 0) (qa_cons q_int qa_nil))) (fun _ _ => rfl)) qa_nil))) qa_nil))))) qss_nil)
  (qss_cons (qs_if (qt_cmp op_lt opd_B0 (qv 6) q_int (nomark _)) (qss_cons (qs_set (i := 12) nd (qe_if (qt_cmp (op_eqD hu) opd_eq (q_ix ix_seq opd_ix (qv 11) q_int (fun _ _ => rfl)) q_str (nomark _)) (q_lst (qa_cons q_int (qa_cons (q_un un_neg und_neg q_int) (qa_cons q_bl (qa_cons q_non (qa_cons q_str qa_nil)))))) (q_lst (qa_cons (qv 5) (qa_cons (q_un un_neg und_neg q_int) (qa_cons q_bl (qa_cons q_non (qa_cons q_str qa_nil))))))))
  (qss_one (qs_ret (q_tup (qa_cons (qv 10) (qa_cons (q_tup (qa_cons (q_ix ix_seq opd_ix (qv 11) q_int (fun _ _ => rfl)) (qa_cons (q_ix ix_seq opd_ix (qv 12) (q_callO o__law_pick (hr.mono (by omega)) tk (qa_cons (qv 0) (qa_cons q_int qa_nil))) (fun _ _ => rfl)) (qa_cons (q_ix ix_seq opd_ix (qv 11) q_int (fun _ _ => rfl)) qa_nil)))) qa_nil)))))) qss_nil)
  (qss_one (qs_ret (q_tup (qa_cons (qv 10) (qa_cons (q_tup (qa_cons (q_ix ix_seq opd_ix (qv 11) q_int (fun _ _ => rfl)) (qa_cons (q_ix ix_seq opd_ix (qv 11) q_int (fun _ _ => rfl)) (qa_cons (q_callO o__law_bad_nexts (hr.mono (by omega)) tk (qa_cons (qv 0) (qa_cons (qv 11) (qa_cons (qv 4) (qa_cons (q_op op_addAll opd_add (qv 4) (q_callB call_len cd_len rfl z_len (by decide +kernel) (qa_cons (qv 9) qa_nil))) (qa_cons (qv 5) qa_nil)))))) qa_nil)))) qa_nil))))))))))))))

theorem ok__law_bad_place {P : Program} {w : World} {K : PySem.W.Frag} {mg : Str → Option Value} {base : Heap} (D : DefAt K mg "_law_bad_place" s__law_bad_place) (z_len : mg "len" = none) (o__law_pick : Ok P w K mg base "_law_pick" (1) ["bag", "many"] sp_law_pick) (z_range : mg "range" = none) (z_sum : mg "sum" = none) (z_list : mg "list" = none) (o__law_bent : Ok P w K mg base "_law_bent" (1) ["program", "index", "at", "place"] sp_law_bent) (o__law_bad_what : Ok P w K mg base "_law_bad_what" (3) ["bag", "program", "index", "at", "low"] sp_law_bad_what) : Ok P w K mg base "_law_bad_place" (4) ["bag", "program"] sp_law_bad_place := by
  obtain ⟨f, fd, gm, F⟩ := D.ex
  refine ⟨f, fd, Fun.okD (k := 4 - 1) F sc__law_bad_place (len_law_bad_place ) (pure_law_bad_place ) (fun cdv A outer s H E hr => ?_), gm, F.kp, F.binds (ps := ["bag", "program"]) (fun _ _ _ _ _ _ us hl => match us, hl with | [_, _], _ => rfl), F.lk⟩
  have nd := sc__law_bad_place.nd
  have hu := hr.units
  have tk : Takes (cxOf (L2.CX P w) P w K mg base ["bag", "program", "index", "low", "places", "at", "mark", "place", "k"] "_law_bad_place" (defScope s__law_bad_place) f cdv A outer s H E) (wE E) := takes_of rfl rfl rfl rfl
  exact (qss_cons (qs_set (i := 2) nd (q_callO o__law_pick (hr.mono (by omega)) tk (qa_cons (qv 0) (qa_cons (q_callB call_len cd_len rfl z_len (by decide +kernel) (qa_cons (qv 1) qa_nil)) qa_nil))))
  (qss_cons (qs_set (i := 3) nd (q_callB (cr_sum rfl) cd_sum rfl z_sum (by decide +kernel) (qa_cons (qe_lc (own := [("k", 8)]) rfl nd (qi_rng1 z_range (qa_cons (qv 2) qa_nil)) (blkOk_by (N := ["bag", "program", "index", "low", "places", "at", "mark", "place", "k"]) (sc := defScope s__law_bad_place) (by decide +kernel)) (fun _ _ _ _ _ => (pg_name (i := 8) nd rfl (by first | exact Or.inl rfl | exact Or.inr rfl))) (lgo_name 8) (fun _ _ _ _ _ => qts_nil) (fun _ _ _ _ _ => (q_callB call_len cd_len rfl z_len (by decide +kernel) (qa_cons (q_ix ix_seq opd_ix (q_ix ix_seq opd_ix (qv 1) (qv 8) (fun _ _ => rfl)) q_int (fun _ _ => rfl)) qa_nil)))) qa_nil)))
  (qss_cons (qs_set (i := 4) nd (q_ix ix_seq opd_ix (q_ix ix_seq opd_ix (qv 1) (qv 2) (fun _ _ => rfl)) q_int (fun _ _ => rfl)))
  (qss_cons (qs_set (i := 5) nd (q_callO o__law_pick (hr.mono (by omega)) tk (qa_cons (qv 0) (qa_cons (q_callB call_len cd_len rfl z_len (by decide +kernel) (qa_cons (qv 4) qa_nil)) qa_nil))))
  (qss_cons (qs_if (qt_cmp (op_eqD hu) opd_eq (q_callO o__law_pick (hr.mono (by omega)) tk (qa_cons (qv 0) (qa_cons q_int qa_nil))) q_int (nomark _)) (qss_cons (qs_set (i := 6) nd (q_ix ix_seq opd_ix (q_lst (qa_cons q_int (qa_cons (q_un un_neg und_neg q_int) (qa_cons q_bl (qa_cons q_non (qa_cons q_str qa_nil)))))) (q_callO o__law_pick (hr.mono (by omega)) tk (qa_cons (qv 0) (qa_cons q_int qa_nil))) (fun _ _ => rfl)))
  (qss_cons (qs_set (i := 7) nd (q_ix ix_seq opd_ix (q_lst (qa_cons (q_tup (qa_cons (qv 6) (qa_cons (q_ix ix_seq opd_ix (q_ix ix_seq opd_ix (qv 4) (qv 5) (fun _ _ => rfl)) q_int (fun _ _ => rfl)) qa_nil))) (qa_cons (q_callTy call_list_of cd_list rfl z_list (by decide +kernel) (qa_cons (q_ix ix_seq opd_ix (qv 4) (qv 5) (fun _ _ => rfl)) qa_nil)) (qa_cons (q_op op_addAll opd_add (q_ix ix_seq opd_ix (qv 4) (qv 5) (fun _ _ => rfl)) (q_tup (qa_cons q_int qa_nil))) qa_nil)))) (q_callO o__law_pick (hr.mono (by omega)) tk (qa_cons (qv 0) (qa_cons q_int qa_nil))) (fun _ _ => rfl)))
  (qss_one (qs_ret (q_callO o__law_bent (hr.mono (by omega)) tk (qa_cons (qv 1) (qa_cons (qv 2) (qa_cons (qv 5) (qa_cons (qv 7) qa_nil))))))))) qss_nil)
  (qss_one (qs_ret (q_callO o__law_bent (hr.mono (by omega)) tk (qa_cons (qv 1) (qa_cons (qv 2) (qa_cons (qv 5) (qa_cons (q_callO o__law_bad_what (hr.mono (by omega)) tk (qa_cons (qv 0) (qa_cons (qv 1) (qa_cons (qv 2) (qa_cons (qv 5) (qa_cons (qv 3) qa_nil)))))) qa_nil))))))))))))

theorem ok__law_many {P : Program} {w : World} {K : PySem.W.Frag} {mg : Str → Option Value} {base : Heap} (D : DefAt K mg "_law_many" s__law_many) (o__law_pick : Ok P w K mg base "_law_pick" (1) ["bag", "many"] sp_law_pick) (z_range : mg "range" = none) (z_str : mg "str" = none) (z_tuple : mg "tuple" = none) (z_len : mg "len" = none) : Ok P w K mg base "_law_many" (2) ["bag"] sp_law_many := by
  obtain ⟨f, fd, gm, F⟩ := D.ex
  refine ⟨f, fd, Fun.okD (k := 2 - 1) F sc__law_many (len_law_many ) (pure_law_many ) (fun cdv A outer s H E hr => ?_), gm, F.kp, F.binds (ps := ["bag"]) (fun _ _ _ _ _ _ us hl => match us, hl with | [_], _ => rfl), F.lk⟩
  have nd := sc__law_many.nd
  have tk : Takes (cxOf (L2.CX P w) P w K mg base ["bag", "found", "count", "total", "half", "pair", "nexts", "k"] "_law_many" (defScope s__law_many) f cdv A outer s H E) (wE E) := takes_of rfl rfl rfl rfl
  exact (qss_cons (qs_set (i := 1) nd (q_lst qa_nil))
  (qss_cons (qs_set (i := 2) nd (q_op op_addAll opd_add q_int (q_callO o__law_pick (hr.mono (by omega)) tk (qa_cons (qv 0) (qa_cons q_int qa_nil)))))
  (qss_cons (qs_expr (q_bm PySem.F.plainAttrs_list PySem.F.slot_list_append PySem.F.type_list_append mt_append chkL_ok md_append (qv 1) (qa_cons (q_tup (qa_cons (q_callTy call_tuple_of cd_tup rfl z_tuple (by decide +kernel) (qa_cons (qe_lc (own := [("k", 7)]) rfl nd (qi_rng1 z_range (qa_cons (qv 2) qa_nil)) (blkOk_by (N := ["bag", "found", "count", "total", "half", "pair", "nexts", "k"]) (sc := defScope s__law_many) (by decide +kernel)) (fun _ _ _ _ _ => (pg_name (i := 7) nd rfl (by first | exact Or.inl rfl | exact Or.inr rfl))) (lgo_name 7) (fun _ _ _ _ _ => qts_nil) (fun _ _ _ _ _ => (q_tup (qa_cons (q_op op_addAll opd_add q_str (q_callTy call_str_int cd_str rfl z_str (by decide +kernel) (qa_cons (qv 7) qa_nil))) (qa_cons q_int (qa_cons (q_tup (qa_cons (q_tup (qa_cons (q_op op_mod opd_I (qv 7) q_int) (qa_cons (q_tup (qa_cons q_str (qa_cons q_int qa_nil))) qa_nil))) qa_nil)) qa_nil)))))) qa_nil)) (qa_cons (q_cmp op_le opd_B0 (qv 2) q_int (nomark _)) qa_nil))) qa_nil)))
  (qss_cons (qs_set (i := 3) nd (q_op op_addAll opd_add q_int (q_callO o__law_pick (hr.mono (by omega)) tk (qa_cons (qv 0) (qa_cons q_int qa_nil)))))
  (qss_cons (qs_expr (q_bm PySem.F.plainAttrs_list PySem.F.slot_list_append PySem.F.type_list_append mt_append chkL_ok md_append (qv 1) (qa_cons (q_tup (qa_cons (q_tup (qa_cons (q_tup (qa_cons q_str (qa_cons q_int (qa_cons (q_callTy call_tuple_of cd_tup rfl z_tuple (by decide +kernel) (qa_cons (q_op op_repAll opd_rep (q_lst (qa_cons (q_tup (qa_cons q_int (qa_cons (q_tup (qa_cons q_str (qa_cons q_int qa_nil))) qa_nil))) qa_nil)) (qv 3)) qa_nil)) qa_nil)))) qa_nil)) (qa_cons (q_cmp op_le opd_B0 (qv 3) q_int (nomark _)) qa_nil))) qa_nil)))
  (qss_cons (qs_set (i := 4) nd (q_op op_addAll opd_add q_int (q_callO o__law_pick (hr.mono (by omega)) tk (qa_cons (qv 0) (qa_cons q_int qa_nil)))))
  (qss_cons (qs_set (i := 5) nd (q_tup (qa_cons (q_tup (qa_cons q_str (qa_cons q_int (qa_cons (q_callTy call_tuple_of cd_tup rfl z_tuple (by decide +kernel) (qa_cons (q_op op_repAll opd_rep (q_lst (qa_cons (q_tup (qa_cons q_int (qa_cons (q_tup (qa_cons q_str (qa_cons q_int qa_nil))) qa_nil))) qa_nil)) (qv 4)) qa_nil)) qa_nil)))) (qa_cons (q_tup (qa_cons q_str (qa_cons q_int (qa_cons (q_callTy call_tuple_of cd_tup rfl z_tuple (by decide +kernel) (qa_cons (q_op op_repAll opd_rep (q_lst (qa_cons (q_tup (qa_cons q_int (qa_cons (q_tup (qa_cons q_str (qa_cons (qv 4) (qa_cons (q_op op_repAll opd_rep (q_tup (qa_cons (qv 4) qa_nil)) q_int) qa_nil)))) qa_nil))) qa_nil)) (q_op op_sub opd_I0 (qv 3) (qv 4))) qa_nil)) qa_nil)))) qa_nil))))
  (qss_cons (qs_expr (q_bm PySem.F.plainAttrs_list PySem.F.slot_list_append PySem.F.type_list_append mt_append chkL_ok md_append (qv 1) (qa_cons (q_tup (qa_cons (qv 5) (qa_cons (q_cmp op_le opd_B0 (qv 3) q_int (nomark _)) qa_nil))) qa_nil)))
  (qss_cons (qs_set (i := 6) nd (q_tupRg1 z_tuple z_range (q_op op_addAll opd_add q_int (q_callO o__law_pick (hr.mono (by omega)) tk (qa_cons (qv 0) (qa_cons q_int qa_nil))))))
  (qss_cons (qs_expr (q_bm PySem.F.plainAttrs_list PySem.F.slot_list_append PySem.F.type_list_append mt_append chkL_ok md_append (qv 1) (qa_cons (q_tup (qa_cons (q_tup (qa_cons (q_tup (qa_cons q_str (qa_cons q_int (qa_cons (q_op op_addAll opd_add (q_tup (qa_cons (q_tup (qa_cons q_int (qa_cons (q_tup (qa_cons q_str (qa_cons q_int (qa_cons (qv 6) qa_nil)))) qa_nil))) qa_nil)) (q_op op_repAll opd_rep (q_tup (qa_cons (q_tup (qa_cons q_int (qa_cons (q_tup (qa_cons q_str (qa_cons q_int qa_nil))) qa_nil))) qa_nil)) q_int)) qa_nil)))) qa_nil)) (qa_cons (q_cmp op_le opd_B0 (q_callB call_len cd_len rfl z_len (by decide +kernel) (qa_cons (qv 6) qa_nil)) q_int (nomark _)) qa_nil))) qa_nil)))
  (qss_one (qs_ret (qv 1)))))))))))))

theorem ok_law {P : Program} {w : World} {K : PySem.W.Frag} {mg : Str → Option Value} {base : Heap} (D : DefAt K mg "law" s_law) (o__law_bag : Ok P w K mg base "_law_bag" (1) ["script"] sp_law_bag) (o__law_pick : Ok P w K mg base "_law_pick" (1) ["bag", "many"] sp_law_pick) (o__law_program : Ok P w K mg base "_law_program" (4) ["bag", "procs", "exits", "size", "marks"] sp_law_program) (o_is_program : Ok P w K mg base "is_program" (6) ["thing"] sp_is_program) (z_range : mg "range" = none) (z_len : mg "len" = none) (o__law_bad_head : Ok P w K mg base "_law_bad_head" (2) ["bag", "program", "index"] sp_law_bad_head) (o__law_bad_place : Ok P w K mg base "_law_bad_place" (4) ["bag", "program"] sp_law_bad_place) (z_list : mg "list" = none) (o__law_many : Ok P w K mg base "_law_many" (2) ["bag"] sp_law_many) (z_isinstance : mg "isinstance" = none) (z_bool : mg "bool" = none) : Ok P w K mg base "law" (7) ["script"] sp_law := by
  obtain ⟨f, fd, gm, F⟩ := D.ex
  refine ⟨f, fd, Fun.okD (k := 7 - 1) F sc_law (len_law ) (pure_law ) (fun cdv A outer s H E hr => ?_), gm, F.kp, F.binds (ps := ["script"]) (fun _ _ _ _ _ _ us hl => match us, hl with | [_], _ => rfl), F.lk⟩
  have nd := sc_law.nd
  have hu := hr.units
  have tk : Takes (cxOf (L2.CX P w) P w K mg base ["script", "bag", "program", "k", "others", "index", "bent", "thing", "due", "found"] "law" (defScope s_law) f cdv A outer s H E) (wE E) := takes_of rfl rfl rfl rfl
  exact (qss_cons (qs_set (i := 1) nd (q_callO o__law_bag (hr.mono (by omega)) tk (qa_cons (qv 0) qa_nil)))
  (qss_cons (qs_set (i := 2) nd (q_callO o__law_program (hr.mono (by omega)) tk (qa_cons (qv 1) (qa_cons q_int (qa_cons (q_ix ix_seq opd_ix (q_lst (qa_cons q_int (qa_cons q_int qa_nil))) (q_callO o__law_pick (hr.mono (by omega)) tk (qa_cons (qv 1) (qa_cons q_int qa_nil))) (fun _ _ => rfl)) (qa_cons q_int (qa_cons q_int qa_nil)))))))
  (qss_cons (qs_if (qt_cmp op_notBl opd_notBl (q_callO o_is_program (hr.mono (by omega)) tk (qa_cons (qv 2) qa_nil)) q_bl (nomark _)) (qss_one (qs_ret q_bl)) qss_nil)
  (qss_cons (qs_for (passes_of rfl) rfl (qi_rng1 z_range (qa_cons q_int qa_nil)) (qg_name 3 nd)
  (qss_cons (qs_set (i := 5) nd (q_callO o__law_pick (hr.mono (by omega)) tk (qa_cons (qv 1) (qa_cons (q_callB call_len cd_len rfl z_len (by decide +kernel) (qa_cons (qv 2) qa_nil)) qa_nil))))
  (qss_cons (qs_set (i := 6) nd (qe_if (qt_cmp (op_eqD hu) opd_eq (q_callO o__law_pick (hr.mono (by omega)) tk (qa_cons (qv 1) (qa_cons q_int qa_nil))) q_int (nomark _)) (q_callO o__law_bad_head (hr.mono (by omega)) tk (qa_cons (qv 1) (qa_cons (qv 2) (qa_cons (qv 5) qa_nil)))) (q_callO o__law_bad_place (hr.mono (by omega)) tk (qa_cons (qv 1) (qa_cons (qv 2) qa_nil)))))
  (qss_one (qs_if (QW.qt (qw_or (qt_cmp op_notBl opd_notBl (q_callO o_is_program (hr.mono (by omega)) tk (qa_cons (qv 6) qa_nil)) q_bl (nomark _)) (qw_or1 (qt_cmp op_notBl opd_notBl (q_callO o_is_program (hr.mono (by omega)) tk (qa_cons (q_callTy call_list_of cd_list rfl z_list (by decide +kernel) (qa_cons (qv 2) qa_nil)) qa_nil)) q_bl (nomark _))))) (qss_one (qs_ret q_bl)) qss_nil)))))
  (qss_cons (qs_for (passes_of rfl) rfl (qi_seq (q_callO o__law_many (hr.mono (by omega)) tk (qa_cons (qv 1) qa_nil))) (qg_tup rfl (qgs_cons (qg_name 7 nd) (qgs_cons (qg_name 8 nd) qgs_nil)))
  (qss_cons (qs_set (i := 9) nd (q_callO o_is_program (hr.mono (by omega)) tk (qa_cons (qv 7) qa_nil)))
  (qss_one (qs_if (QW.qt (qw_or (qt_not (qt_val (q_isi .bool z_isinstance z_bool (by decide +kernel) (qv 9)))) (qw_or1 (qt_cmp (op_neD hu) opd_ne (qv 9) (qv 8) (nomark _))))) (qss_one (qs_ret q_bl)) qss_nil))))
  (qss_cons (qs_set (i := 4) nd (q_lst (qa_cons (q_tup qa_nil) (qa_cons q_non (qa_cons q_int (qa_cons q_str (qa_cons (q_lst qa_nil) (qa_cons (q_tup (qa_cons (q_tup qa_nil) qa_nil)) (qa_cons (q_tup (qa_cons q_non qa_nil)) (qa_cons q_bl qa_nil))))))))))
  (qss_cons (qs_if (qt_cmp op_notBl opd_notBl (q_callO o_is_program (hr.mono (by omega)) tk (qa_cons (q_ix ix_seq opd_ix (qv 4) (q_callO o__law_pick (hr.mono (by omega)) tk (qa_cons (qv 1) (qa_cons (q_callB call_len cd_len rfl z_len (by decide +kernel) (qa_cons (qv 4) qa_nil)) qa_nil))) (fun _ _ => rfl)) qa_nil)) q_bl (nomark _)) (qss_one (qs_ret q_bl)) qss_nil)
  (qss_one (qs_ret (q_cmp op_isBl opd_isBl (q_callO o_is_program (hr.mono (by omega)) tk (qa_cons (qv 2) qa_nil)) q_bl (nomark _)))))))))))

theorem law_holds : ∀ (ns : List Int), ns.length ≤ 63 → ∀ L : DH, (∀ b, L b = none) → sp_law [.lro (ns.map .int)] L (fun d _ => d = .bl true) (fun _ _ _ => False) := fun ns hl L _ => ⟨ns, rfl, hl, fun _ => rfl⟩
theorem all_mk {l : PySem.W.OpenLaw} {w : World} {K : PySem.W.Frag} {h : Heap} {mg : Str → Option Value} {fa : Addr} (X : K.In h) (G : h.Ns mainGlobals mg) (hfa : mg "law" = some (.ref fa))
    {fis_int : Addr} {ocis_int kVis_int dcis_int pmis_int cdis_int ctis_int : Value} {odis_int anis_int : Option Addr} {slis_int : Array (Option Value)}
    {fwithin : Addr} {ocwithin kVwithin dcwithin pmwithin cdwithin ctwithin : Value} {odwithin anwithin : Option Addr} {slwithin : Array (Option Value)}
    {fis_row : Addr} {ocis_row kVis_row dcis_row pmis_row cdis_row ctis_row : Value} {odis_row anis_row : Option Addr} {slis_row : Array (Option Value)}
    {fis_low_name : Addr} {ocis_low_name kVis_low_name dcis_low_name pmis_low_name cdis_low_name ctis_low_name : Value} {odis_low_name anis_low_name : Option Addr} {slis_low_name : Array (Option Value)}
    {fstarts_of : Addr} {ocstarts_of kVstarts_of dcstarts_of pmstarts_of cdstarts_of ctstarts_of : Value} {odstarts_of anstarts_of : Option Addr} {slstarts_of : Array (Option Value)}
    {fis_head : Addr} {ocis_head kVis_head dcis_head pmis_head cdis_head ctis_head : Value} {odis_head anis_head : Option Addr} {slis_head : Array (Option Value)}
    {fare_heads : Addr} {ocare_heads kVare_heads dcare_heads pmare_heads cdare_heads ctare_heads : Value} {odare_heads anare_heads : Option Addr} {slare_heads : Array (Option Value)}
    {fare_places : Addr} {ocare_places kVare_places dcare_places pmare_places cdare_places ctare_places : Value} {odare_places anare_places : Option Addr} {slare_places : Array (Option Value)}
    {fis_move : Addr} {ocis_move kVis_move dcis_move pmis_move cdis_move ctis_move : Value} {odis_move anis_move : Option Addr} {slis_move : Array (Option Value)}
    {fis_call : Addr} {ocis_call kVis_call dcis_call pmis_call cdis_call ctis_call : Value} {odis_call anis_call : Option Addr} {slis_call : Array (Option Value)}
    {fis_exit : Addr} {ocis_exit kVis_exit dcis_exit pmis_exit cdis_exit ctis_exit : Value} {odis_exit anis_exit : Option Addr} {slis_exit : Array (Option Value)}
    {fis_place : Addr} {ocis_place kVis_place dcis_place pmis_place cdis_place ctis_place : Value} {odis_place anis_place : Option Addr} {slis_place : Array (Option Value)}
    {fis_program : Addr} {ocis_program kVis_program dcis_program pmis_program cdis_program ctis_program : Value} {odis_program anis_program : Option Addr} {slis_program : Array (Option Value)}
    {f_law_bag : Addr} {oc_law_bag kV_law_bag dc_law_bag pm_law_bag cd_law_bag ct_law_bag : Value} {od_law_bag an_law_bag : Option Addr} {sl_law_bag : Array (Option Value)}
    {f_law_pick : Addr} {oc_law_pick kV_law_pick dc_law_pick pm_law_pick cd_law_pick ct_law_pick : Value} {od_law_pick an_law_pick : Option Addr} {sl_law_pick : Array (Option Value)}
    {f_law_name : Addr} {oc_law_name kV_law_name dc_law_name pm_law_name cd_law_name ct_law_name : Value} {od_law_name an_law_name : Option Addr} {sl_law_name : Array (Option Value)}
    {f_law_nexts : Addr} {oc_law_nexts kV_law_nexts dc_law_nexts pm_law_nexts cd_law_nexts ct_law_nexts : Value} {od_law_nexts an_law_nexts : Option Addr} {sl_law_nexts : Array (Option Value)}
    {f_law_what : Addr} {oc_law_what kV_law_what dc_law_what pm_law_what cd_law_what ct_law_what : Value} {od_law_what an_law_what : Option Addr} {sl_law_what : Array (Option Value)}
    {f_law_program : Addr} {oc_law_program kV_law_program dc_law_program pm_law_program cd_law_program ct_law_program : Value} {od_law_program an_law_program : Option Addr} {sl_law_program : Array (Option Value)}
    {f_law_flat : Addr} {oc_law_flat kV_law_flat dc_law_flat pm_law_flat cd_law_flat ct_law_flat : Value} {od_law_flat an_law_flat : Option Addr} {sl_law_flat : Array (Option Value)}
    {f_law_bent : Addr} {oc_law_bent kV_law_bent dc_law_bent pm_law_bent cd_law_bent ct_law_bent : Value} {od_law_bent an_law_bent : Option Addr} {sl_law_bent : Array (Option Value)}
    {f_law_bad_head : Addr} {oc_law_bad_head kV_law_bad_head dc_law_bad_head pm_law_bad_head cd_law_bad_head ct_law_bad_head : Value} {od_law_bad_head an_law_bad_head : Option Addr} {sl_law_bad_head : Array (Option Value)}
    {f_law_bad_nexts : Addr} {oc_law_bad_nexts kV_law_bad_nexts dc_law_bad_nexts pm_law_bad_nexts cd_law_bad_nexts ct_law_bad_nexts : Value} {od_law_bad_nexts an_law_bad_nexts : Option Addr} {sl_law_bad_nexts : Array (Option Value)}
    {f_law_bad_what : Addr} {oc_law_bad_what kV_law_bad_what dc_law_bad_what pm_law_bad_what cd_law_bad_what ct_law_bad_what : Value} {od_law_bad_what an_law_bad_what : Option Addr} {sl_law_bad_what : Array (Option Value)}
    {f_law_bad_place : Addr} {oc_law_bad_place kV_law_bad_place dc_law_bad_place pm_law_bad_place cd_law_bad_place ct_law_bad_place : Value} {od_law_bad_place an_law_bad_place : Option Addr} {sl_law_bad_place : Array (Option Value)}
    {f_law_many : Addr} {oc_law_many kV_law_many dc_law_many pm_law_many cd_law_many ct_law_many : Value} {od_law_many an_law_many : Option Addr} {sl_law_many : Array (Option Value)}
    {flaw : Addr} {oclaw kVlaw dclaw pmlaw cdlaw ctlaw : Value} {odlaw anlaw : Option Addr} {sllaw : Array (Option Value)}
    {tMOST_NAME : Tok}
    {AWORDS : Addr} {odWORDS : Option Addr} {nWORDS : Nat} {slWORDS : Array (Option Value)} {tWORDS0 : Tok} {tWORDS1 : Tok} {tWORDS2 : Tok} {tWORDS3 : Tok}
    {tSMALL : Tok}
    {tDIGITS : Tok}
    {tMOST_EXITS : Tok}
    {tMOST_PLACES : Tok}
    {tMOST_PROCEDURES : Tok}
    {tMOST_NEXTS : Tok}
    {tMOST_MARK : Tok}
    (ais_int : PySem.W.nsIn K mainGlobals "is_int" = some (some (.ref fis_int)))
    (lis_int : K.lookup fis_int = some ⟨ocis_int, odis_int, .func (PySem.W.fnOf "is_int" "is_int" (defArgs s_is_int) (defBody s_is_int) (defScope s_is_int) .none kVis_int dcis_int pmis_int anis_int cdis_int ctis_int), slis_int⟩)
    (cis_int : PySem.W.codeIn K cdis_int "is_int" = true)
    (kis_int : PySem.W.keepIn K (.ref fis_int) = true)
    (awithin : PySem.W.nsIn K mainGlobals "within" = some (some (.ref fwithin)))
    (lwithin : K.lookup fwithin = some ⟨ocwithin, odwithin, .func (PySem.W.fnOf "within" "within" (defArgs s_within) (defBody s_within) (defScope s_within) .none kVwithin dcwithin pmwithin anwithin cdwithin ctwithin), slwithin⟩)
    (cwithin : PySem.W.codeIn K cdwithin "within" = true)
    (kwithin : PySem.W.keepIn K (.ref fwithin) = true)
    (ais_row : PySem.W.nsIn K mainGlobals "is_row" = some (some (.ref fis_row)))
    (lis_row : K.lookup fis_row = some ⟨ocis_row, odis_row, .func (PySem.W.fnOf "is_row" "is_row" (defArgs s_is_row) (defBody s_is_row) (defScope s_is_row) .none kVis_row dcis_row pmis_row anis_row cdis_row ctis_row), slis_row⟩)
    (cis_row : PySem.W.codeIn K cdis_row "is_row" = true)
    (kis_row : PySem.W.keepIn K (.ref fis_row) = true)
    (ais_low_name : PySem.W.nsIn K mainGlobals "is_low_name" = some (some (.ref fis_low_name)))
    (lis_low_name : K.lookup fis_low_name = some ⟨ocis_low_name, odis_low_name, .func (PySem.W.fnOf "is_low_name" "is_low_name" (defArgs s_is_low_name) (defBody s_is_low_name) (defScope s_is_low_name) .none kVis_low_name dcis_low_name pmis_low_name anis_low_name cdis_low_name ctis_low_name), slis_low_name⟩)
    (cis_low_name : PySem.W.codeIn K cdis_low_name "is_low_name" = true)
    (kis_low_name : PySem.W.keepIn K (.ref fis_low_name) = true)
    (astarts_of : PySem.W.nsIn K mainGlobals "starts_of" = some (some (.ref fstarts_of)))
    (lstarts_of : K.lookup fstarts_of = some ⟨ocstarts_of, odstarts_of, .func (PySem.W.fnOf "starts_of" "starts_of" (defArgs s_starts_of) (defBody s_starts_of) (defScope s_starts_of) .none kVstarts_of dcstarts_of pmstarts_of anstarts_of cdstarts_of ctstarts_of), slstarts_of⟩)
    (cstarts_of : PySem.W.codeIn K cdstarts_of "starts_of" = true)
    (kstarts_of : PySem.W.keepIn K (.ref fstarts_of) = true)
    (ais_head : PySem.W.nsIn K mainGlobals "is_head" = some (some (.ref fis_head)))
    (lis_head : K.lookup fis_head = some ⟨ocis_head, odis_head, .func (PySem.W.fnOf "is_head" "is_head" (defArgs s_is_head) (defBody s_is_head) (defScope s_is_head) .none kVis_head dcis_head pmis_head anis_head cdis_head ctis_head), slis_head⟩)
    (cis_head : PySem.W.codeIn K cdis_head "is_head" = true)
    (kis_head : PySem.W.keepIn K (.ref fis_head) = true)
    (aare_heads : PySem.W.nsIn K mainGlobals "are_heads" = some (some (.ref fare_heads)))
    (lare_heads : K.lookup fare_heads = some ⟨ocare_heads, odare_heads, .func (PySem.W.fnOf "are_heads" "are_heads" (defArgs s_are_heads) (defBody s_are_heads) (defScope s_are_heads) .none kVare_heads dcare_heads pmare_heads anare_heads cdare_heads ctare_heads), slare_heads⟩)
    (care_heads : PySem.W.codeIn K cdare_heads "are_heads" = true)
    (kare_heads : PySem.W.keepIn K (.ref fare_heads) = true)
    (aare_places : PySem.W.nsIn K mainGlobals "are_places" = some (some (.ref fare_places)))
    (lare_places : K.lookup fare_places = some ⟨ocare_places, odare_places, .func (PySem.W.fnOf "are_places" "are_places" (defArgs s_are_places) (defBody s_are_places) (defScope s_are_places) .none kVare_places dcare_places pmare_places anare_places cdare_places ctare_places), slare_places⟩)
    (care_places : PySem.W.codeIn K cdare_places "are_places" = true)
    (kare_places : PySem.W.keepIn K (.ref fare_places) = true)
    (ais_move : PySem.W.nsIn K mainGlobals "is_move" = some (some (.ref fis_move)))
    (lis_move : K.lookup fis_move = some ⟨ocis_move, odis_move, .func (PySem.W.fnOf "is_move" "is_move" (defArgs s_is_move) (defBody s_is_move) (defScope s_is_move) .none kVis_move dcis_move pmis_move anis_move cdis_move ctis_move), slis_move⟩)
    (cis_move : PySem.W.codeIn K cdis_move "is_move" = true)
    (kis_move : PySem.W.keepIn K (.ref fis_move) = true)
    (ais_call : PySem.W.nsIn K mainGlobals "is_call" = some (some (.ref fis_call)))
    (lis_call : K.lookup fis_call = some ⟨ocis_call, odis_call, .func (PySem.W.fnOf "is_call" "is_call" (defArgs s_is_call) (defBody s_is_call) (defScope s_is_call) .none kVis_call dcis_call pmis_call anis_call cdis_call ctis_call), slis_call⟩)
    (cis_call : PySem.W.codeIn K cdis_call "is_call" = true)
    (kis_call : PySem.W.keepIn K (.ref fis_call) = true)
    (ais_exit : PySem.W.nsIn K mainGlobals "is_exit" = some (some (.ref fis_exit)))
    (lis_exit : K.lookup fis_exit = some ⟨ocis_exit, odis_exit, .func (PySem.W.fnOf "is_exit" "is_exit" (defArgs s_is_exit) (defBody s_is_exit) (defScope s_is_exit) .none kVis_exit dcis_exit pmis_exit anis_exit cdis_exit ctis_exit), slis_exit⟩)
    (cis_exit : PySem.W.codeIn K cdis_exit "is_exit" = true)
    (kis_exit : PySem.W.keepIn K (.ref fis_exit) = true)
    (ais_place : PySem.W.nsIn K mainGlobals "is_place" = some (some (.ref fis_place)))
    (lis_place : K.lookup fis_place = some ⟨ocis_place, odis_place, .func (PySem.W.fnOf "is_place" "is_place" (defArgs s_is_place) (defBody s_is_place) (defScope s_is_place) .none kVis_place dcis_place pmis_place anis_place cdis_place ctis_place), slis_place⟩)
    (cis_place : PySem.W.codeIn K cdis_place "is_place" = true)
    (kis_place : PySem.W.keepIn K (.ref fis_place) = true)
    (ais_program : PySem.W.nsIn K mainGlobals "is_program" = some (some (.ref fis_program)))
    (lis_program : K.lookup fis_program = some ⟨ocis_program, odis_program, .func (PySem.W.fnOf "is_program" "is_program" (defArgs s_is_program) (defBody s_is_program) (defScope s_is_program) .none kVis_program dcis_program pmis_program anis_program cdis_program ctis_program), slis_program⟩)
    (cis_program : PySem.W.codeIn K cdis_program "is_program" = true)
    (kis_program : PySem.W.keepIn K (.ref fis_program) = true)
    (a_law_bag : PySem.W.nsIn K mainGlobals "_law_bag" = some (some (.ref f_law_bag)))
    (l_law_bag : K.lookup f_law_bag = some ⟨oc_law_bag, od_law_bag, .func (PySem.W.fnOf "_law_bag" "_law_bag" (defArgs s__law_bag) (defBody s__law_bag) (defScope s__law_bag) .none kV_law_bag dc_law_bag pm_law_bag an_law_bag cd_law_bag ct_law_bag), sl_law_bag⟩)
    (c_law_bag : PySem.W.codeIn K cd_law_bag "_law_bag" = true)
    (k_law_bag : PySem.W.keepIn K (.ref f_law_bag) = true)
    (a_law_pick : PySem.W.nsIn K mainGlobals "_law_pick" = some (some (.ref f_law_pick)))
    (l_law_pick : K.lookup f_law_pick = some ⟨oc_law_pick, od_law_pick, .func (PySem.W.fnOf "_law_pick" "_law_pick" (defArgs s__law_pick) (defBody s__law_pick) (defScope s__law_pick) .none kV_law_pick dc_law_pick pm_law_pick an_law_pick cd_law_pick ct_law_pick), sl_law_pick⟩)
    (c_law_pick : PySem.W.codeIn K cd_law_pick "_law_pick" = true)
    (k_law_pick : PySem.W.keepIn K (.ref f_law_pick) = true)
    (a_law_name : PySem.W.nsIn K mainGlobals "_law_name" = some (some (.ref f_law_name)))
    (l_law_name : K.lookup f_law_name = some ⟨oc_law_name, od_law_name, .func (PySem.W.fnOf "_law_name" "_law_name" (defArgs s__law_name) (defBody s__law_name) (defScope s__law_name) .none kV_law_name dc_law_name pm_law_name an_law_name cd_law_name ct_law_name), sl_law_name⟩)
    (c_law_name : PySem.W.codeIn K cd_law_name "_law_name" = true)
    (k_law_name : PySem.W.keepIn K (.ref f_law_name) = true)
    (a_law_nexts : PySem.W.nsIn K mainGlobals "_law_nexts" = some (some (.ref f_law_nexts)))
    (l_law_nexts : K.lookup f_law_nexts = some ⟨oc_law_nexts, od_law_nexts, .func (PySem.W.fnOf "_law_nexts" "_law_nexts" (defArgs s__law_nexts) (defBody s__law_nexts) (defScope s__law_nexts) .none kV_law_nexts dc_law_nexts pm_law_nexts an_law_nexts cd_law_nexts ct_law_nexts), sl_law_nexts⟩)
    (c_law_nexts : PySem.W.codeIn K cd_law_nexts "_law_nexts" = true)
    (k_law_nexts : PySem.W.keepIn K (.ref f_law_nexts) = true)
    (a_law_what : PySem.W.nsIn K mainGlobals "_law_what" = some (some (.ref f_law_what)))
    (l_law_what : K.lookup f_law_what = some ⟨oc_law_what, od_law_what, .func (PySem.W.fnOf "_law_what" "_law_what" (defArgs s__law_what) (defBody s__law_what) (defScope s__law_what) .none kV_law_what dc_law_what pm_law_what an_law_what cd_law_what ct_law_what), sl_law_what⟩)
    (c_law_what : PySem.W.codeIn K cd_law_what "_law_what" = true)
    (k_law_what : PySem.W.keepIn K (.ref f_law_what) = true)
    (a_law_program : PySem.W.nsIn K mainGlobals "_law_program" = some (some (.ref f_law_program)))
    (l_law_program : K.lookup f_law_program = some ⟨oc_law_program, od_law_program, .func (PySem.W.fnOf "_law_program" "_law_program" (defArgs s__law_program) (defBody s__law_program) (defScope s__law_program) .none kV_law_program dc_law_program pm_law_program an_law_program cd_law_program ct_law_program), sl_law_program⟩)
    (c_law_program : PySem.W.codeIn K cd_law_program "_law_program" = true)
    (k_law_program : PySem.W.keepIn K (.ref f_law_program) = true)
    (a_law_flat : PySem.W.nsIn K mainGlobals "_law_flat" = some (some (.ref f_law_flat)))
    (l_law_flat : K.lookup f_law_flat = some ⟨oc_law_flat, od_law_flat, .func (PySem.W.fnOf "_law_flat" "_law_flat" (defArgs s__law_flat) (defBody s__law_flat) (defScope s__law_flat) .none kV_law_flat dc_law_flat pm_law_flat an_law_flat cd_law_flat ct_law_flat), sl_law_flat⟩)
    (c_law_flat : PySem.W.codeIn K cd_law_flat "_law_flat" = true)
    (k_law_flat : PySem.W.keepIn K (.ref f_law_flat) = true)
    (a_law_bent : PySem.W.nsIn K mainGlobals "_law_bent" = some (some (.ref f_law_bent)))
    (l_law_bent : K.lookup f_law_bent = some ⟨oc_law_bent, od_law_bent, .func (PySem.W.fnOf "_law_bent" "_law_bent" (defArgs s__law_bent) (defBody s__law_bent) (defScope s__law_bent) .none kV_law_bent dc_law_bent pm_law_bent an_law_bent cd_law_bent ct_law_bent), sl_law_bent⟩)
    (c_law_bent : PySem.W.codeIn K cd_law_bent "_law_bent" = true)
    (k_law_bent : PySem.W.keepIn K (.ref f_law_bent) = true)
    (a_law_bad_head : PySem.W.nsIn K mainGlobals "_law_bad_head" = some (some (.ref f_law_bad_head)))
    (l_law_bad_head : K.lookup f_law_bad_head = some ⟨oc_law_bad_head, od_law_bad_head, .func (PySem.W.fnOf "_law_bad_head" "_law_bad_head" (defArgs s__law_bad_head) (defBody s__law_bad_head) (defScope s__law_bad_head) .none kV_law_bad_head dc_law_bad_head pm_law_bad_head an_law_bad_head cd_law_bad_head ct_law_bad_head), sl_law_bad_head⟩)
    (c_law_bad_head : PySem.W.codeIn K cd_law_bad_head "_law_bad_head" = true)
    (k_law_bad_head : PySem.W.keepIn K (.ref f_law_bad_head) = true)
    (a_law_bad_nexts : PySem.W.nsIn K mainGlobals "_law_bad_nexts" = some (some (.ref f_law_bad_nexts)))
    (l_law_bad_nexts : K.lookup f_law_bad_nexts = some ⟨oc_law_bad_nexts, od_law_bad_nexts, .func (PySem.W.fnOf "_law_bad_nexts" "_law_bad_nexts" (defArgs s__law_bad_nexts) (defBody s__law_bad_nexts) (defScope s__law_bad_nexts) .none kV_law_bad_nexts dc_law_bad_nexts pm_law_bad_nexts an_law_bad_nexts cd_law_bad_nexts ct_law_bad_nexts), sl_law_bad_nexts⟩)
    (c_law_bad_nexts : PySem.W.codeIn K cd_law_bad_nexts "_law_bad_nexts" = true)
    (k_law_bad_nexts : PySem.W.keepIn K (.ref f_law_bad_nexts) = true)
    (a_law_bad_what : PySem.W.nsIn K mainGlobals "_law_bad_what" = some (some (.ref f_law_bad_what)))
    (l_law_bad_what : K.lookup f_law_bad_what = some ⟨oc_law_bad_what, od_law_bad_what, .func (PySem.W.fnOf "_law_bad_what" "_law_bad_what" (defArgs s__law_bad_what) (defBody s__law_bad_what) (defScope s__law_bad_what) .none kV_law_bad_what dc_law_bad_what pm_law_bad_what an_law_bad_what cd_law_bad_what ct_law_bad_what), sl_law_bad_what⟩)
    (c_law_bad_what : PySem.W.codeIn K cd_law_bad_what "_law_bad_what" = true)
    (k_law_bad_what : PySem.W.keepIn K (.ref f_law_bad_what) = true)
    (a_law_bad_place : PySem.W.nsIn K mainGlobals "_law_bad_place" = some (some (.ref f_law_bad_place)))
    (l_law_bad_place : K.lookup f_law_bad_place = some ⟨oc_law_bad_place, od_law_bad_place, .func (PySem.W.fnOf "_law_bad_place" "_law_bad_place" (defArgs s__law_bad_place) (defBody s__law_bad_place) (defScope s__law_bad_place) .none kV_law_bad_place dc_law_bad_place pm_law_bad_place an_law_bad_place cd_law_bad_place ct_law_bad_place), sl_law_bad_place⟩)
    (c_law_bad_place : PySem.W.codeIn K cd_law_bad_place "_law_bad_place" = true)
    (k_law_bad_place : PySem.W.keepIn K (.ref f_law_bad_place) = true)
    (a_law_many : PySem.W.nsIn K mainGlobals "_law_many" = some (some (.ref f_law_many)))
    (l_law_many : K.lookup f_law_many = some ⟨oc_law_many, od_law_many, .func (PySem.W.fnOf "_law_many" "_law_many" (defArgs s__law_many) (defBody s__law_many) (defScope s__law_many) .none kV_law_many dc_law_many pm_law_many an_law_many cd_law_many ct_law_many), sl_law_many⟩)
    (c_law_many : PySem.W.codeIn K cd_law_many "_law_many" = true)
    (k_law_many : PySem.W.keepIn K (.ref f_law_many) = true)
    (alaw : PySem.W.nsIn K mainGlobals "law" = some (some (.ref flaw)))
    (llaw : K.lookup flaw = some ⟨oclaw, odlaw, .func (PySem.W.fnOf "law" "law" (defArgs s_law) (defBody s_law) (defScope s_law) .none kVlaw dclaw pmlaw anlaw cdlaw ctlaw), sllaw⟩)
    (claw : PySem.W.codeIn K cdlaw "law" = true)
    (klaw : PySem.W.keepIn K (.ref flaw) = true)
    (yz_isinstance : PySem.W.nsIn K mainGlobals "isinstance" = some none)
    (yz_int : PySem.W.nsIn K mainGlobals "int" = some none)
    (yz_bool : PySem.W.nsIn K mainGlobals "bool" = some none)
    (yz_tuple : PySem.W.nsIn K mainGlobals "tuple" = some none)
    (yz_len : PySem.W.nsIn K mainGlobals "len" = some none)
    (yz_str : PySem.W.nsIn K mainGlobals "str" = some none)
    (gc_MOST_NAME : PySem.W.nsIn K mainGlobals "MOST_NAME" = some (some (.int 10 tMOST_NAME)))
    (gc_WORDS : PySem.W.nsIn K mainGlobals "WORDS" = some (some (.ref AWORDS)))
    (Gc_WORDS : K.lookup AWORDS = some ⟨.type "tuple", odWORDS, .seq #[.str "call" tWORDS0, .str "exit" tWORDS1, .str "move" tWORDS2, .str "proc" tWORDS3] nWORDS, slWORDS⟩)
    (gc_SMALL : PySem.W.nsIn K mainGlobals "SMALL" = some (some (.str "abcdefghijklmnopqrstuvwxyz" tSMALL)))
    (gc_DIGITS : PySem.W.nsIn K mainGlobals "DIGITS" = some (some (.str "0123456789" tDIGITS)))
    (yz_all : PySem.W.nsIn K mainGlobals "all" = some none)
    (gc_MOST_EXITS : PySem.W.nsIn K mainGlobals "MOST_EXITS" = some (some (.int 24 tMOST_EXITS)))
    (gc_MOST_PLACES : PySem.W.nsIn K mainGlobals "MOST_PLACES" = some (some (.int 4000 tMOST_PLACES)))
    (gc_MOST_PROCEDURES : PySem.W.nsIn K mainGlobals "MOST_PROCEDURES" = some (some (.int 60 tMOST_PROCEDURES)))
    (yz_set : PySem.W.nsIn K mainGlobals "set" = some none)
    (yz_sum : PySem.W.nsIn K mainGlobals "sum" = some none)
    (gc_MOST_NEXTS : PySem.W.nsIn K mainGlobals "MOST_NEXTS" = some (some (.int 8 tMOST_NEXTS)))
    (gc_MOST_MARK : PySem.W.nsIn K mainGlobals "MOST_MARK" = some (some (.int 9 tMOST_MARK)))
    (yz_enumerate : PySem.W.nsIn K mainGlobals "enumerate" = some none)
    (yz_list : PySem.W.nsIn K mainGlobals "list" = some none)
    (yz_range : PySem.W.nsIn K mainGlobals "range" = some none)
    (yz_min : PySem.W.nsIn K mainGlobals "min" = some none) :
    ∃ fd : FuncData, (∀ (s : Shared) (u : Value), BindsTo s fd ⟨[u], []⟩ [("script", u)]) ∧ ∀ base : Heap, K.In base → base.Ns mainGlobals mg → ∃ mgx, FnOk l.prog w K mg base (L2.CX l.prog w) 7 fa fd ["script"] (liftSp ⟨K, mgx⟩ sp_law) := by
  have e := hfa.symm.trans (PySem.W.mg_of X G alaw)
  cases e
  have Dis_int : DefAt K mg "is_int" s_is_int := def_at X G ais_int lis_int cis_int kis_int
  have Dwithin : DefAt K mg "within" s_within := def_at X G awithin lwithin cwithin kwithin
  have Dis_row : DefAt K mg "is_row" s_is_row := def_at X G ais_row lis_row cis_row kis_row
  have Dis_low_name : DefAt K mg "is_low_name" s_is_low_name := def_at X G ais_low_name lis_low_name cis_low_name kis_low_name
  have Dstarts_of : DefAt K mg "starts_of" s_starts_of := def_at X G astarts_of lstarts_of cstarts_of kstarts_of
  have Dis_head : DefAt K mg "is_head" s_is_head := def_at X G ais_head lis_head cis_head kis_head
  have Dare_heads : DefAt K mg "are_heads" s_are_heads := def_at X G aare_heads lare_heads care_heads kare_heads
  have Dare_places : DefAt K mg "are_places" s_are_places := def_at X G aare_places lare_places care_places kare_places
  have Dis_move : DefAt K mg "is_move" s_is_move := def_at X G ais_move lis_move cis_move kis_move
  have Dis_call : DefAt K mg "is_call" s_is_call := def_at X G ais_call lis_call cis_call kis_call
  have Dis_exit : DefAt K mg "is_exit" s_is_exit := def_at X G ais_exit lis_exit cis_exit kis_exit
  have Dis_place : DefAt K mg "is_place" s_is_place := def_at X G ais_place lis_place cis_place kis_place
  have Dis_program : DefAt K mg "is_program" s_is_program := def_at X G ais_program lis_program cis_program kis_program
  have D_law_bag : DefAt K mg "_law_bag" s__law_bag := def_at X G a_law_bag l_law_bag c_law_bag k_law_bag
  have D_law_pick : DefAt K mg "_law_pick" s__law_pick := def_at X G a_law_pick l_law_pick c_law_pick k_law_pick
  have D_law_name : DefAt K mg "_law_name" s__law_name := def_at X G a_law_name l_law_name c_law_name k_law_name
  have D_law_nexts : DefAt K mg "_law_nexts" s__law_nexts := def_at X G a_law_nexts l_law_nexts c_law_nexts k_law_nexts
  have D_law_what : DefAt K mg "_law_what" s__law_what := def_at X G a_law_what l_law_what c_law_what k_law_what
  have D_law_program : DefAt K mg "_law_program" s__law_program := def_at X G a_law_program l_law_program c_law_program k_law_program
  have D_law_flat : DefAt K mg "_law_flat" s__law_flat := def_at X G a_law_flat l_law_flat c_law_flat k_law_flat
  have D_law_bent : DefAt K mg "_law_bent" s__law_bent := def_at X G a_law_bent l_law_bent c_law_bent k_law_bent
  have D_law_bad_head : DefAt K mg "_law_bad_head" s__law_bad_head := def_at X G a_law_bad_head l_law_bad_head c_law_bad_head k_law_bad_head
  have D_law_bad_nexts : DefAt K mg "_law_bad_nexts" s__law_bad_nexts := def_at X G a_law_bad_nexts l_law_bad_nexts c_law_bad_nexts k_law_bad_nexts
  have D_law_bad_what : DefAt K mg "_law_bad_what" s__law_bad_what := def_at X G a_law_bad_what l_law_bad_what c_law_bad_what k_law_bad_what
  have D_law_bad_place : DefAt K mg "_law_bad_place" s__law_bad_place := def_at X G a_law_bad_place l_law_bad_place c_law_bad_place k_law_bad_place
  have D_law_many : DefAt K mg "_law_many" s__law_many := def_at X G a_law_many l_law_many c_law_many k_law_many
  have Dlaw : DefAt K mg "law" s_law := def_at X G alaw llaw claw klaw
  have z_isinstance : mg "isinstance" = none := PySem.W.mg_none_of X G yz_isinstance
  have z_int : mg "int" = none := PySem.W.mg_none_of X G yz_int
  have z_bool : mg "bool" = none := PySem.W.mg_none_of X G yz_bool
  have z_tuple : mg "tuple" = none := PySem.W.mg_none_of X G yz_tuple
  have z_len : mg "len" = none := PySem.W.mg_none_of X G yz_len
  have z_str : mg "str" = none := PySem.W.mg_none_of X G yz_str
  have c_MOST_NAME : ConstOk K mg "MOST_NAME" (.int 10) := cst_int X G gc_MOST_NAME
  have c_WORDS : ConstOk K mg "WORDS" (.tup [(.str "call"), (.str "exit"), (.str "move"), (.str "proc")]) := cst_tup (xs := [.str "call", .str "exit", .str "move", .str "proc"]) X G gc_WORDS Gc_WORDS (by show (4 : Nat) ≤ sizeLine; decide) (.cons ⟨_, rfl⟩ (.cons ⟨_, rfl⟩ (.cons ⟨_, rfl⟩ (.cons ⟨_, rfl⟩ .nil)))) (fun _ => (repL_cons ⟨rfl, by decide +kernel⟩ (repL_cons ⟨rfl, by decide +kernel⟩ (repL_cons ⟨rfl, by decide +kernel⟩ (repL_cons ⟨rfl, by decide +kernel⟩ repL_nil)))))
  have c_SMALL : ConstOk K mg "SMALL" (.str "abcdefghijklmnopqrstuvwxyz") := cst_str X G gc_SMALL (by decide +kernel)
  have c_DIGITS : ConstOk K mg "DIGITS" (.str "0123456789") := cst_str X G gc_DIGITS (by decide +kernel)
  have z_all : mg "all" = none := PySem.W.mg_none_of X G yz_all
  have c_MOST_EXITS : ConstOk K mg "MOST_EXITS" (.int 24) := cst_int X G gc_MOST_EXITS
  have c_MOST_PLACES : ConstOk K mg "MOST_PLACES" (.int 4000) := cst_int X G gc_MOST_PLACES
  have c_MOST_PROCEDURES : ConstOk K mg "MOST_PROCEDURES" (.int 60) := cst_int X G gc_MOST_PROCEDURES
  have z_set : mg "set" = none := PySem.W.mg_none_of X G yz_set
  have z_sum : mg "sum" = none := PySem.W.mg_none_of X G yz_sum
  have c_MOST_NEXTS : ConstOk K mg "MOST_NEXTS" (.int 8) := cst_int X G gc_MOST_NEXTS
  have c_MOST_MARK : ConstOk K mg "MOST_MARK" (.int 9) := cst_int X G gc_MOST_MARK
  have z_enumerate : mg "enumerate" = none := PySem.W.mg_none_of X G yz_enumerate
  have z_list : mg "list" = none := PySem.W.mg_none_of X G yz_list
  have z_range : mg "range" = none := PySem.W.mg_none_of X G yz_range
  have z_min : mg "min" = none := PySem.W.mg_none_of X G yz_min
  refine ⟨_, fun s u => .of_eq rfl, fun base _ _ => ⟨mg, law_end hfa llaw ?_⟩⟩
  have o_is_int := ok_is_int (P := l.prog) (w := w) (base := base) Dis_int z_isinstance z_int z_bool
  have o_within := ok_within (P := l.prog) (w := w) (base := base) Dwithin o_is_int
  have o_is_row := ok_is_row (P := l.prog) (w := w) (base := base) Dis_row z_isinstance z_tuple z_len
  have o_is_low_name := ok_is_low_name (P := l.prog) (w := w) (base := base) Dis_low_name z_isinstance z_str z_len c_MOST_NAME c_WORDS c_SMALL c_DIGITS z_all
  have o_starts_of := ok_starts_of (P := l.prog) (w := w) (base := base) Dstarts_of z_len
  have o_is_head := ok_is_head (P := l.prog) (w := w) (base := base) Dis_head o_is_row o_is_low_name c_MOST_EXITS o_within c_MOST_PLACES
  have o_are_heads := ok_are_heads (P := l.prog) (w := w) (base := base) Dare_heads c_MOST_PROCEDURES o_is_row o_is_head z_all z_len z_set z_sum c_MOST_PLACES
  have o_are_places := ok_are_places (P := l.prog) (w := w) (base := base) Dare_places o_within z_all
  have o_is_move := ok_is_move (P := l.prog) (w := w) (base := base) Dis_move o_is_row o_within c_MOST_NEXTS o_are_places z_len z_set
  have o_is_call := ok_is_call (P := l.prog) (w := w) (base := base) Dis_call o_is_row z_len o_within o_are_places
  have o_is_exit := ok_is_exit (P := l.prog) (w := w) (base := base) Dis_exit o_is_row o_within
  have o_is_place := ok_is_place (P := l.prog) (w := w) (base := base) Dis_place o_is_row c_MOST_MARK o_within o_is_move o_is_call o_is_exit
  have o_is_program := ok_is_program (P := l.prog) (w := w) (base := base) Dis_program o_are_heads o_starts_of z_enumerate o_is_place
  have o__law_bag := ok__law_bag (P := l.prog) (w := w) (base := base) D_law_bag z_list
  have o__law_pick := ok__law_pick (P := l.prog) (w := w) (base := base) D_law_pick z_len z_int
  have o__law_name := ok__law_name (P := l.prog) (w := w) (base := base) D_law_name o__law_pick z_range z_str
  have o__law_nexts := ok__law_nexts (P := l.prog) (w := w) (base := base) D_law_nexts z_list z_range z_min o__law_pick z_len z_tuple
  have o__law_what := ok__law_what (P := l.prog) (w := w) (base := base) D_law_what o__law_pick o__law_nexts z_range z_tuple
  have o__law_program := ok__law_program (P := l.prog) (w := w) (base := base) D_law_program z_range o__law_pick o__law_name o__law_what z_tuple
  have o__law_flat := ok__law_flat (P := l.prog) (w := w) (base := base) D_law_flat z_list
  have o__law_bent := ok__law_bent (P := l.prog) (w := w) (base := base) D_law_bent 
  have o__law_bad_head := ok__law_bad_head (P := l.prog) (w := w) (base := base) D_law_bad_head o__law_pick z_str z_list
  have o__law_bad_nexts := ok__law_bad_nexts (P := l.prog) (w := w) (base := base) D_law_bad_nexts z_len o__law_pick z_range z_str z_list
  have o__law_bad_what := ok__law_bad_what (P := l.prog) (w := w) (base := base) D_law_bad_what o__law_flat z_len o__law_pick z_list z_str o__law_bad_nexts
  have o__law_bad_place := ok__law_bad_place (P := l.prog) (w := w) (base := base) D_law_bad_place z_len o__law_pick z_range z_sum z_list o__law_bent o__law_bad_what
  have o__law_many := ok__law_many (P := l.prog) (w := w) (base := base) D_law_many o__law_pick z_range z_str z_tuple z_len
  have o_law := ok_law (P := l.prog) (w := w) (base := base) Dlaw o__law_bag o__law_pick o__law_program o_is_program z_range z_len o__law_bad_head o__law_bad_place z_list o__law_many z_isinstance z_bool
  exact o_law
end D2
open PySem PySem.W PyProof.Rows
set_option maxRecDepth 100000 in
set_option maxHeartbeats 0 in
theorem PySem.Challenge.cw_callgames_k01_programs_judged_holds : PySem.Challenge.rw_callgames_k01_programs_judged.Holds := by
  w_on; o_law; k_head; (case hw => w_witness2)
  k_fill
  refine D2.walkD (l := PySem.Challenge.rw_callgames_k01_programs_judged) (lv := 7) (sp := D2.sp_law) rfl rfl ⟨rfl, by decide, by decide⟩ (fun w h Y => PySem.W.kIn_of Y) ?F (fun ns hl L hL => D2.law_holds ns hl L hL)
  case F =>
    intro w mg fa h KX G hmg
    refine' D2.all_mk KX G hmg ?ais_int ?lis_int ?cis_int ?kis_int ?awithin ?lwithin ?cwithin ?kwithin ?ais_row ?lis_row ?cis_row ?kis_row ?ais_low_name ?lis_low_name ?cis_low_name ?kis_low_name ?astarts_of ?lstarts_of ?cstarts_of ?kstarts_of ?ais_head ?lis_head ?cis_head ?kis_head ?aare_heads ?lare_heads ?care_heads ?kare_heads ?aare_places ?lare_places ?care_places ?kare_places ?ais_move ?lis_move ?cis_move ?kis_move ?ais_call ?lis_call ?cis_call ?kis_call ?ais_exit ?lis_exit ?cis_exit ?kis_exit ?ais_place ?lis_place ?cis_place ?kis_place ?ais_program ?lis_program ?cis_program ?kis_program ?a_law_bag ?l_law_bag ?c_law_bag ?k_law_bag ?a_law_pick ?l_law_pick ?c_law_pick ?k_law_pick ?a_law_name ?l_law_name ?c_law_name ?k_law_name ?a_law_nexts ?l_law_nexts ?c_law_nexts ?k_law_nexts ?a_law_what ?l_law_what ?c_law_what ?k_law_what ?a_law_program ?l_law_program ?c_law_program ?k_law_program ?a_law_flat ?l_law_flat ?c_law_flat ?k_law_flat ?a_law_bent ?l_law_bent ?c_law_bent ?k_law_bent ?a_law_bad_head ?l_law_bad_head ?c_law_bad_head ?k_law_bad_head ?a_law_bad_nexts ?l_law_bad_nexts ?c_law_bad_nexts ?k_law_bad_nexts ?a_law_bad_what ?l_law_bad_what ?c_law_bad_what ?k_law_bad_what ?a_law_bad_place ?l_law_bad_place ?c_law_bad_place ?k_law_bad_place ?a_law_many ?l_law_many ?c_law_many ?k_law_many ?alaw ?llaw ?claw ?klaw ?yz_isinstance ?yz_int ?yz_bool ?yz_tuple ?yz_len ?yz_str ?gc_MOST_NAME ?gc_WORDS ?Gc_WORDS ?gc_SMALL ?gc_DIGITS ?yz_all ?gc_MOST_EXITS ?gc_MOST_PLACES ?gc_MOST_PROCEDURES ?yz_set ?yz_sum ?gc_MOST_NEXTS ?gc_MOST_MARK ?yz_enumerate ?yz_list ?yz_range ?yz_min
    (case ais_int => first | k_is | k_exc | rfl); (case lis_int => first | k_is | k_exc | rfl); (case cis_int => first | k_is | k_exc | rfl); (case kis_int => first | k_is | k_exc | rfl); (case awithin => first | k_is | k_exc | rfl); (case lwithin => first | k_is | k_exc | rfl)
    (case cwithin => first | k_is | k_exc | rfl); (case kwithin => first | k_is | k_exc | rfl); (case ais_row => first | k_is | k_exc | rfl); (case lis_row => first | k_is | k_exc | rfl); (case cis_row => first | k_is | k_exc | rfl); (case kis_row => first | k_is | k_exc | rfl)
    (case ais_low_name => first | k_is | k_exc | rfl); (case lis_low_name => first | k_is | k_exc | rfl); (case cis_low_name => first | k_is | k_exc | rfl); (case kis_low_name => first | k_is | k_exc | rfl); (case astarts_of => first | k_is | k_exc | rfl); (case lstarts_of => first | k_is | k_exc | rfl)
    (case cstarts_of => first | k_is | k_exc | rfl); (case kstarts_of => first | k_is | k_exc | rfl); (case ais_head => first | k_is | k_exc | rfl); (case lis_head => first | k_is | k_exc | rfl); (case cis_head => first | k_is | k_exc | rfl); (case kis_head => first | k_is | k_exc | rfl)
    (case aare_heads => first | k_is | k_exc | rfl); (case lare_heads => first | k_is | k_exc | rfl); (case care_heads => first | k_is | k_exc | rfl); (case kare_heads => first | k_is | k_exc | rfl); (case aare_places => first | k_is | k_exc | rfl); (case lare_places => first | k_is | k_exc | rfl)
    (case care_places => first | k_is | k_exc | rfl); (case kare_places => first | k_is | k_exc | rfl); (case ais_move => first | k_is | k_exc | rfl); (case lis_move => first | k_is | k_exc | rfl); (case cis_move => first | k_is | k_exc | rfl); (case kis_move => first | k_is | k_exc | rfl)
    (case ais_call => first | k_is | k_exc | rfl); (case lis_call => first | k_is | k_exc | rfl); (case cis_call => first | k_is | k_exc | rfl); (case kis_call => first | k_is | k_exc | rfl); (case ais_exit => first | k_is | k_exc | rfl); (case lis_exit => first | k_is | k_exc | rfl)
    (case cis_exit => first | k_is | k_exc | rfl); (case kis_exit => first | k_is | k_exc | rfl); (case ais_place => first | k_is | k_exc | rfl); (case lis_place => first | k_is | k_exc | rfl); (case cis_place => first | k_is | k_exc | rfl); (case kis_place => first | k_is | k_exc | rfl)
    (case ais_program => first | k_is | k_exc | rfl); (case lis_program => first | k_is | k_exc | rfl); (case cis_program => first | k_is | k_exc | rfl); (case kis_program => first | k_is | k_exc | rfl); (case a_law_bag => first | k_is | k_exc | rfl); (case l_law_bag => first | k_is | k_exc | rfl)
    (case c_law_bag => first | k_is | k_exc | rfl); (case k_law_bag => first | k_is | k_exc | rfl); (case a_law_pick => first | k_is | k_exc | rfl); (case l_law_pick => first | k_is | k_exc | rfl); (case c_law_pick => first | k_is | k_exc | rfl); (case k_law_pick => first | k_is | k_exc | rfl)
    (case a_law_name => first | k_is | k_exc | rfl); (case l_law_name => first | k_is | k_exc | rfl); (case c_law_name => first | k_is | k_exc | rfl); (case k_law_name => first | k_is | k_exc | rfl); (case a_law_nexts => first | k_is | k_exc | rfl); (case l_law_nexts => first | k_is | k_exc | rfl)
    (case c_law_nexts => first | k_is | k_exc | rfl); (case k_law_nexts => first | k_is | k_exc | rfl); (case a_law_what => first | k_is | k_exc | rfl); (case l_law_what => first | k_is | k_exc | rfl); (case c_law_what => first | k_is | k_exc | rfl); (case k_law_what => first | k_is | k_exc | rfl)
    (case a_law_program => first | k_is | k_exc | rfl); (case l_law_program => first | k_is | k_exc | rfl); (case c_law_program => first | k_is | k_exc | rfl); (case k_law_program => first | k_is | k_exc | rfl); (case a_law_flat => first | k_is | k_exc | rfl); (case l_law_flat => first | k_is | k_exc | rfl)
    (case c_law_flat => first | k_is | k_exc | rfl); (case k_law_flat => first | k_is | k_exc | rfl); (case a_law_bent => first | k_is | k_exc | rfl); (case l_law_bent => first | k_is | k_exc | rfl); (case c_law_bent => first | k_is | k_exc | rfl); (case k_law_bent => first | k_is | k_exc | rfl)
    (case a_law_bad_head => first | k_is | k_exc | rfl); (case l_law_bad_head => first | k_is | k_exc | rfl); (case c_law_bad_head => first | k_is | k_exc | rfl); (case k_law_bad_head => first | k_is | k_exc | rfl); (case a_law_bad_nexts => first | k_is | k_exc | rfl); (case l_law_bad_nexts => first | k_is | k_exc | rfl)
    (case c_law_bad_nexts => first | k_is | k_exc | rfl); (case k_law_bad_nexts => first | k_is | k_exc | rfl); (case a_law_bad_what => first | k_is | k_exc | rfl); (case l_law_bad_what => first | k_is | k_exc | rfl); (case c_law_bad_what => first | k_is | k_exc | rfl); (case k_law_bad_what => first | k_is | k_exc | rfl)
    (case a_law_bad_place => first | k_is | k_exc | rfl); (case l_law_bad_place => first | k_is | k_exc | rfl); (case c_law_bad_place => first | k_is | k_exc | rfl); (case k_law_bad_place => first | k_is | k_exc | rfl); (case a_law_many => first | k_is | k_exc | rfl); (case l_law_many => first | k_is | k_exc | rfl)
    (case c_law_many => first | k_is | k_exc | rfl); (case k_law_many => first | k_is | k_exc | rfl); (case alaw => first | k_is | k_exc | rfl); (case llaw => first | k_is | k_exc | rfl); (case claw => first | k_is | k_exc | rfl); (case klaw => first | k_is | k_exc | rfl)
    (case yz_isinstance => first | k_is | k_exc | rfl); (case yz_int => first | k_is | k_exc | rfl); (case yz_bool => first | k_is | k_exc | rfl); (case yz_tuple => first | k_is | k_exc | rfl); (case yz_len => first | k_is | k_exc | rfl); (case yz_str => first | k_is | k_exc | rfl)
    (case gc_MOST_NAME => first | k_is | k_exc | rfl); (case gc_WORDS => first | k_is | k_exc | rfl); (case Gc_WORDS => first | k_is | k_exc | rfl); (case gc_SMALL => first | k_is | k_exc | rfl); (case gc_DIGITS => first | k_is | k_exc | rfl); (case yz_all => first | k_is | k_exc | rfl)
    (case gc_MOST_EXITS => first | k_is | k_exc | rfl); (case gc_MOST_PLACES => first | k_is | k_exc | rfl); (case gc_MOST_PROCEDURES => first | k_is | k_exc | rfl); (case yz_set => first | k_is | k_exc | rfl); (case yz_sum => first | k_is | k_exc | rfl); (case gc_MOST_NEXTS => first | k_is | k_exc | rfl)
    (case gc_MOST_MARK => first | k_is | k_exc | rfl); (case yz_enumerate => first | k_is | k_exc | rfl); (case yz_list => first | k_is | k_exc | rfl); (case yz_range => first | k_is | k_exc | rfl); (case yz_min => first | k_is | k_exc | rfl)

