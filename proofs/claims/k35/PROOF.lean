import PyProof.Rows.All
import Wide.All
import OpenK.AllK
import Wide.FinOn
import HandS.Base
import HandS.Call
import HandS.List
import HandS.Comp
import HandS.Exc
import HandS.TryOnly
import HandS.TryMany
import HandS.ExcOwn
import HandS.Words
import HandS.WordsExc
import HandS.Iter
import HandS.Wide
import HandS.WideBits
import HandS.Text
import HandS.IsInst
import HandS.Conv
import HandS.Style
import PySem.Challenge.RW_callgames_k35_marks_of_a_player
set_option Elab.async false
set_option linter.all false
set_option maxRecDepth 100000
set_option maxHeartbeats 1000000
/-! the D layer: values as pure data, lists by address, over the hand layer -/
namespace D2
open PySem PySem.Spec L2

/-! ### data -/
inductive D where
  | non | bl (b : Bool) | int (i : Int) | str (x : Str) | tup (xs : List D) | lro (xs : List D) | ref (a : Addr)
deriving Inhabited

/-- a list that is never written -/
def FzL (K : PySem.W.Frag) (H : Hp) (a : Addr) (xs : List V) : Prop :=
  (∃ o, H a = some (.frz o (.lst xs))) ∨
    ∃ (o : Obj) (its : Array Value) (n : Nat), K.lookup a = some o ∧ o.cls = .type "list" ∧ o.dict = none ∧ o.data = .seq its n ∧ its.size ≤ sizeLine ∧ Vals xs its.toList
theorem FzL.sq {K : PySem.W.Frag} {H : Hp} {a : Addr} {xs : List V} (h : FzL K H a xs) : SqL K H a xs := by
  rcases h with ⟨o, h⟩ | h
  · exact .inl (.inr ⟨o, h⟩)
  · exact .inr h
mutual
/-- v stands for d -/
def Rep (K : PySem.W.Frag) (H : Hp) : D → V → Prop
  | .non, v => v = .non
  | .bl b, v => v = .bl b
  | .int i, v => v = .int i
  | .str x, v => v = .str x ∧ PyData.strOk x = true
  | .tup ds, v => ∃ a vs, v = .ref a ∧ SqT K H a vs ∧ RepL K H ds vs
  | .lro ds, v => ∃ a vs, v = .ref a ∧ FzL K H a vs ∧ RepL K H ds vs
  | .ref a, v => v = .ref a
def RepL (K : PySem.W.Frag) (H : Hp) : List D → List V → Prop
  | [], vs => vs = []
  | d :: ds, vs => ∃ v r, vs = v :: r ∧ Rep K H d v ∧ RepL K H ds r
end
/-- an object that is never written -/
def Im : HO → Prop
  | .tup _ => True
  | .frz _ (.tup _) => True
  | .frz _ (.lst _) => True
  | _ => False
def TK (H H' : Hp) : Prop := ∀ a o, H a = some o → Im o → H' a = some o
theorem TK.refl (H : Hp) : TK H H := fun _ _ h _ => h
theorem TK.trans {H H1 H2 : Hp} (a : TK H H1) (b : TK H1 H2) : TK H H2 := fun c o h i => b c o (a c o h i) i
theorem TK.sqT {K : PySem.W.Frag} {H H' : Hp} (k : TK H H') {a : Addr} {xs : List V} (h : SqT K H a xs) : SqT K H' a xs := by
  rcases h with (h | ⟨o, h⟩) | h
  · exact .inl (.inl (k _ _ h trivial))
  · exact .inl (.inr ⟨o, k _ _ h trivial⟩)
  · exact .inr h
theorem TK.fzL {K : PySem.W.Frag} {H H' : Hp} (k : TK H H') {a : Addr} {xs : List V} (h : FzL K H a xs) : FzL K H' a xs := by
  rcases h with ⟨o, h⟩ | h
  · exact .inl ⟨o, k _ _ h trivial⟩
  · exact .inr h
mutual
theorem Rep.tk {K : PySem.W.Frag} {H H' : Hp} (k : TK H H') : ∀ (d : D) (v : V), Rep K H d v → Rep K H' d v
  | .non, _, h => h
  | .bl _, _, h => h
  | .int _, _, h => h
  | .str _, _, h => h
  | .ref _, _, h => h
  | .tup ds, _, ⟨a, vs, e, h, r⟩ => ⟨a, vs, e, k.sqT h, RepL.tk k ds vs r⟩
  | .lro ds, _, ⟨a, vs, e, h, r⟩ => ⟨a, vs, e, k.fzL h, RepL.tk k ds vs r⟩
theorem RepL.tk {K : PySem.W.Frag} {H H' : Hp} (k : TK H H') : ∀ (ds : List D) (vs : List V), RepL K H ds vs → RepL K H' ds vs
  | [], _, h => h
  | d :: ds, _, ⟨v, r, e, h, q⟩ => ⟨v, r, e, Rep.tk k d v h, RepL.tk k ds r q⟩
end
section
variable {K : PySem.W.Frag} {H : Hp}
theorem RepL.length : ∀ {ds : List D} {vs : List V}, RepL K H ds vs → ds.length = vs.length
  | [], _, h => by cases (show _ = [] from h); rfl
  | d :: ds, _, ⟨v, r, e, _, q⟩ => by subst e; simp [RepL.length q]
theorem RepL.get : ∀ {ds : List D} {vs : List V} {i : Nat} {d : D}, RepL K H ds vs → ds[i]? = some d → ∃ v, vs[i]? = some v ∧ Rep K H d v
  | [], _, _, _, _, e => by simp at e
  | d :: ds, _, 0, x, ⟨v, r, e, h, q⟩, e2 => by subst e; simp at e2; subst e2; exact ⟨v, rfl, h⟩
  | d :: ds, _, i + 1, x, ⟨v, r, e, h, q⟩, e2 => by
    subst e
    obtain ⟨u, h1, h2⟩ := RepL.get (i := i) (d := x) q (by simpa using e2)
    exact ⟨u, by simpa using h1, h2⟩
theorem RepL.append : ∀ {ds es : List D} {vs us : List V}, RepL K H ds vs → RepL K H es us → RepL K H (ds ++ es) (vs ++ us)
  | [], _, _, _, h, q => by cases (show _ = [] from h); exact q
  | d :: ds, _, _, _, ⟨v, r, e, h, q⟩, q2 => by subst e; exact ⟨v, r ++ _, rfl, h, RepL.append q q2⟩
theorem RepL.take : ∀ (n : Nat) {ds : List D} {vs : List V}, RepL K H ds vs → RepL K H (ds.take n) (vs.take n)
  | 0, _, _, _ => by simp [RepL]
  | n + 1, [], _, h => by cases (show _ = [] from h); simp [RepL]
  | n + 1, d :: ds, _, ⟨v, r, e, h, q⟩ => by subst e; exact ⟨v, r.take n, rfl, h, RepL.take n q⟩
theorem RepL.drop : ∀ (n : Nat) {ds : List D} {vs : List V}, RepL K H ds vs → RepL K H (ds.drop n) (vs.drop n)
  | 0, _, _, h => by simpa using h
  | n + 1, [], _, h => by cases (show _ = [] from h); simp [RepL]
  | n + 1, d :: ds, _, ⟨v, r, e, h, q⟩ => by subst e; simpa using RepL.drop n q
theorem RepL.set : ∀ (i : Nat) {ds : List D} {vs : List V} {d : D} {v : V}, Rep K H d v → RepL K H ds vs → RepL K H (ds.set i d) (vs.set i v)
  | _, [], _, _, _, _, h => by cases (show _ = [] from h); simp [RepL]
  | 0, d :: ds, _, _, _, r0, ⟨v, r, e, h, q⟩ => by subst e; exact ⟨_, r, rfl, r0, q⟩
  | i + 1, d :: ds, _, _, _, r0, ⟨v, r, e, h, q⟩ => by subst e; exact ⟨v, _, rfl, h, RepL.set i r0 q⟩
theorem RepL.eraseIdx : ∀ (i : Nat) {ds : List D} {vs : List V}, RepL K H ds vs → RepL K H (ds.eraseIdx i) (vs.eraseIdx i)
  | _, [], _, h => by cases (show _ = [] from h); simp [RepL]
  | 0, d :: ds, _, ⟨v, r, e, h, q⟩ => by subst e; exact q
  | i + 1, d :: ds, _, ⟨v, r, e, h, q⟩ => by subst e; exact ⟨v, _, rfl, h, RepL.eraseIdx i q⟩
theorem RepL.reverse {ds : List D} {vs : List V} (h : RepL K H ds vs) : RepL K H ds.reverse vs.reverse := by
  induction ds generalizing vs with
  | nil => cases (show _ = [] from h); simp [RepL]
  | cons d ds ih =>
    obtain ⟨v, r, e, h, q⟩ := h
    subst e
    rw [List.reverse_cons, List.reverse_cons]
    exact RepL.append (ih q) ⟨v, [], rfl, h, rfl⟩
theorem RepL.one {d : D} {v : V} (h : Rep K H d v) : RepL K H [d] [v] := ⟨v, [], rfl, h, rfl⟩
theorem RepL.dropLast {ds : List D} {vs : List V} (h : RepL K H ds vs) : RepL K H ds.dropLast vs.dropLast := by
  rw [List.dropLast_eq_take, List.dropLast_eq_take, h.length]; exact RepL.take _ h
theorem RepL.rep {ds : List D} {vs : List V} (h : RepL K H ds vs) : ∀ k : Nat, RepL K H (List.replicate k ds).flatten (List.replicate k vs).flatten
  | 0 => by simp [RepL]
  | k + 1 => by simp only [List.replicate_succ, List.flatten_cons]; exact RepL.append h (RepL.rep h k)
theorem RepL.none_of {ds : List D} {vs : List V} {i : Nat} (h : RepL K H ds vs) (e : ds[i]? = none) : vs[i]? = none := by
  have := h.length
  rw [List.getElem?_eq_none_iff] at e ⊢
  omega
theorem repL_ints : ∀ {ns : List Int} {vs : List V}, RepL K H (ns.map D.int) vs → vs = ns.map V.int
  | [], _, h => h
  | n :: ns, _, ⟨v, r, e, h, q⟩ => by subst e; cases (show v = _ from h); rw [repL_ints q]; rfl
theorem repL_of_ints : ∀ (ns : List Int), RepL K H (ns.map D.int) (ns.map V.int)
  | [] => rfl
  | n :: ns => ⟨_, _, rfl, rfl, repL_of_ints ns⟩
theorem repL_strs : ∀ {ns : List Str} {vs : List V}, RepL K H (ns.map D.str) vs → vs = ns.map V.str
  | [], _, h => h
  | n :: ns, _, ⟨v, r, e, h, q⟩ => by subst e; cases (show v = _ from h.1); rw [repL_strs q]; rfl
theorem repL_bls : ∀ {ns : List Bool} {vs : List V}, RepL K H (ns.map D.bl) vs → vs = ns.map V.bl
  | [], _, h => h
  | n :: ns, _, ⟨v, r, e, h, q⟩ => by subst e; cases (show v = _ from h); rw [repL_bls q]; rfl
end

/-! ### lists by address -/
inductive DO where
  | lst (ds : List D)
abbrev DH := Addr → Option DO
def upd (L : DH) (a : Addr) (o : DO) : DH := fun b => if b = a then some o else L b
theorem updD_same {L : DH} {a : Addr} {o : DO} : upd L a o a = some o := by unfold upd; rw [if_pos rfl]
theorem updD_ne {L : DH} {a b : Addr} {o : DO} (h : b ≠ a) : upd L a o b = L b := by unfold upd; rw [if_neg h]
theorem updD_upd {L : DH} {a : Addr} {o u : DO} : upd (upd L a o) a u = upd L a u := by
  funext b; unfold upd; split <;> rfl
def OkO (K : PySem.W.Frag) (H : Hp) (a : Addr) : DO → Prop
  | .lst ds => ∃ vs, H a = some (.lst vs) ∧ RepL K H ds vs
def HR (K : PySem.W.Frag) (H : Hp) (L : DH) : Prop := ∀ a o, L a = some o → OkO K H a o
/-- what is not in L stays -/
def Kp (H : Hp) (L : DH) (H' : Hp) (L' : DH) : Prop := ∀ a o, H a = some o → L a = none → H' a = some o ∧ L' a = none
section
variable {K : PySem.W.Frag} {H H' H1 H2 : Hp} {L L' L1 LB : DH}
theorem Kp.refl : Kp H L H L := fun _ _ h n => ⟨h, n⟩
theorem Kp.trans (a : Kp H L H1 L1) (b : Kp H1 L1 H2 LB) : Kp H L H2 LB := fun c o h n => b c o (a c o h n).1 (a c o h n).2
theorem OkO.lst_of {a : Addr} {o : DO} (h : OkO K H a o) : ∃ vs, H a = some (.lst vs) := by
  cases o with | lst ds => obtain ⟨vs, h, _⟩ := h; exact ⟨vs, h⟩
theorem HR.free (r : HR K H L) {a : Addr} (h : H a = none) : L a = none := by
  cases e : L a with
  | none => rfl
  | some o =>
    obtain ⟨vs, q⟩ := (r a o e).lst_of
    rw [h] at q; cases q
theorem Kp.tk (k : Kp H L H' L') (r : HR K H L) : TK H H' := fun a o h i => by
  refine (k a o h ?_).1
  cases e : L a with
  | none => rfl
  | some u =>
    obtain ⟨vs, q⟩ := (r a u e).lst_of
    rw [h] at q; cases q; exact i.elim
theorem OkO.tk (k : TK H H') {a : Addr} {o : DO} (h : OkO K H a o) (e : ∀ u, H a = some u → H' a = some u) : OkO K H' a o := by
  cases o with | lst ds => obtain ⟨vs, h, r⟩ := h; exact ⟨vs, e _ h, RepL.tk k ds vs r⟩
/-- a smaller L -/
def Le (L' L : DH) : Prop := ∀ a o, L' a = some o → L a = some o
theorem Le.refl : Le L L := fun _ _ h => h
theorem Le.trans (a : Le L L1) (b : Le L1 L2) : Le L L2 := fun c o h => b c o (a c o h)
theorem Le.none (l : Le L' L) {a : Addr} (h : L a = none) : L' a = none := by
  cases e : L' a with
  | none => rfl
  | some o => rw [l a o e] at h; cases h
theorem HR.le (r : HR K H L) (l : Le L' L) : HR K H L' := fun a o h => r a o (l a o h)
theorem Kp.le (k : Kp H L H' L1) (l : Le L' L1) : Kp H L H' L' := fun a o h n => ⟨(k a o h n).1, l.none (k a o h n).2⟩
theorem Le.upd {a : Addr} {o : DO} (h : L a = Option.none) : Le L (upd L a o) := fun b u e => by
  rw [updD_ne (by rintro rfl; rw [h] at e; cases e)]; exact e
/-- a new list -/
theorem HR.new (r : HR K H L) {p : Addr} {ds : List D} {vs : List V} (hp : H p = none) (q : RepL K H ds vs) :
    HR K (L2.upd H p (.lst vs)) (upd L p (.lst ds)) ∧ Kp H L (L2.upd H p (.lst vs)) (upd L p (.lst ds)) := by
  have tk : TK H (L2.upd H p (.lst vs)) := fun a o h _ => by rw [upd_ne (ne_of_none h hp)]; exact h
  refine ⟨fun a o h => ?_, fun a o h n => ⟨by rw [upd_ne (ne_of_none h hp)]; exact h, by rw [updD_ne (ne_of_none h hp)]; exact n⟩⟩
  by_cases e : a = p
  · subst e
    rw [updD_same] at h; cases h
    exact ⟨vs, upd_same, RepL.tk tk ds vs q⟩
  · rw [updD_ne e] at h
    exact (r a o h).tk tk fun u hu => by rw [upd_ne e]; exact hu
/-- a list written -/
theorem HR.set (r : HR K H L) {p : Addr} {es ds : List D} {vs : List V} (hp : L p = some (.lst es)) (q : RepL K H ds vs) :
    HR K (L2.upd H p (.lst vs)) (upd L p (.lst ds)) ∧ Kp H L (L2.upd H p (.lst vs)) (upd L p (.lst ds)) := by
  obtain ⟨us, hu, _⟩ := r p _ hp
  have ne : ∀ a, L a = none → a ≠ p := fun a n e => by subst e; rw [n] at hp; cases hp
  have tk : TK H (L2.upd H p (.lst vs)) := fun a o h i => by
    rw [upd_ne]; exact h
    rintro rfl
    rw [hu] at h; cases h; exact i.elim
  refine ⟨fun a o h => ?_, fun a o h n => ⟨by rw [upd_ne (ne a n)]; exact h, by rw [updD_ne (ne a n)]; exact n⟩⟩
  by_cases e : a = p
  · subst e
    rw [updD_same] at h; cases h
    exact ⟨vs, upd_same, RepL.tk tk ds vs q⟩
  · rw [updD_ne e] at h
    exact (r a o h).tk tk fun u hu => by rw [upd_ne e]; exact hu
/-- another new object (a tuple) -/
theorem HR.laid (r : HR K H L) {p : Addr} {o : HO} (hp : H p = none) : HR K (L2.upd H p o) L ∧ Kp H L (L2.upd H p o) L := by
  have tk : TK H (L2.upd H p o) := fun a o h _ => by rw [upd_ne (ne_of_none h hp)]; exact h
  refine ⟨fun a o h => ?_, fun a o h n => ⟨by rw [upd_ne (ne_of_none h hp)]; exact h, n⟩⟩
  have ne : a ≠ p := by rintro rfl; rw [r.free hp] at h; cases h
  exact (r a o h).tk tk fun u hu => by rw [upd_ne ne]; exact hu
theorem HR.tk_new {p : Addr} {o : HO} (hp : H p = none) : TK H (L2.upd H p o) := fun a o h _ => by rw [upd_ne (ne_of_none h hp)]; exact h
end

/-! ### slots -/
abbrev DSt := List (Option D)
def SR (K : PySem.W.Frag) (H : Hp) (s : DSt) (σ : St) : Prop := s.length = σ.length ∧ ∀ (i : Nat) (d : D), s[i]? = some (some d) → ∃ v, σ[i]? = some (some v) ∧ Rep K H d v
section
variable {K : PySem.W.Frag} {H H' : Hp} {s : DSt} {σ : St}
theorem SR.tk (k : TK H H') (h : SR K H s σ) : SR K H' s σ := ⟨h.1, fun i d e => let ⟨v, e2, r⟩ := h.2 i d e; ⟨v, e2, Rep.tk k d v r⟩⟩
theorem SR.set (h : SR K H s σ) {d : D} {v : V} (r : Rep K H d v) (i : Nat) : SR K H (s.set i (some d)) (σ.set i (some v)) := by
  refine ⟨by simp [h.1], fun j e q => ?_⟩
  by_cases hj : i = j
  · subst hj
    rw [List.getElem?_set] at q
    simp at q
    obtain ⟨hl, e'⟩ := q
    rw [← e']
    refine ⟨v, ?_, r⟩
    rw [List.getElem?_set]
    simp [h.1 ▸ hl]
  · rw [List.getElem?_set_ne hj] at q
    obtain ⟨u, e2, r2⟩ := h.2 j e q
    exact ⟨u, by rw [List.getElem?_set_ne hj]; exact e2, r2⟩
theorem SR.none (h : SR K H s σ) (i : Nat) (o : Option V) : SR K H (s.set i none) (σ.set i o) := by
  refine ⟨by simp [h.1], fun j e q => ?_⟩
  by_cases hj : i = j
  · subst hj
    rw [List.getElem?_set] at q
    simp at q
  · rw [List.getElem?_set_ne hj] at q
    obtain ⟨u, e2, r2⟩ := h.2 j e q
    exact ⟨u, by rw [List.getElem?_set_ne hj]; exact e2, r2⟩
end
def dstart (n : Nat) (ds : List D) : DSt := ds.map some ++ List.replicate (n - ds.length) none
theorem RepL.slots {K : PySem.W.Frag} {H : Hp} {ds : List D} {vs : List V} (h : RepL K H ds vs) (N : List Str) : SR K H (dstart N.length ds) (L2.start N vs) := by
  refine ⟨by simp [dstart, L2.start, h.length], fun i d e => ?_⟩
  unfold dstart at e
  unfold L2.start
  by_cases hi : i < ds.length
  · rw [List.getElem?_append_left (by simpa using hi)] at e
    rw [List.getElem?_append_left (by simpa [← h.length] using hi)]
    rw [List.getElem?_map] at e ⊢
    cases q : ds[i]? with
    | none => rw [q] at e; cases e
    | some d' =>
      rw [q] at e
      have e' : d' = d := by simpa using e
      subst e'
      obtain ⟨v, h1, h2⟩ := h.get q
      exact ⟨v, by rw [h1]; rfl, h2⟩
  · rw [List.getElem?_append_right (by simpa using Nat.le_of_not_lt hi)] at e
    rw [List.getElem?_replicate] at e
    split at e <;> cases e

/-! ### expressions -/
/-- the written part, the module's names -/
structure KM where
  K : PySem.W.Frag
  mg : Str → Option Value
abbrev XD := Str → List (Str × D) → DH → Prop
abbrev DK := D → DH → Prop
abbrev DE := DSt → DH → DK → XD → Prop
abbrev DT := DSt → DH → (Bool → DH → Prop) → XD → Prop
abbrev DA := DSt → DH → (List D → DH → Prop) → XD → Prop
/-- an exception with its fields -/
def FRep (K : PySem.W.Frag) (H : Hp) : List (Str × D) → List (Str × V) → Prop
  | [], vs => vs = []
  | (f, d) :: fs, vs => ∃ v r, vs = (f, v) :: r ∧ Rep K H d v ∧ FRep K H fs r
def XRep (M : KM) (H : Hp) (C : Str) (fs : List (Str × D)) (cls : Value) (dx : Option Addr) : Prop :=
  M.mg C = some cls ∧ (fs = [] ∨ ∃ d vs, dx = some d ∧ H d = some (.xd vs) ∧ FRep M.K H fs vs)
/-- what stands behind an expression -/
structure LP (M : KM) (W : WX) (σ : St) (H : Hp) (L : DH) (E : XD) : Prop where
  ex : ∀ C fs L' cls dx H', E C fs L' → XRep M H' C fs cls dx → HR M.K H' L' → Kp H L H' L' → W cls dx σ H'
def liftE (M : KM) (W : WX) (de : DE) : TE := fun σ H Q => ∃ s L Qd Ed, SR M.K H s σ ∧ HR M.K H L ∧ de s L Qd Ed ∧
  (∀ d L' v H', Qd d L' → Rep M.K H' d v → HR M.K H' L' → Kp H L H' L' → Q v H') ∧ LP M W σ H L Ed
def liftT (M : KM) (W : WX) (de : DT) : TT := fun σ H Q => ∃ s L Qd Ed, SR M.K H s σ ∧ HR M.K H L ∧ de s L Qd Ed ∧
  (∀ b L' H', Qd b L' → HR M.K H' L' → Kp H L H' L' → Q b H') ∧ LP M W σ H L Ed
def liftA (M : KM) (W : WX) (de : DA) : TA := fun σ H Q => ∃ s L Qd Ed, SR M.K H s σ ∧ HR M.K H L ∧ de s L Qd Ed ∧
  (∀ ds L' vs H', Qd ds L' → RepL M.K H' ds vs → HR M.K H' L' → Kp H L H' L' → Q vs H') ∧ LP M W σ H L Ed
section
variable {M : KM} {W : WX} {σ : St} {H H1 : Hp} {L L1 : DH} {Ed : XD}
theorem LP.after (h : LP M W σ H L Ed) (k : Kp H L H1 L1) : LP M W σ H1 L1 Ed := ⟨fun C fs L' cls dx H' e x r k' => h.ex C fs L' cls dx H' e x r (k.trans k')⟩
end
theorem PE_mono {X : Cx} {e : Expr} {t t' : TE} (h : PE X e t) (i : ∀ σ H Q, t' σ H Q → t σ H Q) : PE X e t' := ⟨fun pins s σ H Q I q => h.run pins s σ H Q I (i σ H Q q)⟩
theorem PT_mono {X : Cx} {e : Expr} {t t' : TT} (h : PT X e t) (i : ∀ σ H Q, t' σ H Q → t σ H Q) : PT X e t' := ⟨fun pins s σ H Q I q => h.run pins s σ H Q I (i σ H Q q)⟩
theorem PW_mono {X : Cx} {e : Expr} {t t' : TT} (h : PW X e t) (i : ∀ σ H Q, t' σ H Q → t σ H Q) : PW X e t' := ⟨fun wh pins s σ H Q I q => h.run wh pins s σ H Q I (i σ H Q q)⟩
theorem PA_mono {X : Cx} {e : List Expr} {t t' : TA} (h : PA X e t) (i : ∀ σ H Q, t' σ H Q → t σ H Q) : PA X e t' := ⟨fun pos pins s σ H Q I q => h.run pos pins s σ H Q I (i σ H Q q)⟩
theorem PS_mono {X : Cx} {e : Stmt} {t t' : TS} (h : PS X e t) (i : ∀ D σ H, t' D σ H → t D σ H) : PS X e t' := ⟨fun pins s σ H D I q => h.run pins s σ H D I (i D σ H q)⟩
theorem PSs_mono {X : Cx} {e : List Stmt} {t t' : TS} (h : PSs X e t) (i : ∀ D σ H, t' D σ H → t D σ H) : PSs X e t' := ⟨fun pins s σ H D I q => h.run pins s σ H D I (i D σ H q)⟩
abbrev _root_.L2.Cx.km (X : Cx) : KM := ⟨X.K, X.mg⟩
/-- the judgements -/
structure QE (X : Cx) (W : WX) (e : Expr) (de : DE) : Prop where
  pe : PE X e (liftE X.km W de)
structure QT (X : Cx) (W : WX) (e : Expr) (de : DT) : Prop where
  pt : PT X e (liftT X.km W de)
structure QW (X : Cx) (W : WX) (e : Expr) (de : DT) : Prop where
  pw : PW X e (liftT X.km W de)
structure QA (X : Cx) (W : WX) (es : List Expr) (de : DA) : Prop where
  pa : PA X es (liftA X.km W de)

section
variable {M : KM} {W : WX} {σ : St} {H : Hp}
/-- one expression, then the rest -/
theorem liftE_bind {da : DE} {s : DSt} {L : DH} {Qd : DK} {Ed : XD} {R : VK} (hs : SR M.K H s σ) (hr : HR M.K H L) (lp : LP M W σ H L Ed) (h : da s L Qd Ed)
    (hk : ∀ d L1 x H1, Qd d L1 → Rep M.K H1 d x → HR M.K H1 L1 → Kp H L H1 L1 → SR M.K H1 s σ → TK H H1 → LP M W σ H1 L1 Ed → R x H1) : liftE M W da σ H R :=
  ⟨s, L, Qd, Ed, hs, hr, h, fun d L1 x H1 q r r1 k => hk d L1 x H1 q r r1 k (hs.tk (k.tk hr)) (k.tk hr) (lp.after k), lp⟩
theorem liftT_bind {da : DT} {s : DSt} {L : DH} {Qd : Bool → DH → Prop} {Ed : XD} {R : Bool → Hp → Prop} (hs : SR M.K H s σ) (hr : HR M.K H L) (lp : LP M W σ H L Ed) (h : da s L Qd Ed)
    (hk : ∀ d L1 H1, Qd d L1 → HR M.K H1 L1 → Kp H L H1 L1 → SR M.K H1 s σ → TK H H1 → LP M W σ H1 L1 Ed → R d H1) : liftT M W da σ H R :=
  ⟨s, L, Qd, Ed, hs, hr, h, fun d L1 H1 q r1 k => hk d L1 H1 q r1 k (hs.tk (k.tk hr)) (k.tk hr) (lp.after k), lp⟩
theorem liftA_bind {da : DA} {s : DSt} {L : DH} {Qd : List D → DH → Prop} {Ed : XD} {R : List V → Hp → Prop} (hs : SR M.K H s σ) (hr : HR M.K H L) (lp : LP M W σ H L Ed) (h : da s L Qd Ed)
    (hk : ∀ d L1 x H1, Qd d L1 → RepL M.K H1 d x → HR M.K H1 L1 → Kp H L H1 L1 → SR M.K H1 s σ → TK H H1 → LP M W σ H1 L1 Ed → R x H1) : liftA M W da σ H R :=
  ⟨s, L, Qd, Ed, hs, hr, h, fun d L1 x H1 q r r1 k => hk d L1 x H1 q r r1 k (hs.tk (k.tk hr)) (k.tk hr) (lp.after k), lp⟩
end
/-! names, constants -/
def dVar (i : Nat) : DE := fun s L Q _ => ∃ d, s[i]? = some (some d) ∧ Q d L
def dC (d : D) : DE := fun _ L Q _ => Q d L
section
variable {X : Cx} {W : WX} {pos : Pos} {a b c : Expr} {da db dc : DE}
theorem qv (i : Nat) {x : Str} (hN : X.N[i]? = some x := by rfl) (hv : Vis X.env.scope x := by first | exact Or.inl rfl | exact Or.inr (Or.inl rfl) | exact Or.inr (Or.inr rfl)) (hd : (x == ("__debug__" : Str)) = false := by decide)
    (hcd : (x == ("__classdict__" : Str)) = false := by decide) : QE X W (.Name x pos) (dVar i) :=
  ⟨PE_mono (pe_var hN hv hd hcd) fun σ H Q ⟨s, L, Qd, Ed, hs, hr, ⟨d, e, q⟩, hq, lp⟩ =>
    let ⟨v, e2, r⟩ := hs.2 i d e
    ⟨v, e2, hq d L v H q r hr .refl⟩⟩
theorem q_const {e : Expr} {v : V} {d : D} (h : PE X e (tC v)) (r : ∀ H, Rep X.K H d v) : QE X W e (dC d) :=
  ⟨PE_mono h fun σ H Q ⟨s, L, Qd, Ed, hs, hr, h, hq, lp⟩ => hq d L v H h (r H) hr .refl⟩
theorem q_int {i : Int} {j : Nat} : QE X W (.Constant (.int i) j pos) (dC (.int i)) := q_const pe_int fun _ => rfl
theorem q_bl {i : Bool} {j : Nat} : QE X W (.Constant (.bool i) j pos) (dC (.bl i)) := q_const pe_bl fun _ => rfl
theorem q_non {j : Nat} : QE X W (.Constant .none j pos) (dC .non) := q_const pe_non fun _ => rfl
theorem q_str {i : Str} {j : Nat} (h : PyData.strOk i = true := by decide +kernel) : QE X W (.Constant (.str i) j pos) (dC (.str i)) := q_const pe_str fun _ => ⟨rfl, h⟩
theorem q_glob {x : Str} {v : V} {d : D} {u : Value} (hg : Gl X x) (hm : X.mg x = some u) (rl : RelV v u) (r : ∀ H, Rep X.K H d v) (hd : (x == ("__debug__" : Str)) = false := by decide) : QE X W (.Name x pos) (dC d) := q_const (pe_glob hg hm rl hd) r
/-! operators by values -/
abbrev RD2 := D → D → DH → DK → Prop
def OpD (K : PySem.W.Frag) (r : R2) (rD : RD2) : Prop := ∀ (H : Hp) (L : DH) (d e : D) (x y : V) (Qd : DK) (Q : VK), Rep K H d x → Rep K H e y → HR K H L → rD d e L Qd →
  (∀ d' L' v H', Qd d' L' → Rep K H' d' v → HR K H' L' → Kp H L H' L' → Q v H') → r x y H Q
def dOp (rD : RD2) (da db : DE) : DE := fun s L Q E => da s L (fun x L1 => db s L1 (fun y L2 => rD x y L2 Q) E) E
theorem lift_op {r : R2} {rD : RD2} {M : KM} (h : OpD M.K r rD) {σ : St} {H : Hp} {Q : VK} (q : liftE M W (dOp rD da db) σ H Q) : tOp r (liftE M W da) (liftE M W db) σ H Q := by
  obtain ⟨s, L, Qd, Ed, hs, hr, q, hq, lp⟩ := q
  refine liftE_bind hs hr lp q fun d L1 x H1 q1 r1 hr1 k1 hs1 t1 lp1 => ?_
  refine liftE_bind hs1 hr1 lp1 q1 fun e L2 y H2 q2 r2 hr2 k2 hs2 t2 lp2 => ?_
  exact h H2 L2 d e x y Qd Q (Rep.tk t2 _ _ r1) r2 hr2 q2 fun d' L' v H' a b c k => hq d' L' v H' a b c ((k1.trans k2).trans k)
theorem q_op {op : Operator} {r : R2} {rD : RD2} (ho : OpR X (binaryOp op) r) (h : OpD X.K r rD) (ha : QE X W a da) (hb : QE X W b db) : QE X W (.BinOp a op b pos) (dOp rD da db) :=
  ⟨PE_mono (pe_op ho ha.pe hb.pe) fun _ _ _ q => lift_op h q⟩
theorem q_cmp {op : CmpOp} {r : R2} {rD : RD2} (ho : OpR X (compareOp op) r) (h : OpD X.K r rD) (ha : QE X W a da) (hb : QE X W b db) (hm : behindInMarks op b = false) : QE X W (.Compare a [op] [b] pos) (dOp rD da db) :=
  ⟨PE_mono (pe_cmpR ho ha.pe hb.pe hm) fun _ _ _ q => lift_op h q⟩
theorem q_ix {r : R2} {rD : RD2} (hi : IxR X r) (h : OpD X.K r rD) (ha : QE X W a da) (hb : QE X W b db) (hs : PlainIx b) : QE X W (.Subscript a b pos) (dOp rD da db) :=
  ⟨PE_mono (pe_ix hi ha.pe hb.pe hs) fun _ _ _ q => lift_op h q⟩
theorem OpD.or {K : PySem.W.Frag} {r r' : R2} {rD rD' : RD2} (h : OpD K r rD) (h' : OpD K r' rD') : OpD K (fun x y H Q => r x y H Q ∨ r' x y H Q) (fun x y L Q => rD x y L Q ∨ rD' x y L Q) :=
  fun H L d e x y Qd Q a b c q k => q.elim (fun z => .inl (h H L d e x y Qd Q a b c z k)) fun z => .inr (h' H L d e x y Qd Q a b c z k)
def UnD (K : PySem.W.Frag) (r : V → Hp → VK → Prop) (rD : D → DH → DK → Prop) : Prop := ∀ (H : Hp) (L : DH) (d : D) (x : V) (Qd : DK) (Q : VK), Rep K H d x → HR K H L → rD d L Qd →
  (∀ d' L' v H', Qd d' L' → Rep K H' d' v → HR K H' L' → Kp H L H' L' → Q v H') → r x H Q
def dUn (rD : D → DH → DK → Prop) (da : DE) : DE := fun s L Q E => da s L (fun x L1 => rD x L1 Q) E
theorem q_un {op : UnaryOp} {r : V → Hp → VK → Prop} {rD : D → DH → DK → Prop} (ho : UnR X (unaryOp op) r) (h : UnD X.K r rD) (ha : QE X W a da) : QE X W (.UnaryOp op a pos) (dUn rD da) :=
  ⟨PE_mono (pe_un ho ha.pe) fun σ H Q ⟨s, L, Qd, Ed, hs, hr, q, hq, lp⟩ => liftE_bind hs hr lp q fun d L1 x H1 q1 r1 hr1 k1 _ _ _ =>
    h H1 L1 d x Qd Q r1 hr1 q1 fun d' L' v H' a b c k => hq d' L' v H' a b c (k1.trans k)⟩
/-! arguments, displays, calls by values -/
def dNil : DA := fun _ L Q _ => Q [] L
def dCons (da : DE) (dr : DA) : DA := fun s L Q E => da s L (fun x L1 => dr s L1 (fun xs L2 => Q (x :: xs) L2) E) E
theorem qa_nil : QA X W [] dNil := ⟨PA_mono pa_nil fun σ H Q ⟨s, L, Qd, Ed, hs, hr, q, hq, lp⟩ => hq [] L [] H q rfl hr .refl⟩
theorem qa_cons {es : List Expr} {dr : DA} (ha : QE X W a da) (hb : QA X W es dr) (hs : starEach (a :: es) X.env = (false, eval a X.env) :: starEach es X.env := by rfl) : QA X W (a :: es) (dCons da dr) :=
  ⟨PA_mono (pa_cons ha.pe hb.pa hs) fun σ H Q ⟨s, L, Qd, Ed, hs, hr, q, hq, lp⟩ => liftE_bind hs hr lp q fun d L1 x H1 q1 r1 hr1 k1 hs1 t1 lp1 =>
    liftA_bind hs1 hr1 lp1 q1 fun ds L2 xs H2 q2 r2 hr2 k2 hs2 t2 lp2 => hq _ L2 _ H2 q2 ⟨x, xs, rfl, Rep.tk t2 _ _ r1, r2⟩ hr2 (k1.trans k2)⟩
def dTup (t : DA) : DE := fun s L Q E => t s L (fun ds L1 => ds.length ≤ 16777216 ∧ Q (.tup ds) L1) E
def dLst (t : DA) : DE := fun s L Q E => t s L (fun ds L1 => ds.length ≤ 16777216 ∧ ∀ p, L1 p = none → Q (.ref p) (upd L1 p (.lst ds))) E
theorem line_of {n : Nat} (h : n ≤ 16777216) : n ≤ sizeLine := by rw [sizeLine_eq]; exact h
theorem line_lt {n : Nat} (h : n < 16777216) : n < sizeLine := by rw [sizeLine_eq]; exact h
theorem q_tup {es : List Expr} {t : DA} {k : Nat} (h : QA X W es t) : QE X W (.Tuple es k pos) (dTup t) :=
  ⟨PE_mono (pe_tup h.pa) fun σ H Q ⟨s, L, Qd, Ed, hs, hr, q, hq, lp⟩ => liftA_bind hs hr lp q fun ds L1 vs H1 ⟨ql, q1⟩ r1 hr1 k1 hs1 t1 lp1 =>
    ⟨by rw [← r1.length]; exact line_of ql, fun p hp => hq _ L1 _ _ q1 ⟨p, vs, rfl, .inl (.inl upd_same), RepL.tk (HR.tk_new hp) _ _ r1⟩ (hr1.laid hp).1 (k1.trans (hr1.laid hp).2)⟩⟩
theorem q_lst {es : List Expr} {t : DA} (h : QA X W es t) : QE X W (.List es pos) (dLst t) :=
  ⟨PE_mono (pe_lst h.pa) fun σ H Q ⟨s, L, Qd, Ed, hs, hr, q, hq, lp⟩ => liftA_bind hs hr lp q fun ds L1 vs H1 ⟨ql, q1⟩ r1 hr1 k1 hs1 t1 lp1 =>
    ⟨by rw [← r1.length]; exact line_of ql, fun p hp => hq _ _ _ _ (q1 p (hr1.free hp)) rfl (hr1.new hp r1).1 (k1.trans (hr1.new hp r1).2)⟩⟩
abbrev RDA := List D → DH → DK → Prop
def CallD (K : PySem.W.Frag) (r : List V → Hp → VK → Prop) (rD : RDA) : Prop := ∀ (H : Hp) (L : DH) (ds : List D) (xs : List V) (Qd : DK) (Q : VK), RepL K H ds xs → HR K H L → rD ds L Qd →
  (∀ d' L' v H', Qd d' L' → Rep K H' d' v → HR K H' L' → Kp H L H' L' → Q v H') → r xs H Q
def dCB (rD : RDA) (t : DA) : DE := fun s L Q E => t s L (fun ds L1 => rD ds L1 Q) E
theorem lift_cb {M : KM} {r : List V → Hp → VK → Prop} {rD : RDA} {t : DA} (h : CallD M.K r rD) {σ : St} {H : Hp} {Q : VK} (q : liftE M W (dCB rD t) σ H Q) : tCB r (liftA M W t) σ H Q := by
  obtain ⟨s, L, Qd, Ed, hs, hr, q, hq, lp⟩ := q
  exact liftA_bind hs hr lp q fun ds L1 vs H1 q1 r1 hr1 k1 hs1 t1 lp1 => h H1 L1 ds vs Qd Q r1 hr1 q1 fun d' L' v H' a b c k => hq d' L' v H' a b c (k1.trans k)
theorem CallD.or {K : PySem.W.Frag} {r r' : List V → Hp → VK → Prop} {rD rD' : RDA} (h : CallD K r rD) (h' : CallD K r' rD') : CallD K (fun x H Q => r x H Q ∨ r' x H Q) (fun x L Q => rD x L Q ∨ rD' x L Q) :=
  fun H L d x Qd Q a c q k => q.elim (fun z => .inl (h H L d x Qd Q a c z k)) fun z => .inr (h' H L d x Qd Q a c z k)
theorem q_callB {x : Str} {id : String} {r : List V → Hp → VK → Prop} {rD : RDA} {e : Expr} {es : List Expr} {p : Pos} {t : DA} (hc : CallR X (.builtin id) r) (h : CallD X.K r rD) (hg : Gl X x) (hm : X.mg x = none) (hv : bootBuiltins x = some (.builtin id)) (ha : QA X W (e :: es) t)
    (hn : x ≠ "__name__" := by decide) (hdb : (x == ("__debug__" : Str)) = false := by decide) (he : starEach (e :: es) X.env = (false, eval e X.env) :: starEach es X.env := by rfl) (hpl : (backTo pos (starEach es X.env)).any (·.1) = false := by rfl) : QE X W (.Call (.Name x p) (e :: es) [] pos) (dCB rD t) :=
  ⟨PE_mono (pe_callB hc hg hm hv ha.pa hn hdb he hpl) fun _ _ _ q => lift_cb h q⟩
theorem q_callTy {x : Str} {T : String} {r : List V → Hp → VK → Prop} {rD : RDA} {e : Expr} {es : List Expr} {p : Pos} {t : DA} (hc : CallR X (.type T) r) (h : CallD X.K r rD) (hg : Gl X x) (hm : X.mg x = none) (hv : bootBuiltins x = some (.type T)) (ha : QA X W (e :: es) t)
    (hn : x ≠ "__name__" := by decide) (hdb : (x == ("__debug__" : Str)) = false := by decide) (he : starEach (e :: es) X.env = (false, eval e X.env) :: starEach es X.env := by rfl) (hpl : (backTo pos (starEach es X.env)).any (·.1) = false := by rfl) : QE X W (.Call (.Name x p) (e :: es) [] pos) (dCB rD t) :=
  ⟨PE_mono (pe_callTy hc hg hm hv ha.pa hn hdb he hpl) fun _ _ _ q => lift_cb h q⟩
end
end D2

set_option Elab.async false
set_option linter.all false
set_option maxRecDepth 100000
set_option maxHeartbeats 1000000
namespace D2
open PySem PySem.Spec L2
/-! ### tests -/
section
variable {X : Cx} {W : WX} {pos : Pos} {a b c : Expr} {da db dc : DE} {ta tb : DT} {rest : List Expr}
def dTest (de : DE) : DT := fun s L Q E => de s L (fun d L1 => ∃ k, d = .bl k ∧ Q k L1) E
theorem liftE_to_tB {M : KM} {σ : St} {H : Hp} {Q : Bool → Hp → Prop} (q : liftT M W (dTest da) σ H Q) : tB (liftE M W da) σ H Q := by
  obtain ⟨s, L, Qd, Ed, hs, hr, q, hq, lp⟩ := q
  refine liftE_bind hs hr lp q fun d L1 x H1 ⟨k, e, q1⟩ r1 hr1 k1 hs1 t1 lp1 => ?_
  subst e
  cases (show x = _ from r1)
  exact ⟨k, rfl, hq k L1 H1 q1 hr1 k1⟩
theorem qt_val {e : Expr} {de : DE} (h : QE X W e de) (he : ∀ whole, isTrue e X.env whole = (do let v ← whole; standAt e.pos; holding [v] (truthy v)) := by intro _; rfl) : QT X W e (dTest de) :=
  ⟨PT_mono (pt_val h.pe he) fun _ _ _ q => liftE_to_tB q⟩
/-- a comparison as a test -/
theorem qt_cmp {op : CmpOp} {r : R2} {rD : RD2} (ho : OpR X (compareOp op) r) (h : OpD X.K r rD) (ha : QE X W a da) (hb : QE X W b db) (hm : behindInMarks op b = false) : QT X W (.Compare a [op] [b] pos) (dTest (dOp rD da db)) :=
  ⟨PT_mono (pt_cmpR ho ha.pe hb.pe hm) fun σ H Q q => by
    obtain ⟨s, L, Qd, Ed, hs, hr, q, hq, lp⟩ := q
    refine lift_op h (Q := fun x H' => ∃ k, x = .bl k ∧ Q k H') ⟨s, L, _, Ed, hs, hr, q, fun d L1 x H1 ⟨k, e, q1⟩ r1 hr1 k1 => ?_, lp⟩
    subst e
    cases (show x = _ from r1)
    exact ⟨k, rfl, hq k L1 H1 q1 hr1 k1⟩⟩
def dAnd (ta tb : DT) : DT := fun s L Q E => ta s L (fun k L1 => if k = true then tb s L1 Q E else Q false L1) E
def dOr (ta tb : DT) : DT := fun s L Q E => ta s L (fun k L1 => if k = true then Q true L1 else tb s L1 Q E) E
def dNot (ta : DT) : DT := fun s L Q E => ta s L (fun k L1 => Q (!k) L1) E
theorem qw_and1 (ha : QT X W a ta) : QW X W (.BoolOp .And [a] pos) ta := ⟨pw_and1 ha.pt⟩
theorem qw_or1 (ha : QT X W a ta) : QW X W (.BoolOp .Or [a] pos) ta := ⟨pw_or1 ha.pt⟩
theorem qw_and (ha : QT X W a ta) (hb : QW X W (.BoolOp .And (b :: rest) pos) tb) : QW X W (.BoolOp .And (a :: b :: rest) pos) (dAnd ta tb) :=
  ⟨PW_mono (pw_and ha.pt hb.pw) fun σ H Q ⟨s, L, Qd, Ed, hs, hr, q, hq, lp⟩ => liftT_bind hs hr lp q fun k L1 H1 q1 hr1 k1 hs1 t1 lp1 => by
    cases k with
    | true => exact (if_pos rfl).mpr ⟨s, L1, Qd, Ed, hs1, hr1, (if_pos rfl).mp q1, fun b L2 H2 q2 r2 k2 => hq b L2 H2 q2 r2 (k1.trans k2), lp1⟩
    | false => exact (if_neg Bool.false_ne_true).mpr (hq false L1 H1 ((if_neg Bool.false_ne_true).mp q1) hr1 k1)⟩
theorem qw_or (ha : QT X W a ta) (hb : QW X W (.BoolOp .Or (b :: rest) pos) tb) : QW X W (.BoolOp .Or (a :: b :: rest) pos) (dOr ta tb) :=
  ⟨PW_mono (pw_or ha.pt hb.pw) fun σ H Q ⟨s, L, Qd, Ed, hs, hr, q, hq, lp⟩ => liftT_bind hs hr lp q fun k L1 H1 q1 hr1 k1 hs1 t1 lp1 => by
    cases k with
    | false => exact (if_neg Bool.false_ne_true).mpr ⟨s, L1, Qd, Ed, hs1, hr1, (if_neg Bool.false_ne_true).mp q1, fun b L2 H2 q2 r2 k2 => hq b L2 H2 q2 r2 (k1.trans k2), lp1⟩
    | true => exact (if_pos rfl).mpr (hq true L1 H1 ((if_pos rfl).mp q1) hr1 k1)⟩
theorem QW.qt {e : Expr} (h : QW X W e ta) : QT X W e ta := ⟨PW.pt h.pw⟩
theorem qt_not (ha : QT X W a ta) : QT X W (.UnaryOp .Not a pos) (dNot ta) :=
  ⟨PT_mono (pt_not ha.pt) fun σ H Q ⟨s, L, Qd, Ed, hs, hr, q, hq, lp⟩ => liftT_bind hs hr lp q fun k L1 H1 q1 hr1 k1 hs1 t1 lp1 => hq _ L1 H1 q1 hr1 k1⟩
/-! values of and, or, not over bools -/
def dAndV (da db : DE) : DE := fun s L Q E => da s L (fun d L1 => ∃ k, d = .bl k ∧ if k = true then db s L1 Q E else Q (.bl false) L1) E
def dOrV (da db : DE) : DE := fun s L Q E => da s L (fun d L1 => ∃ k, d = .bl k ∧ if k = true then Q (.bl true) L1 else db s L1 Q E) E
def dNotV (da : DE) : DE := fun s L Q E => da s L (fun d L1 => ∃ k, d = .bl k ∧ Q (.bl (!k)) L1) E
theorem qe_one {op : BoolOp} (h : QE X W a da) : QE X W (.BoolOp op [a] pos) da := ⟨pe_one h.pe⟩
theorem qe_and (ha : QE X W a da) (hb : QE X W (.BoolOp .And (b :: rest) pos) db) : QE X W (.BoolOp .And (a :: b :: rest) pos) (dAndV da db) :=
  ⟨PE_mono (pe_and ha.pe hb.pe) fun σ H Q ⟨s, L, Qd, Ed, hs, hr, q, hq, lp⟩ => liftE_bind hs hr lp q fun d L1 x H1 ⟨k, e, q1⟩ r1 hr1 k1 hs1 t1 lp1 => by
    subst e
    cases (show x = _ from r1)
    refine ⟨k, rfl, ?_⟩
    cases k with
    | true => exact (if_pos rfl).mpr ⟨s, L1, Qd, Ed, hs1, hr1, (if_pos rfl).mp q1, fun b L2 v H2 q2 r r2 k2 => hq b L2 v H2 q2 r r2 (k1.trans k2), lp1⟩
    | false => exact (if_neg Bool.false_ne_true).mpr (hq _ L1 _ H1 ((if_neg Bool.false_ne_true).mp q1) rfl hr1 k1)⟩
theorem qe_or (ha : QE X W a da) (hb : QE X W (.BoolOp .Or (b :: rest) pos) db) : QE X W (.BoolOp .Or (a :: b :: rest) pos) (dOrV da db) :=
  ⟨PE_mono (pe_or ha.pe hb.pe) fun σ H Q ⟨s, L, Qd, Ed, hs, hr, q, hq, lp⟩ => liftE_bind hs hr lp q fun d L1 x H1 ⟨k, e, q1⟩ r1 hr1 k1 hs1 t1 lp1 => by
    subst e
    cases (show x = _ from r1)
    refine ⟨k, rfl, ?_⟩
    cases k with
    | false => exact (if_neg Bool.false_ne_true).mpr ⟨s, L1, Qd, Ed, hs1, hr1, (if_neg Bool.false_ne_true).mp q1, fun b L2 v H2 q2 r r2 k2 => hq b L2 v H2 q2 r r2 (k1.trans k2), lp1⟩
    | true => exact (if_pos rfl).mpr (hq _ L1 _ H1 ((if_pos rfl).mp q1) rfl hr1 k1)⟩
theorem qe_not (ha : QE X W a da) : QE X W (.UnaryOp .Not a pos) (dNotV da) :=
  ⟨PE_mono (pe_not ha.pe) fun σ H Q ⟨s, L, Qd, Ed, hs, hr, q, hq, lp⟩ => liftE_bind hs hr lp q fun d L1 x H1 ⟨k, e, q1⟩ r1 hr1 k1 hs1 t1 lp1 => by
    subst e
    cases (show x = _ from r1)
    exact ⟨k, rfl, hq _ L1 _ H1 q1 rfl hr1 k1⟩⟩
def dIfE (t : DT) (da db : DE) : DE := fun s L Q E => t s L (fun k L1 => if k = true then da s L1 Q E else db s L1 Q E) E
theorem qe_if (ht : QT X W c ta) (ha : QE X W a da) (hb : QE X W b db) : QE X W (.IfExp c a b pos) (dIfE ta da db) :=
  ⟨PE_mono (pe_ifExp ht.pt ha.pe hb.pe) fun σ H Q ⟨s, L, Qd, Ed, hs, hr, q, hq, lp⟩ => liftT_bind hs hr lp q fun k L1 H1 q1 hr1 k1 hs1 t1 lp1 => by
    cases k with
    | true => exact (if_pos rfl).mpr ⟨s, L1, Qd, Ed, hs1, hr1, (if_pos rfl).mp q1, fun b L2 v H2 q2 r r2 k2 => hq b L2 v H2 q2 r r2 (k1.trans k2), lp1⟩
    | false => exact (if_neg Bool.false_ne_true).mpr ⟨s, L1, Qd, Ed, hs1, hr1, (if_neg Bool.false_ne_true).mp q1, fun b L2 v H2 q2 r r2 k2 => hq b L2 v H2 q2 r r2 (k1.trans k2), lp1⟩⟩
/-- a chain of two comparisons -/
def dChain (r r' : RD2) (da db dc : DE) : DE := fun s L Q E => da s L (fun x L1 => db s L1 (fun y L2 => r x y L2 fun z L3 => ∃ k, z = .bl k ∧ if k = true then dc s L3 (fun u L4 => r' y u L4 Q) E else Q (.bl false) L3) E) E
theorem lift_chain {r r' : R2} {rD rD' : RD2} {M : KM} (h : OpD M.K r rD) (h' : OpD M.K r' rD') {σ : St} {H : Hp} {Q : VK} (q : liftE M W (dChain rD rD' da db dc) σ H Q) : tChain r r' (liftE M W da) (liftE M W db) (liftE M W dc) σ H Q := by
  obtain ⟨s, L, Qd, Ed, hs, hr, q, hq, lp⟩ := q
  refine liftE_bind hs hr lp q fun d L1 x H1 q1 r1 hr1 k1 hs1 t1 lp1 => ?_
  refine liftE_bind hs1 hr1 lp1 q1 fun e L2 y H2 q2 r2 hr2 k2 hs2 t2 lp2 => ?_
  refine h H2 L2 d e x y _ _ (Rep.tk t2 _ _ r1) r2 hr2 q2 fun d' L3 z H3 ⟨k, ek, q3⟩ r3 hr3 k3 => ?_
  subst ek
  cases (show z = _ from r3)
  refine ⟨k, rfl, ?_⟩
  have t3 := k3.tk hr2
  cases k with
  | false => exact (if_neg Bool.false_ne_true).mpr (hq _ L3 _ H3 ((if_neg Bool.false_ne_true).mp q3) rfl hr3 ((k1.trans k2).trans k3))
  | true =>
    refine (if_pos rfl).mpr ?_
    refine liftE_bind (hs2.tk t3) hr3 (lp2.after k3) ((if_pos rfl).mp q3) fun u L4 v H4 q4 r4 hr4 k4 hs4 t4 lp4 => ?_
    exact h' H4 L4 e u y v Qd Q (Rep.tk t4 _ _ (Rep.tk t3 _ _ r2)) r4 hr4 q4 fun d' L' v H' a b c k => hq d' L' v H' a b c (((k1.trans k2).trans (k3.trans k4)).trans k)
theorem q_chain {op op' : CmpOp} {r r' : R2} {rD rD' : RD2} (ho : OpR X (compareOp op) r) (ho' : OpR X (compareOp op') r') (h : OpD X.K r rD) (h' : OpD X.K r' rD') (ha : QE X W a da) (hb : QE X W b db) (hc : QE X W c dc)
    (hm : lastMarks [op, op'] [b, c] = false := by with_unfolding_all rfl) : QE X W (.Compare a [op, op'] [b, c] pos) (dChain rD rD' da db dc) :=
  ⟨PE_mono (pe_chain ho ho' ha.pe hb.pe hc.pe hm) fun _ _ _ q => lift_chain h h' q⟩
theorem qt_chain {op op' : CmpOp} {r r' : R2} {rD rD' : RD2} (ho : OpR X (compareOp op) r) (ho' : OpR X (compareOp op') r') (h : OpD X.K r rD) (h' : OpD X.K r' rD') (ha : QE X W a da) (hb : QE X W b db) (hc : QE X W c dc)
    (hm : lastMarks [op, op'] [b, c] = false := by with_unfolding_all rfl) : QT X W (.Compare a [op, op'] [b, c] pos) (dTest (dChain rD rD' da db dc)) :=
  ⟨PT_mono (pt_chain ho ho' ha.pe hb.pe hc.pe hm) fun σ H Q q => by
    obtain ⟨s, L, Qd, Ed, hs, hr, q, hq, lp⟩ := q
    refine lift_chain h h' (Q := fun x H' => ∃ k, x = .bl k ∧ Q k H') ⟨s, L, _, Ed, hs, hr, q, fun d L1 x H1 ⟨k, e, q1⟩ r1 hr1 k1 => ?_, lp⟩
    subst e
    cases (show x = _ from r1)
    exact ⟨k, rfl, hq k L1 H1 q1 hr1 k1⟩⟩
end

/-! ### statements -/
structure DEnds where
  nx : DSt → DH → Prop
  rt : DK
  bk : DSt → DH → Prop
  ct : DSt → DH → Prop
  ex : Str → List (Str × D) → DSt → DH → Prop
abbrev DS := DEnds → DSt → DH → Prop
def PostS (K : PySem.W.Frag) (H : Hp) (L : DH) (P : DSt → DH → Prop) (Q : St → Hp → Prop) : Prop := ∀ s' L' σ' H', P s' L' → SR K H' s' σ' → HR K H' L' → Kp H L H' L' → Q σ' H'
theorem PostS.after {K : PySem.W.Frag} {H H1 : Hp} {L L1 : DH} {P : DSt → DH → Prop} {Q : St → Hp → Prop} (h : PostS K H L P Q) (k : Kp H L H1 L1) : PostS K H1 L1 P Q := fun s' L' σ' H' a b c d => h s' L' σ' H' a b c (k.trans d)
structure Post (M : KM) (W : WX) (H : Hp) (L : DH) (dn : DEnds) (Dn : Ends) : Prop where
  nx : PostS M.K H L dn.nx Dn.nx
  rt : ∀ d L' v H', dn.rt d L' → Rep M.K H' d v → HR M.K H' L' → Kp H L H' L' → Dn.rt v H'
  bk : PostS M.K H L dn.bk Dn.bk
  ct : PostS M.K H L dn.ct Dn.ct
  ex : ∀ C fs cls dx s' L' σ' H', dn.ex C fs s' L' → XRep M H' C fs cls dx → SR M.K H' s' σ' → HR M.K H' L' → Kp H L H' L' → W cls dx σ' H'
def liftS (M : KM) (W : WX) (ds : DS) : TS := fun Dn σ H => ∃ s L dn, SR M.K H s σ ∧ HR M.K H L ∧ ds dn s L ∧ Post M W H L dn Dn
structure QS (X : Cx) (W : WX) (st : Stmt) (ds : DS) : Prop where
  ps : PS X st (liftS X.km W ds)
structure QSs (X : Cx) (W : WX) (st : List Stmt) (ds : DS) : Prop where
  ps : PSs X st (liftS X.km W ds)
section
variable {M : KM} {W : WX} {H H1 : Hp} {L L1 : DH} {dn : DEnds} {Dn : Ends} {s : DSt} {σ : St}
theorem Post.after (h : Post M W H L dn Dn) (k : Kp H L H1 L1) : Post M W H1 L1 dn Dn :=
  ⟨h.nx.after k, fun d L' v H' a b c e => h.rt d L' v H' a b c (k.trans e), h.bk.after k, h.ct.after k, fun C fs cls dx s' L' σ' H' a b c d e => h.ex C fs cls dx s' L' σ' H' a b c d (k.trans e)⟩
theorem Post.lp (h : Post M W H L dn Dn) (hs : SR M.K H s σ) (hr : HR M.K H L) : LP M W σ H L (fun C fs L' => dn.ex C fs s L') :=
  ⟨fun C fs L' cls dx H' e x r k => h.ex C fs cls dx s L' σ H' e x (hs.tk (k.tk hr)) r k⟩
end
def sNext : DS := fun dn s L => dn.nx s L
def sSeq (a b : DS) : DS := fun dn s L => a { dn with nx := b dn } s L
def sBreak : DS := fun dn s L => dn.bk s L
def sCont : DS := fun dn s L => dn.ct s L
def xOf (dn : DEnds) (s : DSt) : XD := fun C fs L => dn.ex C fs s L
def sDrop (de : DE) : DS := fun dn s L => de s L (fun _ L1 => dn.nx s L1) (xOf dn s)
def sRet (de : DE) : DS := fun dn s L => de s L dn.rt (xOf dn s)
def sRetN : DS := fun dn _ L => dn.rt .non L
def sIf (t : DT) (a b : DS) : DS := fun dn s L => t s L (fun k L1 => if k = true then a dn s L1 else b dn s L1) (xOf dn s)
def sNever : DS := fun _ _ _ => False
section
variable {X : Cx} {W : WX} {pos : Pos} {st : Stmt} {rest : List Stmt} {da db : DS} {de : DE} {dt : DT} {e c : Expr} {la lb : List Stmt}
theorem qss_nil : QSs X W [] sNext := ⟨PSs_mono pss_nil fun Dn σ H ⟨s, L, dn, hs, hr, h, p⟩ => p.nx s L σ H h hs hr .refl⟩
theorem qss_one (h : QS X W st da) : QSs X W [st] da := ⟨pss_one h.ps⟩
theorem lift_seq {M : KM} {Dn : Ends} {σ : St} {H : Hp} (q : liftS M W (sSeq da db) Dn σ H) : tSeq (liftS M W da) (liftS M W db) Dn σ H := by
  obtain ⟨s, L, dn, hs, hr, h, p⟩ := q
  exact ⟨s, L, _, hs, hr, h, ⟨fun s' L' σ' H' a b c d => ⟨s', L', dn, b, c, a, p.after d⟩, p.rt, p.bk, p.ct, p.ex⟩⟩
theorem qss_cons (h1 : QS X W st da) (h2 : QSs X W rest db) : QSs X W (st :: rest) (sSeq da db) := ⟨PSs_mono (pss_cons h1.ps h2.ps) fun _ _ _ q => lift_seq q⟩
theorem qs_pass : QS X W (.Pass pos) sNext := ⟨PS_mono ps_pass fun Dn σ H ⟨s, L, dn, hs, hr, h, p⟩ => p.nx s L σ H h hs hr .refl⟩
theorem qs_break : QS X W (.Break pos) sBreak := ⟨PS_mono ps_break fun Dn σ H ⟨s, L, dn, hs, hr, h, p⟩ => p.bk s L σ H h hs hr .refl⟩
theorem qs_continue : QS X W (.Continue pos) sCont := ⟨PS_mono ps_continue fun Dn σ H ⟨s, L, dn, hs, hr, h, p⟩ => p.ct s L σ H h hs hr .refl⟩
theorem qs_expr (he : QE X W e de) (hs : swapsWith e none pos.line X.env = pure false := by rfl) : QS X W (.Expr e pos) (sDrop de) :=
  ⟨PS_mono (ps_expr he.pe hs) fun Dn σ H ⟨s, L, dn, hs, hr, h, p⟩ => liftE_bind hs hr (p.lp hs hr) h fun d L1 x H1 q1 r1 hr1 k1 hs1 t1 lp1 => p.nx s L1 σ H1 q1 hs1 hr1 k1⟩
theorem qs_ret (he : QE X W e de) : QS X W (.Return (some e) pos) (sRet de) :=
  ⟨PS_mono (ps_ret he.pe) fun Dn σ H ⟨s, L, dn, hs, hr, h, p⟩ => liftE_bind hs hr (p.lp hs hr) h fun d L1 x H1 q1 r1 hr1 k1 hs1 t1 lp1 => p.rt d L1 x H1 q1 r1 hr1 k1⟩
theorem qs_retN : QS X W (.Return none pos) sRetN :=
  ⟨PS_mono ps_retN fun Dn σ H ⟨s, L, dn, hs, hr, h, p⟩ => p.rt .non L .non H h rfl hr .refl⟩
theorem qs_if (hc : QT X W c dt) (ha : QSs X W la da) (hb : QSs X W lb db) : QS X W (.If c la lb pos) (sIf dt da db) :=
  ⟨PS_mono (ps_if hc.pt ha.ps hb.ps) fun Dn σ H ⟨s, L, dn, hs, hr, h, p⟩ => liftT_bind hs hr (p.lp hs hr) h fun k L1 H1 q1 hr1 k1 hs1 t1 lp1 => by
    cases k with
    | true => exact (if_pos rfl).mpr ⟨s, L1, dn, hs1, hr1, (if_pos rfl).mp q1, p.after k1⟩
    | false => exact (if_neg Bool.false_ne_true).mpr ⟨s, L1, dn, hs1, hr1, (if_neg Bool.false_ne_true).mp q1, p.after k1⟩⟩
theorem qs_never : QS X W st sNever := ⟨PS_mono ps_never fun Dn σ H ⟨s, L, dn, hs, hr, h, p⟩ => h⟩
theorem qss_never : QSs X W la sNever := ⟨PSs_mono pss_never fun Dn σ H ⟨s, L, dn, hs, hr, h, p⟩ => h⟩
end
/-! targets -/
abbrev DG := D → DSt → DH → (DSt → DH → Prop) → XD → Prop
def liftG (K : PySem.W.Frag) (g : DG) (G : TG) : Prop := ∀ (d : D) (v : V) (s : DSt) (σ : St) (H : Hp) (L : DH) (P : DSt → DH → Prop) (Q : St → Hp → Prop), Rep K H d v → SR K H s σ → HR K H L → g d s L P (fun _ _ _ => False) →
  PostS K H L P Q → G v σ H Q
structure QG (X : Cx) (t : Expr) (g : DG) : Prop where
  pg : ∃ G, PG X t G ∧ liftG X.K g G
def liftGs (K : PySem.W.Frag) (g : List D → DSt → DH → (DSt → DH → Prop) → Prop) (G : TGs) : Prop := ∀ (ds : List D) (vs : List V) (s : DSt) (σ : St) (H : Hp) (L : DH) (P : DSt → DH → Prop) (Q : St → Hp → Prop), RepL K H ds vs → SR K H s σ → HR K H L → g ds s L P →
  PostS K H L P Q → G vs σ H Q
structure QGs (X : Cx) (t : List Expr) (g : List D → DSt → DH → (DSt → DH → Prop) → Prop) : Prop where
  pg : ∃ G, PGs X t G ∧ liftGs X.K g G
def gdName (i : Nat) : DG := fun d s L P _ => P (s.set i (some d)) L
def gdNil : List D → DSt → DH → (DSt → DH → Prop) → Prop := fun ds s L P => ds = [] ∧ P s L
def gdCons (g : DG) (r : List D → DSt → DH → (DSt → DH → Prop) → Prop) : List D → DSt → DH → (DSt → DH → Prop) → Prop := fun ds s L P => match ds with
  | [] => False
  | d :: ds => g d s L (fun s1 L1 => r ds s1 L1 P) (fun _ _ _ => False)
def gdTup (n : Nat) (g : List D → DSt → DH → (DSt → DH → Prop) → Prop) : DG := fun d s L P _ => match d with
  | .tup ds => ds.length = n ∧ g ds s L P
  | _ => False
abbrev SetD := D → D → D → DH → (DH → Prop) → Prop
def SetOk (K : PySem.W.Frag) (t : TSet) (td : SetD) : Prop := ∀ (o i d : D) (vo vi v : V) (H : Hp) (L : DH) (P : DH → Prop) (Q : Hp → Prop), Rep K H o vo → Rep K H i vi → Rep K H d v → HR K H L → td o i d L P →
  (∀ L' H', P L' → HR K H' L' → Kp H L H' L' → Q H') → t vo vi v H Q
def gdSub (do_ di : DE) (td : SetD) : DG := fun d s L P _ => do_ s L (fun o L1 => di s L1 (fun i L2 => td o i d L2 fun L3 => P s L3) (fun _ _ _ => False)) (fun _ _ _ => False)
section
variable {X : Cx} {pos : Pos}
theorem qg_name (i : Nat) {x : Str} (hN : X.N.Nodup) (hi : X.N[i]? = some x := by rfl) (hx : Loc X.env.scope x := by first | exact Or.inl rfl | exact Or.inr rfl) (hf : X.fn x = true ∨ X.env.scope.names.lookup x = some .local := by first | exact .inl rfl | exact .inr rfl) : QG X (.Name x pos) (gdName i) :=
  ⟨_, pg_name hN hi hx hf, fun d v s σ H L P Q r hs hr h p => p _ L _ H h (hs.set r i) hr .refl⟩
theorem qgs_nil : QGs X [] gdNil := ⟨_, pgs_nil, fun ds vs s σ H L P Q r hs hr h p => by
  obtain ⟨rfl, h⟩ := h
  exact ⟨r, p s L σ H h hs hr .refl⟩⟩
theorem qgs_cons {e : Expr} {es : List Expr} {g : DG} {r : List D → DSt → DH → (DSt → DH → Prop) → Prop} (h1 : QG X e g) (h2 : QGs X es r) (hs : (assignEach (e :: es) X.env).map (·.2) = assign e X.env :: (assignEach es X.env).map (·.2) := by rfl) : QGs X (e :: es) (gdCons g r) := by
  obtain ⟨G, hG, lG⟩ := h1.pg
  obtain ⟨G2, hG2, lG2⟩ := h2.pg
  refine ⟨_, pgs_cons hG hG2 hs, fun ds vs s σ H L P Q r hs hr h p => ?_⟩
  cases ds with
  | nil => exact h.elim
  | cons d ds =>
    obtain ⟨v, vr, e, rv, rr⟩ := r
    refine ⟨v, vr, e, lG d v s σ H L _ _ rv hs hr h fun s1 L1 σ1 H1 q hs1 hr1 k1 => ?_⟩
    exact lG2 ds vr s1 σ1 H1 L1 P Q (RepL.tk (k1.tk hr) _ _ rr) hs1 hr1 q (p.after k1)
theorem qg_tup {es : List Expr} {k n : Nat} {g : List D → DSt → DH → (DSt → DH → Prop) → Prop} (hc : X.calm = true) (h : QGs X es g) (hn : (assignEach es X.env).length = n := by rfl) (hst : (assignEach es X.env).findIdx? (·.1) = none := by rfl) : QG X (.Tuple es k pos) (gdTup n g) := by
  obtain ⟨G, hG, lG⟩ := h.pg
  refine ⟨_, pg_tup hc hG hn hst, fun d v s σ H L P Q r hs hr h p => ?_⟩
  cases d with
  | tup ds =>
    obtain ⟨a, vs, e, sq, rl⟩ := r
    exact ⟨a, vs, e, sq, by rw [← rl.length]; exact h.1, lG ds vs s σ H L P Q rl hs hr h.2 p⟩
  | _ => exact h.elim
theorem qg_sub {o i : Expr} {do_ di : DE} {t : TSet} {td : SetD} (ho : QE X (fun _ _ _ _ => False) o do_) (hi : QE X (fun _ _ _ _ => False) i di) (hs : PSet X t) (hd : SetOk X.K t td)
    (ha : ∀ v, assign (.Subscript o i pos) X.env v = (do
      let ov ← holding [v] (eval o X.env)
      let iv ← holding [v, ov] (eval i X.env)
      standAt pos
      holding [v, ov, iv] (setItem ov iv v)
      release [v, ov, iv] []) := by intro _; rfl) : QG X (.Subscript o i pos) (gdSub do_ di td) := by
  have noP : ∀ {M : KM} {σ : St} {H : Hp} {L : DH}, LP M (fun _ _ _ _ => False) σ H L (fun _ _ _ => False) := ⟨fun _ _ _ _ _ _ h => h.elim⟩
  refine ⟨_, pg_sub ho.pe hi.pe hs ha, fun d v s σ H L P Q r hS hr h p => ?_⟩
  refine liftE_bind hS hr noP h fun o' L1 x H1 q1 r1 hr1 k1 hs1 t1 lp1 => ?_
  refine liftE_bind hs1 hr1 noP q1 fun i' L2 y H2 q2 r2 hr2 k2 hs2 t2 lp2 => ?_
  exact hd o' i' d x y v H2 L2 _ _ (Rep.tk t2 _ _ r1) r2 (Rep.tk t2 _ _ (Rep.tk t1 _ _ r)) hr2 q2 fun L3 H3 q3 hr3 k3 => p s L3 σ H3 q3 (hs2.tk (k3.tk hr2)) hr3 ((k1.trans k2).trans k3)
end
def sAsg (de : DE) (g : DG) : DS := fun dn s L => de s L (fun d L1 => g d s L1 dn.nx (fun _ _ _ => False)) (xOf dn s)
section
variable {X : Cx} {W : WX} {pos : Pos}
theorem qs_asg {tg e : Expr} {de : DE} {g : DG} (he : QE X W e de) (hg : QG X tg g) (hs : swapsWithSole [tg] e pos.line X.env = pure false := by rfl) (hw : swappedStores [tg] e X.env = pure none := by rfl) (h1 : (assignEach [tg] X.env).map (·.2) = [assign tg X.env] := by rfl) : QS X W (.Assign [tg] e pos) (sAsg de g) := by
  obtain ⟨G, hG, lG⟩ := hg.pg
  exact ⟨PS_mono (ps_asg he.pe hG hs hw h1) fun Dn σ H ⟨s, L, dn, hs, hr, h, p⟩ => liftE_bind hs hr (p.lp hs hr) h fun d L1 x H1 q1 r1 hr1 k1 hs1 t1 lp1 => lG d x s σ H1 L1 _ _ r1 hs1 hr1 q1 (p.nx.after k1)⟩
/-- a name assigned -/
theorem qs_set {i : Nat} {x : Str} {e : Expr} {de : DE} {pos' : Pos} (hN : X.N.Nodup) (he : QE X W e de) (hi : X.N[i]? = some x := by rfl) (hx : Loc X.env.scope x := by first | exact Or.inl rfl | exact Or.inr rfl) (hs : swapsWith e (some (.Name x pos')) pos.line X.env = pure false := by rfl)
    (hf : X.fn x = true ∨ X.env.scope.names.lookup x = some .local := by first | exact .inl rfl | exact .inr rfl) : QS X W (.Assign [.Name x pos'] e pos) (sAsg de (gdName i)) :=
  ⟨PS_mono (ps_set hN hi hx he.pe hs hf) fun Dn σ H ⟨s, L, dn, hs, hr, h, p⟩ => liftE_bind hs hr (p.lp hs hr) h fun d L1 x H1 q1 r1 hr1 k1 hs1 t1 lp1 => p.nx _ L1 _ H1 q1 (hs1.set r1 i) hr1 k1⟩
end
end D2

set_option Elab.async false
set_option linter.all false
set_option maxRecDepth 100000
set_option maxHeartbeats 1000000
namespace D2
open PySem PySem.Spec PyProof.Rows L2
/-! ### defs and calls -/
abbrev SpD := List D → DH → DK → XD → Prop
def liftSp (M : KM) (sp : SpD) : Sp := fun vs H Q E => ∃ ds L Qd Ed, RepL M.K H ds vs ∧ HR M.K H L ∧ sp ds L Qd Ed ∧
  (∀ d L' v H', Qd d L' → Rep M.K H' d v → HR M.K H' L' → Kp H L H' L' → Q v H') ∧
  (∀ C fs L' cls dx H', Ed C fs L' → XRep M H' C fs cls dx → HR M.K H' L' → Kp H L H' L' → E cls dx H')
def dCall (sp : SpD) (t : DA) : DE := fun s L Q E => t s L (fun ds L1 => sp ds L1 Q E) E
/-- what a def's body is to reach: L may be lessened -/
def fnEnds (Q : DK) (E : XD) : DEnds where
  nx := fun _ L' => ∃ L2, Le L2 L' ∧ Q .non L2
  rt := fun d L' => ∃ L2, Le L2 L' ∧ Q d L2
  bk := fun _ _ => False
  ct := fun _ _ => False
  ex := fun C fs _ L' => ∃ L2, Le L2 L' ∧ E C fs L2
def wE (E : XK) : WX := fun cls d _ H => E cls d H
section
variable {X : Cx} {W : WX} {pos : Pos}
theorem q_call {k : Nat} {f : Addr} {fd : FuncData} {ps : List Str} {sp : SpD} {x : Str} {p : Pos} {e : Expr} {es : List Expr} {t : DA} (F : FnOk X.prog X.w X.K X.mg X.base (L2.CX X.prog X.w) k f fd ps (liftSp X.km sp)) (hr : Room k X.A) (hm : X.mg x = some (.ref f)) (hk : PySem.W.keepIn X.K (.ref f) = true)
    (hb : Binds X.K fd ps []) (tk : Takes X W) (ha : QA X W (e :: es) t) (hg : Gl X x := by rfl) (hdb : (x == ("__debug__" : Str)) = false := by decide) (he : starEach (e :: es) X.env = (false, eval e X.env) :: starEach es X.env := by rfl) (hpl : (backTo pos (starEach es X.env)).any (·.1) = false := by rfl) :
    QE X W (.Call (.Name x p) (e :: es) [] pos) (dCall sp t) :=
  ⟨PE_mono (pe_callS F hr hg hm hk hb (fun σ => passAt tk σ) ha.pa hdb he hpl) fun σ H Q ⟨s, L, Qd, Ed, hs, hr, q, hq, lp⟩ =>
    liftA_bind hs hr lp q fun ds L1 vs H1 q1 r1 hr1 k1 hs1 t1 lp1 => ⟨ds, L1, Qd, Ed, r1, hr1, q1, fun d L' v H' a b c k => hq d L' v H' a b c (k1.trans k), fun C fs L' cls dx H' a b c k => lp1.ex C fs L' cls dx H' a b c k⟩⟩
end
section
variable {P : Program} {w : World} {K : PySem.W.Frag} {mg : Str → Option Value} {base : Heap}
theorem Fun.okD {x qual : Str} {st : Stmt} {f : Addr} {fd : FuncData} {N ps : List Str} {k : Nat} {sp : SpD} {ds : DS} (F : Fun K x qual st f fd) (S : FnScope N ps (defScope st)) (len : ∀ as L Q E, sp as L Q E → as.length = ps.length)
    (pure : ∀ as L Q E, sp as L Q E → ds (fnEnds Q E) (dstart N.length as) L)
    (body : ∀ (cdv : Value) (A : Around) (outer : List Env) (s : Shared) (H : Hp) (E : XK), Room k (A.deeper (envOfC qual (defScope st) s.heap.objs.size f cdv)) →
      QSs (cxOf (L2.CX P w) P w K mg base N qual (defScope st) f cdv A outer s H E) (wE E) (defBody st) ds) :
    FnOk P w K mg base (L2.CX P w) (k + 1) f fd ps (liftSp ⟨K, mg⟩ sp) := by
  refine F.okX S (fun vs H Q E h => ?_) (fun cdv A outer s H vs Q E hr h => ⟨_, (body cdv A outer s H E hr).ps, ?_⟩)
  · obtain ⟨ds, L, Qd, Ed, r, _, h, _⟩ := h
    rw [← r.length]; exact len _ _ _ _ h
  · obtain ⟨as, L, Qd, Ed, r, hr', h, hq, hx⟩ := h
    refine ⟨dstart N.length as, L, fnEnds Qd Ed, r.slots N, hr', pure as L Qd Ed h, ?_, ?_, ?_, ?_, ?_⟩
    · exact fun s' L' σ' H' ⟨LL, l, q⟩ _ b k => hq .non LL .non H' q rfl (b.le l) (k.le l)
    · exact fun d L' v H' ⟨LL, l, q⟩ r b k => hq d LL v H' q r (b.le l) (k.le l)
    · exact fun s' L' σ' H' q => q.elim
    · exact fun s' L' σ' H' q => q.elim
    · exact fun C fs cls dx s' L' σ' H' ⟨LL, l, q⟩ x _ b k => hx C fs LL cls dx H' q x (b.le l) (k.le l)
end
/-! ### for -/
abbrev DI := DSt → DH → (List D → (DH → Prop) → DH → Prop) → XD → Prop
def ItOk (K : PySem.W.Frag) (J : It) (ds : List D) (ok : DH → Prop) (H0 : Hp) : Prop := ∀ (i : Nat) (H : Hp) (L : DH), TK H0 H → HR K H L → ok L → (i = ds.length → J.stop i H) ∧
  ∀ d, ds[i]? = some d → J.go i H ∧ ∀ x H', J.yld i H x H' → Rep K H' d x ∧ HR K H' L ∧ Kp H L H' L ∧ TK H H'
def liftI (M : KM) (W : WX) (di : DI) : TI := fun σ H R => ∃ s L Qd Ed, SR M.K H s σ ∧ HR M.K H L ∧ di s L Qd Ed ∧
  (∀ ds ok L' H' J, Qd ds ok L' → HR M.K H' L' → Kp H L H' L' → ItOk M.K J ds ok H' → R J H') ∧ LP M W σ H L Ed
structure QI (X : Cx) (W : WX) (tg iter : Expr) (di : DI) : Prop where
  pi : PI X tg iter (liftI X.km W di)
theorem PI_mono {X : Cx} {tg e : Expr} {t t' : TI} (h : PI X tg e t) (i : ∀ σ H R, t' σ H R → t σ H R) : PI X tg e t' := ⟨fun pins s σ H R I q => h.run pins s σ H R I (i σ H R q)⟩
def forD (g : DG) (body : DS) (ok : DH → Prop) : List D → DS
  | [] => fun dn s L => ok L ∧ dn.nx s L
  | d :: ds => fun dn s L => ok L ∧ g d s L (fun s1 L1 => body { dn with nx := fun s2 L2 => forD g body ok ds dn s2 L2, ct := fun s2 L2 => forD g body ok ds dn s2 L2, bk := dn.nx } s1 L1) (fun _ _ _ => False)
def sFor (di : DI) (g : DG) (body : DS) : DS := fun dn s L => di s L (fun ds ok L1 => forD g body ok ds dn s L1) (xOf dn s)
section
variable {X : Cx} {W : WX} {pos : Pos}
theorem qs_for {tg iter : Expr} {body : List Stmt} {di : DI} {g : DG} {db : DS} (hp : PassesOwn (model X.prog X.w) X.A X.env X.xe) (hc : X.calm = true) (hi : QI X W tg iter di) (hg : QG X tg g) (hb : QSs X W body db)
    (hs : ∀ x, foldedSetIterable iter X.env x = pure x := by intro _; rfl) : QS X W (.For tg iter body [] pos) (sFor di g db) := by
  obtain ⟨G, hG, lG⟩ := hg.pg
  refine ⟨PS_mono (ps_for hp hc hi.pi hG hb.ps hs) fun Dn σ H ⟨s, L, dn, hs, hr, h, p⟩ => ?_⟩
  refine ⟨s, L, _, xOf dn s, hs, hr, h, fun ds ok L1 H1 J q hr1 k1 ito => ?_, p.lp hs hr⟩
  refine ⟨fun i m σ' H' => ∃ s' L', i ≤ ds.length ∧ m = ds.length - i ∧ SR X.K H' s' σ' ∧ HR X.K H' L' ∧ TK H1 H' ∧ Kp H L H' L' ∧ forD g db ok (ds.drop i) dn s' L', ⟨_, s, L1, Nat.zero_le _, rfl, hs.tk (k1.tk hr), hr1, .refl _, k1, q⟩, ?_⟩
  rintro i m σ' H' ⟨s', L', hi, rfl, hs', hr', tk', k', q'⟩
  by_cases hlt : i < ds.length
  · have ed : ds.drop i = ds[i] :: ds.drop (i + 1) := List.drop_eq_getElem_cons hlt
    rw [ed] at q'
    obtain ⟨hok, q'⟩ := q'
    obtain ⟨go, yl⟩ := (ito i H' L' tk' hr' hok).2 ds[i] (List.getElem?_eq_getElem hlt)
    refine .inr ⟨go, fun σ2 H2 => ∃ s2 L2, SR X.K H2 s2 σ2 ∧ HR X.K H2 L2 ∧ TK H1 H2 ∧ Kp H L H2 L2 ∧ forD g db ok (ds.drop (i + 1)) dn s2 L2, fun σ2 H2 ⟨s2, L2, a, b, c, d, e⟩ => ⟨ds.length - (i + 1), by omega, s2, L2, hlt, rfl, a, b, c, d, e⟩, fun x H'' y => ?_⟩
    obtain ⟨ry, hry, ky, ty⟩ := yl x H'' y
    refine lG ds[i] x s' σ' H'' L' _ _ ry (hs'.tk ty) hry q' fun s1 L1' σ1 H1' q1 hs1 hr1' k1' => ?_
    have kk := (k'.trans ky).trans k1'
    have tt := (tk'.trans ty).trans (k1'.tk hry)
    refine ⟨s1, L1', _, hs1, hr1', q1, fun s2 L2 σ2 H2 a b c d => ⟨s2, L2, b, c, tt.trans (d.tk hr1'), kk.trans d, a⟩, ?_, ?_, fun s2 L2 σ2 H2 a b c d => ⟨s2, L2, b, c, tt.trans (d.tk hr1'), kk.trans d, a⟩, ?_⟩
    · exact fun d L2 v H2 a b c e => p.rt d L2 v H2 a b c (kk.trans e)
    · exact fun s2 L2 σ2 H2 a b c d => p.nx s2 L2 σ2 H2 a b c (kk.trans d)
    · exact fun C fs cls dx s2 L2 σ2 H2 a b c d e => p.ex C fs cls dx s2 L2 σ2 H2 a b c d (kk.trans e)
  · have e : i = ds.length := by omega
    subst e
    rw [List.drop_length] at q'
    obtain ⟨hok, q'⟩ := q'
    exact .inl ⟨(ito _ H' L' tk' hr' hok).1 rfl, p.nx s' L' σ' H' q' hs' hr' k'⟩
/-! while -/
def sWhile (c : DT) (db : DS) : DS := fun dn s L => ∃ Wd : Nat → DSt → DH → Prop, (∃ m, Wd m s L) ∧ ∀ m s L, Wd m s L →
  c s L (fun b L1 => if b = true then db { dn with nx := fun s' L' => ∃ m', m' < m ∧ Wd m' s' L', ct := fun s' L' => ∃ m', m' < m ∧ Wd m' s' L', bk := dn.nx } s L1 else dn.nx s L1) (xOf dn s)
theorem qs_while {c : Expr} {body : List Stmt} {dc : DT} {db : DS} (hp : PassesOwn (model X.prog X.w) X.A X.env X.xe) (hc : QT X W c dc) (hb : QSs X W body db) : QS X W (.While c body [] pos) (sWhile dc db) := by
  refine ⟨PS_mono (ps_while hp hc.pt hb.ps) fun Dn σ H ⟨s, L, dn, hs, hr, ⟨Wd, ⟨m0, h0⟩, h⟩, p⟩ => ?_⟩
  refine ⟨fun m σ' H' => ∃ s' L', SR X.K H' s' σ' ∧ HR X.K H' L' ∧ Kp H L H' L' ∧ Wd m s' L', ⟨m0, s, L, hs, hr, .refl, h0⟩, ?_⟩
  rintro m σ' H' ⟨s', L', hs', hr', k', hw⟩
  refine liftT_bind hs' hr' ((p.after k').lp hs' hr') (h m s' L' hw) fun k L1 H1 q1 hr1 k1 hs1 t1 lp1 => ?_
  have kk := k'.trans k1
  cases k with
  | false => exact (if_neg Bool.false_ne_true).mpr (p.nx s' L1 σ' H1 ((if_neg Bool.false_ne_true).mp q1) hs1 hr1 kk)
  | true =>
    refine (if_pos rfl).mpr ⟨fun σ2 H2 => ∃ m', m' < m ∧ ∃ s2 L2, SR X.K H2 s2 σ2 ∧ HR X.K H2 L2 ∧ Kp H L H2 L2 ∧ Wd m' s2 L2, fun σ2 H2 q => q, s', L1, _, hs1, hr1, (if_pos rfl).mp q1, ?_⟩
    exact ⟨fun s2 L2 σ2 H2 ⟨m', l, a⟩ b c d => ⟨m', l, s2, L2, b, c, kk.trans d, a⟩, fun d L2 v H2 a b c e => p.rt d L2 v H2 a b c (kk.trans e), fun s2 L2 σ2 H2 a b c d => p.nx s2 L2 σ2 H2 a b c (kk.trans d),
      fun s2 L2 σ2 H2 ⟨m', l, a⟩ b c d => ⟨m', l, s2, L2, b, c, kk.trans d, a⟩, fun C fs cls dx s2 L2 σ2 H2 a b c d e => p.ex C fs cls dx s2 L2 σ2 H2 a b c d (kk.trans e)⟩
end
/-! what is walked -/
def isSeq (L : DH) : D → Option (List D × (DH → Prop))
  | .tup ds => some (ds, fun _ => True)
  | .lro ds => some (ds, fun _ => True)
  | .ref a => match L a with
    | some (.lst ds) => some (ds, fun L' => L' a = some (.lst ds))
    | none => none
  | _ => none
def dSeq (de : DE) : DI := fun s L Q E => de s L (fun d L1 => ∃ ds ok, isSeq L1 d = some (ds, ok) ∧ Q ds ok L1) E
def tSeqI (K : PySem.W.Frag) (tl : TE) : TI := fun σ H R => tl σ H fun x H1 => ∃ a, x = .ref a ∧ ((∃ xs, SqL K H1 a xs) ∧ R (Itl K a) H1 ∨ (∃ xs, SqT K H1 a xs) ∧ R (Itt K a) H1)
theorem pi_seq {X : Cx} {tg l : Expr} {tl : TE} (hl : PE X l tl) : PI X tg l (tSeqI X.K tl) := by
  refine ⟨fun pins s σ H R I h => ?_⟩
  refine thn (hl.run pins s σ H _ I h) fun v s1 ⟨x, H1, I1, r1, q1⟩ => ?_
  obtain ⟨a, e, q⟩ := q1
  subst e
  cases r1
  rcases q with ⟨⟨xs, hq⟩, q⟩ | ⟨⟨xs, hq⟩, q⟩
  · obtain ⟨its, rv, p, hz⟩ := I1.list hq
    refine wpAny_pyIter_list p.isList ?_
    refine ⟨s1.heap.objs.size, [s1.heap.objs.size], _, _, H1, rfl, I1.kept (t' := s1.toks) fun b o e => Heap.get?_push_of_some _ e, turn_list a _, ⟨_, Heap.get?_push_size _ rfl, rfl, rfl⟩, fun b hb => ?_, q⟩
    have e : b = s1.heap.objs.size := by simpa using hb
    subst e
    exact I1.fpOk (Nat.le_refl _) (I1.hok.fresh (Nat.le_refl _))
  · obtain ⟨its, rv, p, hz⟩ := I1.tuple hq
    refine wpAny_pyIter_tuple (show s1.heap.IsTuple a its.toArray from p) ?_
    refine ⟨s1.heap.objs.size, [s1.heap.objs.size], _, _, H1, rfl, I1.kept (t' := s1.toks) fun b o e => Heap.get?_push_of_some _ e, turn_tuple a _, ⟨_, Heap.get?_push_size _ rfl, rfl, rfl⟩, fun b hb => ?_, q⟩
    have e : b = s1.heap.objs.size := by simpa using hb
    subst e
    exact I1.fpOk (Nat.le_refl _) (I1.hok.fresh (Nat.le_refl _))
/-- two lists told of one object are the same -/
theorem sqL_of {K : PySem.W.Frag} {H : Hp} {a : Addr} {xs : List V} (h : SqL K H a xs) {i : Nat} {v : V} (e : xs[i]? = some v) : (Itl K a).go i H := ⟨xs, v, h, e⟩
section
variable {X : Cx} {W : WX} {pos : Pos}
theorem itOk_L {K : PySem.W.Frag} {a : Addr} {ds : List D} {ok : DH → Prop} {H0 : Hp} (h : ∀ H L, TK H0 H → HR K H L → ok L → ∃ vs, SqL K H a vs ∧ RepL K H ds vs) : ItOk K (Itl K a) ds ok H0 := fun i H L tk hr hok => by
  obtain ⟨vs, sq, r⟩ := h H L tk hr hok
  refine ⟨fun e => ⟨vs, sq, by rw [← r.length]; exact Nat.le_of_eq e.symm⟩, fun d e => ?_⟩
  obtain ⟨v, e2, rv⟩ := r.get e
  refine ⟨⟨vs, v, sq, e2⟩, fun x H' ⟨e3, y⟩ => ?_⟩
  subst e3
  have := y vs sq
  rw [e2] at this
  cases this
  exact ⟨rv, hr, .refl, .refl _⟩
theorem itOk_T {K : PySem.W.Frag} {a : Addr} {ds : List D} {ok : DH → Prop} {H0 : Hp} (h : ∀ H L, TK H0 H → HR K H L → ok L → ∃ vs, SqT K H a vs ∧ RepL K H ds vs) : ItOk K (Itt K a) ds ok H0 := fun i H L tk hr hok => by
  obtain ⟨vs, sq, r⟩ := h H L tk hr hok
  refine ⟨fun e => ⟨vs, sq, by rw [← r.length]; exact Nat.le_of_eq e.symm⟩, fun d e => ?_⟩
  obtain ⟨v, e2, rv⟩ := r.get e
  refine ⟨⟨vs, v, sq, e2⟩, fun x H' ⟨e3, y⟩ => ?_⟩
  subst e3
  have := y vs sq
  rw [e2] at this
  cases this
  exact ⟨rv, hr, .refl, .refl _⟩
theorem qi_seq {tg e : Expr} {de : DE} (h : QE X W e de) : QI X W tg e (dSeq de) :=
  ⟨PI_mono (pi_seq h.pe) fun σ H R ⟨s, L, Qd, Ed, hs, hr, q, hq, lp⟩ => liftE_bind hs hr lp q fun d L1 x H1 ⟨ds, ok, e, q1⟩ r1 hr1 k1 hs1 t1 lp1 => by
    cases d with
    | tup xs =>
      cases e
      obtain ⟨a, vs, e2, sq, rl⟩ := r1
      exact ⟨a, e2, .inr ⟨⟨vs, sq⟩, hq _ _ L1 H1 _ q1 hr1 k1 (itOk_T fun H L tk _ _ => ⟨vs, tk.sqT sq, RepL.tk tk _ _ rl⟩)⟩⟩
    | lro xs =>
      cases e
      obtain ⟨a, vs, e2, sq, rl⟩ := r1
      exact ⟨a, e2, .inl ⟨⟨vs, sq.sq⟩, hq _ _ L1 H1 _ q1 hr1 k1 (itOk_L fun H L tk _ _ => ⟨vs, (tk.fzL sq).sq, RepL.tk tk _ _ rl⟩)⟩⟩
    | ref a =>
      have e : (match L1 a with | some (.lst ds) => some (ds, fun L' : DH => L' a = some (.lst ds)) | none => none) = some (ds, ok) := e
      cases hL : L1 a with
      | some o =>
        cases o with | lst xs =>
        rw [hL] at e
        cases e
        obtain ⟨vs, h1, rl⟩ := hr1 a _ hL
        exact ⟨a, r1, .inl ⟨⟨vs, SqL.of h1⟩, hq _ _ L1 H1 _ q1 hr1 k1 (itOk_L fun H L tk hr hok => let ⟨us, h2, r2⟩ := hr a _ hok; ⟨us, SqL.of h2, r2⟩)⟩⟩
      | none => rw [hL] at e; cases e
    | _ => cases e⟩
/-! ranges -/
def rngD (lo : Int) (n : Nat) : List D := (List.range n).map fun (i : Nat) => D.int (lo + i)
theorem itOk_R {K : PySem.W.Frag} {lo : Int} {n : Nat} {ok : DH → Prop} {H0 : Hp} : ItOk K (Itr lo n) (rngD lo n) ok H0 := fun i H L tk hr hok => by
  have hl : (rngD lo n).length = n := by simp [rngD]
  refine ⟨fun e => by show n ≤ i; omega, fun d e => ?_⟩
  have hi : i < n := by
    have := (List.getElem?_eq_some_iff.mp e).1
    omega
  refine ⟨hi, fun x H' ⟨e3, y⟩ => ?_⟩
  subst e3 y
  have : d = D.int (lo + i) := by
    unfold rngD at e
    rw [List.getElem?_map, List.getElem?_range hi] at e
    exact (Option.some.inj e).symm
  subst this
  exact ⟨rfl, hr, .refl, .refl _⟩
def dRng1 (t : DA) : DI := fun s L Q E => t s L (fun ds L1 => ∃ j : Int, ds = [.int j] ∧ (-(2 ^ 62) ≤ j ∧ j < 2 ^ 62) ∧ Q (rngD 0 j.toNat) (fun _ => True) L1) E
def dRng2 (t : DA) : DI := fun s L Q E => t s L (fun ds L1 => ∃ i j : Int, ds = [.int i, .int j] ∧ (-(2 ^ 62) ≤ i ∧ i < 2 ^ 62 ∧ -(2 ^ 62) ≤ j ∧ j < 2 ^ 62) ∧ Q (rngD i (j - i).toNat) (fun _ => True) L1) E
theorem qi_rng1 {tg a : Expr} {p : Pos} {ta : DA} (hm : X.mg "range" = none) (ha : QA X W [a] ta) (hg : Gl X "range" := by rfl) (hs : starEach [a] X.env = [(false, eval a X.env)] := by rfl) : QI X W tg (.Call (.Name "range" p) [a] [] pos) (dRng1 ta) :=
  ⟨PI_mono (pi_range1 hg hm ha.pa hs) fun σ H R ⟨s, L, Qd, Ed, hs, hr, q, hq, lp⟩ => liftA_bind hs hr lp q fun ds L1 vs H1 ⟨j, e, b, q1⟩ r1 hr1 k1 hs1 t1 lp1 => by
    subst e
    have e2 := repL_ints (ns := [j]) r1
    exact ⟨j, e2, b.1, b.2, hq _ _ L1 H1 _ q1 hr1 k1 itOk_R⟩⟩
theorem qi_rng2 {tg a b : Expr} {p : Pos} {ta : DA} (hm : X.mg "range" = none) (ha : QA X W [a, b] ta) (hg : Gl X "range" := by rfl) (hs : starEach [a, b] X.env = [(false, eval a X.env), (false, eval b X.env)] := by rfl) (hs2 : starEach [b] X.env = [(false, eval b X.env)] := by rfl) :
    QI X W tg (.Call (.Name "range" p) [a, b] [] pos) (dRng2 ta) :=
  ⟨PI_mono (pi_range2 hg hm ha.pa hs hs2) fun σ H R ⟨s, L, Qd, Ed, hs, hr, q, hq, lp⟩ => liftA_bind hs hr lp q fun ds L1 vs H1 ⟨i, j, e, b, q1⟩ r1 hr1 k1 hs1 t1 lp1 => by
    subst e
    have e2 := repL_ints (ns := [i, j]) r1
    exact ⟨i, j, e2, b, hq _ _ L1 H1 _ q1 hr1 k1 itOk_R⟩⟩
end
end D2

set_option Elab.async false
set_option linter.all false
set_option maxRecDepth 100000
set_option maxHeartbeats 1000000
namespace D2
open PySem PySem.Spec PyProof.Rows L2
/-! ### operators -/
section
variable {K : PySem.W.Frag}
def dI (C : Int → Int → Prop) (f : Int → Int → Int) : RD2 := fun x y L Q => match x, y with
  | .int i, .int j => C i j ∧ Q (.int (f i j)) L
  | _, _ => False
theorem opd_I {C : Int → Int → Prop} {f : Int → Int → Int} : OpD K (rI C fun i j => .int (f i j)) (dI C f) := fun H L d e x y Qd Q rx ry hr q k => by
  cases d with
  | int i =>
    cases e with
    | int j => exact ⟨i, j, rx, ry, q.1, k _ L _ H q.2 rfl hr .refl⟩
    | _ => exact False.elim q
  | _ => exact False.elim q
def dI0 (f : Int → Int → Int) : RD2 := fun x y L Q => match x, y with
  | .int i, .int j => Q (.int (f i j)) L
  | _, _ => False
theorem opd_I0 {f : Int → Int → Int} : OpD K (rI0 fun i j => .int (f i j)) (dI0 f) := fun H L d e x y Qd Q rx ry hr q k => by
  cases d with
  | int i =>
    cases e with
    | int j => exact ⟨i, j, rx, ry, k _ L _ H q rfl hr .refl⟩
    | _ => exact False.elim q
  | _ => exact False.elim q
def dB0 (f : Int → Int → Bool) : RD2 := fun x y L Q => match x, y with
  | .int i, .int j => Q (.bl (f i j)) L
  | _, _ => False
theorem opd_B0 {f : Int → Int → Bool} : OpD K (rI0 fun i j => .bl (f i j)) (dB0 f) := fun H L d e x y Qd Q rx ry hr q k => by
  cases d with
  | int i =>
    cases e with
    | int j => exact ⟨i, j, rx, ry, k _ L _ H q rfl hr .refl⟩
    | _ => exact False.elim q
  | _ => exact False.elim q
abbrev dSub : RD2 := dI0 fun i j => i - j
def CMulA (i j : Int) : Prop := CMul i j ∨ CMulW i j
abbrev dMulI : RD2 := dI CMulA fun i j => i * j
theorem op_mulA {X : Cx} : OpR X (binaryOp .Mult) (rI CMulA fun i j => .int (i * j)) := opI fun _ _ _ _ _ _ _ hc q => mul_int q (hc.elim CMul.ok CMulW.ok)
theorem cmul_l {i j : Int} (h1 : -(2 ^ 64) < i) (h2 : i < 2 ^ 64) : CMulA i j := .inl (.inl ⟨h1, h2⟩)
theorem cmul_r {i j : Int} (h1 : -(2 ^ 64) < j) (h2 : j < 2 ^ 64) : CMulA i j := .inl (.inr ⟨h1, h2⟩)
theorem cdiv_of {i j : Int} (h1 : 0 < j) (h2 : j < 2 ^ 64) : CDivW i j := wide_div (b := 64) h1 (by omega) (by decide) (by decide)
abbrev dDiv : RD2 := dI CDivW fun i j => i / j
abbrev dMod : RD2 := dI (fun _ j => 0 < j) fun i j => i % j
abbrev dLt : RD2 := dB0 fun i j => decide (i < j)
abbrev dLe : RD2 := dB0 fun i j => decide (i ≤ j)
abbrev dGt : RD2 := dB0 fun i j => decide (j < i)
abbrev dGe : RD2 := dB0 fun i j => decide (j ≤ i)
def CPowW (i j : Int) : Prop := 0 ≤ j ∧ (Builtin.Int.intBits i : Int) * j ≤ 2 ^ 27
abbrev dPow : RD2 := dI CPowW fun i j => i ^ j.toNat
theorem op_powW {X : Cx} : OpR X (binaryOp .Pow) (rI CPowW fun i j => .int (i ^ j.toNat)) := opI fun _ _ _ _ _ _ _ hc q => PyProof.Rows.pow_int hc.1 hc.2 q
/-! + -/
theorem strOk_app {x y : Str} (hx : PyData.strOk x = true) (hy : PyData.strOk y = true) : PyData.strOk (x ++ y) = true := by
  have e : (x ++ y).cps = x.cps ++ y.cps := rfl
  unfold PyData.strOk at *
  rw [e, Array.all_append, hx, hy]; rfl
theorem cat_tup0 {prog : Program} {w : World} {A : Around} {E : Value → Shared → Prop} {s : Shared} {t b : Addr} {ws : List Value} {Q : Value → Shared → Prop} (ht : IsTup s.heap t #[]) (hb : IsTup s.heap b ws.toArray)
    (h1 : Q (.ref b) s) : wpAny (model prog w) A (binaryOp .Add (.ref t) (.ref b)) Q E s := by
  obtain ⟨⟨cls, dd, data, sl⟩, ho, hc, n, hd⟩ := id ht
  obtain ⟨⟨cls2, dd2, data2, sl2⟩, ho2, hc2, n2, hd2⟩ := id hb
  simp only at hc hd hc2 hd2
  subst hc hd hc2 hd2
  exact concat_meets ⟨_, ho, rfl⟩ ⟨_, ho2, rfl⟩ noFill_tuple_add seq_tuple_add PySem.F.slot_tuple_add PySem.F.entry_tuple_add (PySem.F.args_tuple_add_2 _ _)
      (tuple_addW0 t b #[] ws.toArray n n2 dd dd2 sl sl2 (by simp)) ⟨ho, ho2, h1⟩
def rCatT0 (K : PySem.W.Frag) : R2 := fun x y H Q => ∃ a b ys, x = .ref a ∧ y = .ref b ∧ SqT K H a [] ∧ SqT K H b ys ∧ Q (.ref b) H
theorem op_catT0 {X : Cx} : OpR X (binaryOp .Add) (rCatT0 X.K) := by
  intro pins s σ H x y v u Q I rx ry h
  obtain ⟨a, b, ys, rfl, rfl, ha, hb, q⟩ := h
  cases rx
  cases ry
  obtain ⟨its, r1, p1, _⟩ := I.tuple ha
  obtain ⟨its2, r2, p2, _⟩ := I.tuple hb
  cases r1
  exact cat_tup0 p1 p2 ⟨.ref b, H, I, rfl, q⟩
def rStrCat : R2 := fun x y H Q => ∃ i j, x = .str i ∧ y = .str j ∧ i.length + j.length ≤ sizeLine ∧ Q (.str (i ++ j)) H
abbrev rAddAll (K : PySem.W.Frag) : R2 := fun x y H Q => (rI0 (fun i j => .int (i + j)) x y H Q ∨ rStrCat x y H Q) ∨ (rCatT0 K x y H Q ∨ rCatT K x y H Q) ∨ rCat x y H Q
theorem op_addAll {X : Cx} : OpR X (binaryOp .Add) (rAddAll X.K) := (op_add.or op_add_str).or ((op_catT0.or op_catT).or op_cat)
def dAdd : RD2 := fun x y L Q => match x, y with
  | .int i, .int j => Q (.int (i + j)) L
  | .str i, .str j => i.length + j.length ≤ 16777216 ∧ Q (.str (i ++ j)) L
  | .tup xs, .tup ys => xs.length + ys.length ≤ 16777216 ∧ Q (.tup (xs ++ ys)) L
  | .ref a, .ref b => ∃ xs ys, L a = some (.lst xs) ∧ L b = some (.lst ys) ∧ xs.length + ys.length ≤ 16777216 ∧ ∀ p, L p = none → Q (.ref p) (upd L p (.lst (xs ++ ys)))
  | _, _ => False
theorem opd_add : OpD K (rAddAll K) dAdd := fun H L d e x y Qd Q rx ry hr q k => by
  cases d with
  | int i =>
    cases e with
    | int j => exact .inl (.inl ⟨i, j, rx, ry, k _ L _ H q rfl hr .refl⟩)
    | _ => exact False.elim q
  | str i =>
    cases e with
    | str j => exact .inl (.inr ⟨i, j, rx.1, ry.1, line_of q.1, k _ L _ H q.2 ⟨rfl, strOk_app rx.2 ry.2⟩ hr .refl⟩)
    | _ => exact False.elim q
  | tup xs =>
    cases e with
    | tup ys =>
      obtain ⟨a, vs, e1, s1, r1⟩ := rx
      obtain ⟨b, us, e2, s2, r2⟩ := ry
      rcases Classical.em (vs = []) with hv | hv
      · subst hv
        have : xs = [] := by have := r1.length; cases xs <;> simp_all
        subst this
        exact .inr (.inl (.inl ⟨a, b, us, e1, e2, s1, s2, k _ L _ H q.2 ⟨b, us, rfl, s2, r2⟩ hr .refl⟩))
      · refine .inr (.inl (.inr ⟨a, b, vs, us, e1, e2, s1, s2, hv, by rw [← r1.length, ← r2.length]; exact line_of q.1, fun z => ?_, fun _ p hp => ?_⟩))
        · subst z
          have : ys = [] := by have := r2.length; cases ys <;> simp_all
          subst this
          exact k _ L _ H q.2 ⟨a, vs, rfl, s1, by simpa using r1⟩ hr .refl
        · exact k _ L _ _ q.2 ⟨p, _, rfl, .inl (.inl upd_same), RepL.tk (HR.tk_new hp) _ _ (r1.append r2)⟩ (hr.laid hp).1 (hr.laid hp).2
    | _ => exact False.elim q
  | ref a =>
    cases e with
    | ref b =>
      obtain ⟨xs, ys, h1, h2, hl, q⟩ := q
      obtain ⟨vs, g1, r1⟩ := hr a _ h1
      obtain ⟨us, g2, r2⟩ := hr b _ h2
      exact .inr (.inr ⟨a, b, vs, us, rx, ry, g1, g2, by rw [← r1.length, ← r2.length]; exact line_of hl, fun p hp => k _ _ _ _ (q p (hr.free hp)) rfl (hr.new hp (r1.append r2)).1 (hr.new hp (r1.append r2)).2⟩)
    | _ => exact False.elim q
  | _ => exact False.elim q
/-! is None -/
def isNon : D → Bool
  | .non => true
  | _ => false
def dIsN : RD2 := fun x y L Q => match y with
  | .non => Q (.bl (isNon x)) L
  | _ => False
def dNotN : RD2 := fun x y L Q => match y with
  | .non => Q (.bl (!isNon x)) L
  | _ => False
theorem rep_non {H : Hp} {d : D} {x : V} (r : Rep K H d x) : decide (x = .non) = isNon d := by
  cases d with
  | non => cases (show x = _ from r); rfl
  | bl b => cases (show x = _ from r); rfl
  | int b => cases (show x = _ from r); rfl
  | str b => cases (show x = _ from r.1); rfl
  | tup b => obtain ⟨a, vs, e, _⟩ := r; subst e; rfl
  | lro b => obtain ⟨a, vs, e, _⟩ := r; subst e; rfl
  | ref b => cases (show x = _ from r); rfl
theorem opd_isN : OpD K (fun x y H Q => y = .non ∧ Q (.bl (decide (x = .non))) H) dIsN := fun H L d e x y Qd Q rx ry hr q k => by
  cases e with
  | non => exact ⟨ry, by rw [rep_non rx]; exact k _ L _ H q rfl hr .refl⟩
  | _ => exact False.elim q
theorem opd_notN : OpD K (fun x y H Q => y = .non ∧ Q (.bl (!decide (x = .non))) H) dNotN := fun H L d e x y Qd Q rx ry hr q k => by
  cases e with
  | non =>
    refine ⟨ry, ?_⟩
    rw [rep_non rx]
    exact k _ L _ H q rfl hr .refl
  | _ => exact False.elim q
/-! indexes -/
def dIx : RD2 := fun x y L Q => match y with
  | .int i => (match x with
    | .tup xs => ∃ d, atI xs i = some d ∧ Q d L
    | .lro xs => ∃ d, atI xs i = some d ∧ Q d L
    | .str z => z.length ≤ 16777216 ∧ ∃ c, atI z.cps.toList i = some c ∧ Q (.str ⟨#[c]⟩) L
    | .ref a => ∃ xs, L a = some (.lst xs) ∧ ∃ d, atI xs i = some d ∧ Q d L
    | _ => False)
  | _ => False
theorem RepL.atI {H : Hp} {ds : List D} {vs : List V} {i : Int} {d : D} (h : RepL K H ds vs) (e : atI ds i = some d) : ∃ v, L2.atI vs i = some v ∧ Rep K H d v := by
  unfold L2.atI at *
  rw [← h.length]
  cases q : ixN ds.length i with
  | none => rw [q] at e; cases e
  | some j =>
    rw [q] at e
    obtain ⟨v, h1, h2⟩ := h.get (i := j) (d := d) e
    exact ⟨v, h1, h2⟩
theorem strOk_mem {z : Str} (h : PyData.strOk z = true) {c : Nat} (hc : c ∈ z.cps.toList) : PyData.strOk ⟨#[c]⟩ = true := by
  unfold PyData.strOk at *
  rw [Array.all_eq_true] at h
  have : c < 0x110000 := by
    obtain ⟨i, hi, e⟩ := List.getElem_of_mem hc
    have := h i (by simpa using hi)
    rw [← e]
    simpa using this
  simp [this]
theorem atI_mem {α : Type} {xs : List α} {i : Int} {v : α} (h : atI xs i = some v) : v ∈ xs := by
  obtain ⟨j, _, e, _⟩ := atI_get h
  exact List.mem_of_getElem? e
theorem opd_ix : OpD K (rIx K) dIx := fun H L d e x y Qd Q rx ry hr q k => by
  cases e with
  | int i =>
    cases d with
    | tup xs =>
      obtain ⟨a, vs, e1, s1, r1⟩ := rx
      obtain ⟨d, e2, q⟩ := q
      obtain ⟨v, e3, r3⟩ := r1.atI e2
      exact .inr (.inl ⟨a, vs, i, v, e1, ry, s1, e3, k _ L _ H q r3 hr .refl⟩)
    | lro xs =>
      obtain ⟨a, vs, e1, s1, r1⟩ := rx
      obtain ⟨d, e2, q⟩ := q
      obtain ⟨v, e3, r3⟩ := r1.atI e2
      exact .inl ⟨a, vs, i, v, e1, ry, s1.sq, e3, k _ L _ H q r3 hr .refl⟩
    | str z =>
      obtain ⟨hl, c, e2, q⟩ := q
      exact .inr (.inr ⟨z, i, c, rx.1, ry, line_of hl, e2, k _ L _ H q ⟨rfl, strOk_mem rx.2 (atI_mem e2)⟩ hr .refl⟩)
    | ref a =>
      obtain ⟨xs, h1, d, e2, q⟩ := q
      obtain ⟨vs, g1, r1⟩ := hr a _ h1
      obtain ⟨v, e3, r3⟩ := r1.atI e2
      exact .inl ⟨a, vs, i, v, rx, ry, SqL.of g1, e3, k _ L _ H q r3 hr .refl⟩
    | _ => exact False.elim q
  | _ => exact False.elim q
/-! stores -/
def dSetL : SetD := fun o i d L P => match o, i with
  | .ref a, .int j => ∃ xs n, L a = some (.lst xs) ∧ ixN xs.length j = some n ∧ P (upd L a (.lst (xs.set n d)))
  | _, _ => False
theorem set_d : SetOk K rSetL dSetL := fun o i d vo vi v H L P Q ro ri rd hr q k => by
  cases o with
  | ref a =>
    cases i with
    | int j =>
      obtain ⟨xs, n, h1, e, q⟩ := q
      obtain ⟨vs, g1, r1⟩ := hr a _ h1
      exact ⟨a, vs, j, n, ro, ri, g1, by rw [← r1.length]; exact e, k _ _ q (hr.set h1 (r1.set n rd)).1 (hr.set h1 (r1.set n rd)).2⟩
    | _ => exact False.elim q
  | _ => exact False.elim q
/-! unary minus -/
def dNeg : D → DH → DK → Prop := fun x L Q => match x with
  | .int i => Q (.int (-i)) L
  | _ => False
theorem und_neg : UnD K (rU fun i => .int (-i)) dNeg := fun H L d x Qd Q rx hr q k => by
  cases d with
  | int i => exact ⟨i, rx, k _ L _ H q rfl hr .refl⟩
  | _ => exact False.elim q
/-! calls by values -/
/-- one argument -/
def one (f : D → DH → DK → Prop) : RDA := fun ds L Q => match ds with
  | [] => False
  | d :: r => match r with
    | [] => f d L Q
    | _ :: _ => False
def two (f : D → D → DH → DK → Prop) : RDA := fun ds L Q => match ds with
  | [] => False
  | d :: r => match r with
    | [] => False
    | e :: t => match t with
      | [] => f d e L Q
      | _ :: _ => False
theorem RepL.one_inv {H : Hp} {d : D} {vs : List V} (h : RepL K H [d] vs) : ∃ v, vs = [v] ∧ Rep K H d v := by
  obtain ⟨v, r, e, h, q⟩ := h
  cases (show r = [] from q)
  exact ⟨v, e, h⟩
theorem RepL.two_inv {H : Hp} {d e : D} {vs : List V} (h : RepL K H [d, e] vs) : ∃ v u, vs = [v, u] ∧ Rep K H d v ∧ Rep K H e u := by
  obtain ⟨v, r, e, h, u, r2, e2, h2, q⟩ := h
  cases (show r2 = [] from q)
  exact ⟨v, u, by rw [e, e2], h, h2⟩
theorem cd_one {r : List V → Hp → VK → Prop} {f : D → DH → DK → Prop} (h : ∀ (H : Hp) (L : DH) (d : D) (x : V) (Qd : DK) (Q : VK), Rep K H d x → HR K H L → f d L Qd →
    (∀ d' L' v H', Qd d' L' → Rep K H' d' v → HR K H' L' → Kp H L H' L' → Q v H') → r [x] H Q) : CallD K r (one f) := fun H L ds xs Qd Q rr hr q k => by
  cases ds with
  | nil => exact q.elim
  | cons d t =>
    cases t with
    | nil => obtain ⟨v, e, rv⟩ := rr.one_inv; subst e; exact h H L d v Qd Q rv hr q k
    | cons _ _ => exact q.elim
theorem cd_two {r : List V → Hp → VK → Prop} {f : D → D → DH → DK → Prop} (h : ∀ (H : Hp) (L : DH) (d e : D) (x y : V) (Qd : DK) (Q : VK), Rep K H d x → Rep K H e y → HR K H L → f d e L Qd →
    (∀ d' L' v H', Qd d' L' → Rep K H' d' v → HR K H' L' → Kp H L H' L' → Q v H') → r [x, y] H Q) : CallD K r (two f) := fun H L ds xs Qd Q rr hr q k => by
  cases ds with
  | nil => exact q.elim
  | cons d t =>
    cases t with
    | nil => exact q.elim
    | cons e t =>
      cases t with
      | nil => obtain ⟨v, u, e, rv, ru⟩ := rr.two_inv; subst e; exact h H L d _ v u Qd Q rv ru hr q k
      | cons _ _ => exact q.elim
def dLen1 : D → DH → DK → Prop := fun d L Q => match d with
  | .tup xs => Q (.int xs.length) L
  | .lro xs => Q (.int xs.length) L
  | .str z => z.length ≤ 16777216 ∧ Q (.int z.length) L
  | .ref a => ∃ xs, L a = some (.lst xs) ∧ Q (.int xs.length) L
  | _ => False
abbrev dLen : RDA := one dLen1
theorem cd_len : CallD K (fun xs H Q => ∃ x n, xs = [x] ∧ LenV K x H n ∧ Q (.int n) H) dLen := cd_one fun H L d x Qd Q r hr q k => by
  cases d with
  | tup ys =>
    obtain ⟨a, vs, e1, s1, r1⟩ := r
    subst e1
    exact ⟨_, vs.length, rfl, .inr ⟨vs, s1, rfl⟩, by rw [← r1.length]; exact k _ L _ H q rfl hr .refl⟩
  | lro ys =>
    obtain ⟨a, vs, e1, s1, r1⟩ := r
    subst e1
    exact ⟨_, vs.length, rfl, .inl ⟨vs, s1.sq, rfl⟩, by rw [← r1.length]; exact k _ L _ H q rfl hr .refl⟩
  | str z =>
    obtain ⟨e1, _⟩ := r
    subst e1
    exact ⟨_, z.length, rfl, ⟨line_of q.1, rfl⟩, k _ L _ H q.2 rfl hr .refl⟩
  | ref a =>
    cases (show x = _ from r)
    obtain ⟨ys, h1, q⟩ := q
    obtain ⟨vs, g1, r1⟩ := hr a _ h1
    exact ⟨_, vs.length, rfl, .inl ⟨vs, SqL.of g1, rfl⟩, by rw [← r1.length]; exact k _ L _ H q rfl hr .refl⟩
  | _ => exact False.elim q
/-- list(x), tuple(x) -/
def dListOf1 : D → DH → DK → Prop := fun d L Q => match d with
  | .tup xs => ∀ p, L p = none → Q (.ref p) (upd L p (.lst xs))
  | .lro xs => ∀ p, L p = none → Q (.ref p) (upd L p (.lst xs))
  | .ref a => ∃ xs, L a = some (.lst xs) ∧ ∀ p, L p = none → Q (.ref p) (upd L p (.lst xs))
  | _ => False
abbrev dListOf : RDA := one dListOf1
theorem cd_list : CallD K (fun xs H Q => ∃ p ys, xs = [.ref p] ∧ (SqL K H p ys ∨ SqT K H p ys) ∧ ∀ l, H l = none → Q (.ref l) (L2.upd H l (.lst ys))) dListOf := cd_one fun H L d x Qd Q r hr q k => by
  cases d with
  | tup ys =>
    obtain ⟨a, vs, e1, s1, r1⟩ := r
    subst e1
    exact ⟨_, vs, rfl, .inr s1, fun p hp => k _ _ _ _ (q p (hr.free hp)) rfl (hr.new hp r1).1 (hr.new hp r1).2⟩
  | lro ys =>
    obtain ⟨a, vs, e1, s1, r1⟩ := r
    subst e1
    exact ⟨_, vs, rfl, .inl s1.sq, fun p hp => k _ _ _ _ (q p (hr.free hp)) rfl (hr.new hp r1).1 (hr.new hp r1).2⟩
  | ref a =>
    cases (show x = _ from r)
    obtain ⟨ys, h1, q⟩ := q
    obtain ⟨vs, g1, r1⟩ := hr a _ h1
    exact ⟨_, vs, rfl, .inl (SqL.of g1), fun p hp => k _ _ _ _ (q p (hr.free hp)) rfl (hr.new hp r1).1 (hr.new hp r1).2⟩
  | _ => exact False.elim q
def dTupOf1 : D → DH → DK → Prop := fun d L Q => match d with
  | .tup xs => Q (.tup xs) L
  | .lro xs => Q (.tup xs) L
  | .ref a => ∃ xs, L a = some (.lst xs) ∧ Q (.tup xs) L
  | _ => False
abbrev dTupOf : RDA := one dTupOf1
theorem cd_tup : CallD K (fun xs H Q => ∃ p ys, xs = [.ref p] ∧ ((SqL K H p ys ∧ ∀ l, H l = none → Q (.ref l) (L2.upd H l (.tup ys))) ∨ (SqT K H p ys ∧ Q (.ref p) H))) dTupOf := cd_one fun H L d x Qd Q r hr q k => by
  cases d with
  | tup ys =>
    obtain ⟨a, vs, e1, s1, r1⟩ := r
    subst e1
    exact ⟨_, vs, rfl, .inr ⟨s1, k _ L _ H q ⟨a, vs, rfl, s1, r1⟩ hr .refl⟩⟩
  | lro ys =>
    obtain ⟨a, vs, e1, s1, r1⟩ := r
    subst e1
    exact ⟨_, vs, rfl, .inl ⟨s1.sq, fun p hp => k _ L _ _ q ⟨p, vs, rfl, .inl (.inl upd_same), RepL.tk (HR.tk_new hp) _ _ r1⟩ (hr.laid hp).1 (hr.laid hp).2⟩⟩
  | ref a =>
    cases (show x = _ from r)
    obtain ⟨ys, h1, q⟩ := q
    obtain ⟨vs, g1, r1⟩ := hr a _ h1
    exact ⟨_, vs, rfl, .inl ⟨SqL.of g1, fun p hp => k _ L _ _ q ⟨p, vs, rfl, .inl (.inl upd_same), RepL.tk (HR.tk_new hp) _ _ r1⟩ (hr.laid hp).1 (hr.laid hp).2⟩⟩
  | _ => exact False.elim q
/-- abs, int -/
def dAbs1 : D → DH → DK → Prop := fun d L Q => match d with
  | .int i => Q (.int (if i < 0 then -i else i)) L
  | _ => False
abbrev dAbs : RDA := one dAbs1
theorem cd_abs : CallD K (fun xs H Q => ∃ i, xs = [.int i] ∧ Q (.int (if i < 0 then -i else i)) H) dAbs := cd_one fun H L d x Qd Q r hr q k => by
  cases d with
  | int i => cases (show x = _ from r); exact ⟨i, rfl, k _ L _ H q rfl hr .refl⟩
  | _ => exact False.elim q
def dIntOf1 : D → DH → DK → Prop := fun d L Q => match d with
  | .int i => Q (.int i) L
  | .bl b => Q (.int (if b then 1 else 0)) L
  | _ => False
abbrev dIntOf : RDA := one dIntOf1
theorem cd_int : CallD K (fun xs H Q => (∃ i, xs = [.int i] ∧ Q (.int i) H) ∨ ∃ k, xs = [.bl k] ∧ Q (.int (if k then 1 else 0)) H) dIntOf := cd_one fun H L d x Qd Q r hr q k => by
  cases d with
  | int i => cases (show x = _ from r); exact .inl ⟨i, rfl, k _ L _ H q rfl hr .refl⟩
  | bl i => cases (show x = _ from r); exact .inr ⟨i, rfl, k _ L _ H q rfl hr .refl⟩
  | _ => exact False.elim q
def dII (f : Int → Int → Int) : D → D → DH → DK → Prop := fun d e L Q => match d, e with
  | .int i, .int j => Q (.int (f i j)) L
  | _, _ => False
theorem cd_II {f : Int → Int → Int} {r : List V → Hp → VK → Prop} (h : ∀ i j H Q, Q (.int (f i j)) H → r [.int i, .int j] H Q) : CallD K r (two (dII f)) := cd_two fun H L d e x y Qd Q rx ry hr q k => by
  cases d with
  | int i =>
    cases e with
    | int j => cases (show x = _ from rx); cases (show y = _ from ry); exact h i j H Q (k _ L _ H q rfl hr .refl)
    | _ => exact False.elim q
  | _ => exact False.elim q
abbrev dMax2 : RDA := two (dII fun i j => if j > i then j else i)
abbrev dMin2 : RDA := two (dII fun i j => if j < i then j else i)
theorem cd_max2 : CallD K (fun xs H Q => ∃ i j, xs = [.int i, .int j] ∧ Q (.int (if j > i then j else i)) H) dMax2 := cd_II fun i j H Q q => ⟨i, j, rfl, q⟩
theorem cd_min2 : CallD K (fun xs H Q => ∃ i j, xs = [.int i, .int j] ∧ Q (.int (if j < i then j else i)) H) dMin2 := cd_II fun i j H Q q => ⟨i, j, rfl, q⟩
/-- the items of what is iterated at once -/
def itemsOf (L : DH) : D → Option (List D)
  | .tup xs => some xs
  | .lro xs => some xs
  | .ref a => match L a with | some (.lst xs) => some xs | none => none
  | _ => none
def lstOf (L : DH) : D → Option (List D)
  | .lro xs => some xs
  | .ref a => match L a with | some (.lst xs) => some xs | none => none
  | _ => none
theorem lstOf_rep {H : Hp} {L : DH} {d : D} {ds : List D} {v : V} (hr : HR K H L) (e : lstOf L d = some ds) (r : Rep K H d v) : ∃ a vs, v = .ref a ∧ SqL K H a vs ∧ RepL K H ds vs := by
  cases d with
  | lro xs => cases e; obtain ⟨a, vs, e1, s1, r1⟩ := r; exact ⟨a, vs, e1, s1.sq, r1⟩
  | ref a =>
    have e : (match L a with | some (.lst xs) => some xs | none => none) = some ds := e
    cases q : L a with
    | none => rw [q] at e; cases e
    | some o =>
      cases o with | lst xs =>
      rw [q] at e; cases e
      obtain ⟨vs, g1, r1⟩ := hr a _ q
      exact ⟨a, vs, r, SqL.of g1, r1⟩
  | _ => cases e
def dSum : RDA := fun ds L Q => ∃ (d : D) (ns : List Int), ds = [d] ∧ lstOf L d = some (ns.map D.int) ∧ Q (.int ns.sum) L
theorem cd_sum : CallD K (rSum K) dSum := fun H L ds xs Qd Q r hr ⟨d, ns, e, h, q⟩ k => by
  subst e
  obtain ⟨v, e, e1⟩ := r.one_inv
  obtain ⟨a, vs, e2, s, r1⟩ := lstOf_rep hr h e1
  subst e e2
  rw [repL_ints r1] at s
  exact ⟨a, ns, rfl, s, k _ L _ H q rfl hr .refl⟩
def dMaxL : RDA := fun ds L Q => ∃ (d : D) (ns : List Int), ds = [d] ∧ lstOf L d = some (ns.map D.int) ∧ 0 < ns.length ∧ ∀ m, m ∈ ns → (∀ y, y ∈ ns → y ≤ m) → Q (.int m) L
theorem cd_maxL : CallD K (rMax K) dMaxL := fun H L ds xs Qd Q r hr ⟨d, ns, e, h, hn, q⟩ k => by
  subst e
  obtain ⟨v, e, e1⟩ := r.one_inv
  obtain ⟨a, vs, e2, s, r1⟩ := lstOf_rep hr h e1
  subst e e2
  rw [repL_ints r1] at s
  exact ⟨a, ns, rfl, s, hn, fun m h1 h2 => k _ L _ H (q m h1 h2) rfl hr .refl⟩
def dMinL : RDA := fun ds L Q => ∃ (d : D) (ns : List Int), ds = [d] ∧ lstOf L d = some (ns.map D.int) ∧ 0 < ns.length ∧ ∀ m, m ∈ ns → (∀ y, y ∈ ns → m ≤ y) → Q (.int m) L
theorem cd_minL : CallD K (rMin K) dMinL := fun H L ds xs Qd Q r hr ⟨d, ns, e, h, hn, q⟩ k => by
  subst e
  obtain ⟨v, e, e1⟩ := r.one_inv
  obtain ⟨a, vs, e2, s, r1⟩ := lstOf_rep hr h e1
  subst e e2
  rw [repL_ints r1] at s
  exact ⟨a, ns, rfl, s, hn, fun m h1 h2 => k _ L _ H (q m h1 h2) rfl hr .refl⟩
def dAll : RDA := fun ds L Q => ∃ (d : D) (bs : List Bool), ds = [d] ∧ lstOf L d = some (bs.map D.bl) ∧ Q (.bl (bs.all id)) L
theorem cd_all : CallD K (rAll K) dAll := fun H L ds xs Qd Q r hr ⟨d, ns, e, h, q⟩ k => by
  subst e
  obtain ⟨v, e, e1⟩ := r.one_inv
  obtain ⟨a, vs, e2, s, r1⟩ := lstOf_rep hr h e1
  subst e e2
  rw [repL_bls r1] at s
  exact ⟨a, ns, rfl, s, k _ L _ H q rfl hr .refl⟩
def dAny : RDA := fun ds L Q => ∃ (d : D) (bs : List Bool), ds = [d] ∧ lstOf L d = some (bs.map D.bl) ∧ Q (.bl (bs.any id)) L
theorem cd_any : CallD K (rAny K) dAny := fun H L ds xs Qd Q r hr ⟨d, ns, e, h, q⟩ k => by
  subst e
  obtain ⟨v, e, e1⟩ := r.one_inv
  obtain ⟨a, vs, e2, s, r1⟩ := lstOf_rep hr h e1
  subst e e2
  rw [repL_bls r1] at s
  exact ⟨a, ns, rfl, s, k _ L _ H q rfl hr .refl⟩
end
end D2

set_option Elab.async false
set_option linter.all false
set_option maxRecDepth 100000
set_option maxHeartbeats 1000000
namespace D2
open PySem PySem.Spec PyProof.Rows L2
/-! ### equality -/
def optAll {α β : Type} (f : α → Option β) : List α → Option (List β)
  | [] => some []
  | x :: xs => match f x with
    | none => none
    | some y => match optAll f xs with
      | none => none
      | some ys => some (y :: ys)
/-- the data that a value reads as -/
def pyL (L : DH) : Nat → D → Option PyData
  | _, .non => some .none
  | _, .bl b => some (.bool b)
  | _, .int i => some (.int i)
  | _, .str x => some (.str x)
  | 0, .tup _ => none
  | 0, .lro _ => none
  | 0, .ref _ => none
  | n + 1, .tup ds => (optAll (pyL L n) ds).map PyData.tuple
  | n + 1, .lro ds => (optAll (pyL L n) ds).map PyData.list
  | n + 1, .ref a => match L a with
    | some (.lst ds) => (optAll (pyL L n) ds).map PyData.list
    | none => none
section
variable {K : PySem.W.Frag} {H : Hp} {L : DH}
theorem optAll_cons {α β : Type} {f : α → Option β} {x : α} {xs : List α} {r : List β} (h : optAll f (x :: xs) = some r) : ∃ y ys, f x = some y ∧ optAll f xs = some ys ∧ r = y :: ys := by
  unfold optAll at h
  cases e : f x with
  | none => rw [e] at h; cases h
  | some y =>
    rw [e] at h
    cases e2 : optAll f xs with
    | none => rw [e2] at h; cases h
    | some ys => rw [e2] at h; cases h; exact ⟨y, ys, rfl, rfl, rfl⟩
theorem dpAll_of {n : Nat} (ih : ∀ (d : D) (v : V) (p : PyData), pyL L n d = some p → Rep K H d v → Dp K H v p ∧ p.canLay0 = true ∧ p.depth ≤ n + 1) :
    ∀ (ds : List D) (vs : List V) (ps : List PyData), optAll (pyL L n) ds = some ps → RepL K H ds vs → DpAll K H vs ps ∧ PyData.canLayAll0 ps = true ∧ PyData.depthAll ps ≤ n + 1
  | [], _, _, h, r => by
    cases h
    cases (show _ = [] from r)
    exact ⟨.nil, rfl, Nat.zero_le _⟩
  | d :: ds, _, _, h, ⟨v, vr, e, rv, rr⟩ => by
    obtain ⟨p, ps, h1, h2, e2⟩ := optAll_cons h
    subst e e2
    obtain ⟨a1, a2, a3⟩ := ih d v p h1 rv
    obtain ⟨b1, b2, b3⟩ := dpAll_of ih ds vr ps h2 rr
    refine ⟨.cons a1 b1, by unfold PyData.canLayAll0; rw [a2, b2]; rfl, ?_⟩
    unfold PyData.depthAll
    exact Nat.max_le.mpr ⟨a3, b3⟩
theorem dp_of (hr : HR K H L) : ∀ (n : Nat) (d : D) (v : V) (p : PyData), pyL L n d = some p → Rep K H d v → Dp K H v p ∧ p.canLay0 = true ∧ p.depth ≤ n + 1 := fun n => by
  induction n with
  | zero =>
    intro d v p h r
    cases d with
    | non => cases h; cases (show v = _ from r); exact ⟨.non, rfl, by decide⟩
    | bl b => cases h; cases (show v = _ from r); exact ⟨.bl b, rfl, by simp [PyData.depth]⟩
    | int b => cases h; cases (show v = _ from r); exact ⟨.int b, rfl, by simp [PyData.depth]⟩
    | str b => cases h; cases (show v = _ from r.1); exact ⟨.str b, r.2, by simp [PyData.depth]⟩
    | tup b => cases h
    | lro b => cases h
    | ref b => cases h
  | succ n ih =>
    intro d v p h r
    cases d with
    | non => cases h; cases (show v = _ from r); exact ⟨.non, rfl, by simp [PyData.depth]⟩
    | bl b => cases h; cases (show v = _ from r); exact ⟨.bl b, rfl, by simp [PyData.depth]⟩
    | int b => cases h; cases (show v = _ from r); exact ⟨.int b, rfl, by simp [PyData.depth]⟩
    | str b => cases h; cases (show v = _ from r.1); exact ⟨.str b, r.2, by simp [PyData.depth]⟩
    | tup ds =>
      obtain ⟨a, vs, e, s, rl⟩ := r
      have h : (optAll (pyL L n) ds).map PyData.tuple = some p := h
      obtain ⟨ps, h1, e1⟩ := Option.map_eq_some_iff.mp h
      obtain ⟨b1, b2, b3⟩ := dpAll_of ih ds vs ps h1 rl
      subst e e1
      exact ⟨.tup s b1, b2, by unfold PyData.depth; omega⟩
    | lro ds =>
      obtain ⟨a, vs, e, s, rl⟩ := r
      have h : (optAll (pyL L n) ds).map PyData.list = some p := h
      obtain ⟨ps, h1, e1⟩ := Option.map_eq_some_iff.mp h
      obtain ⟨b1, b2, b3⟩ := dpAll_of ih ds vs ps h1 rl
      subst e e1
      exact ⟨.lst s.sq b1, b2, by unfold PyData.depth; omega⟩
    | ref a =>
      cases (show v = _ from r)
      have h : (match L a with | some (.lst ds) => (optAll (pyL L n) ds).map PyData.list | none => none) = some p := h
      cases q : L a with
      | none => rw [q] at h; cases h
      | some o =>
        cases o with | lst ds =>
        rw [q] at h
        obtain ⟨vs, g1, rl⟩ := hr a _ q
        obtain ⟨ps, h1, e1⟩ := Option.map_eq_some_iff.mp h
        obtain ⟨b1, b2, b3⟩ := dpAll_of ih ds vs ps h1 rl
        subst e1
        exact ⟨.lst (SqL.of g1) b1, b2, by unfold PyData.depth; omega⟩
def eqD (L : DH) (x y : D) : Option Bool := match pyL L 60 x with
  | none => none
  | some p => match pyL L 60 y with
    | none => none
    | some q => some (PyData.eqv p q)
def dEq : RD2 := fun x y L Q => ∃ b, eqD L x y = some b ∧ Q (.bl b) L
def dNe : RD2 := fun x y L Q => ∃ b, eqD L x y = some b ∧ Q (.bl (!b)) L
theorem eqD_some {x y : D} {b : Bool} (h : eqD L x y = some b) : ∃ p q, pyL L 60 x = some p ∧ pyL L 60 y = some q ∧ b = PyData.eqv p q := by
  unfold eqD at h
  cases e : pyL L 60 x with
  | none => rw [e] at h; cases h
  | some p =>
    rw [e] at h
    cases e2 : pyL L 60 y with
    | none => rw [e2] at h; cases h
    | some q => rw [e2] at h; cases h; exact ⟨p, q, rfl, rfl, rfl⟩
theorem shaped_of {p : PyData} (h1 : p.canLay0 = true) (h2 : p.depth ≤ 61) : SeqAt.shaped p = true := by
  unfold SeqAt.shaped
  rw [h1, decide_eq_true (show p.depth ≤ 64 by omega)]
  rfl
theorem opd_eq : OpD K (rEqD K) dEq := fun H L d e x y Qd Q rx ry hr ⟨b, h, q⟩ k => by
  obtain ⟨p1, p2, h1, h2, e⟩ := eqD_some h
  obtain ⟨a1, a2, a3⟩ := dp_of hr 60 _ _ _ h1 rx
  obtain ⟨b1, b2, b3⟩ := dp_of hr 60 _ _ _ h2 ry
  subst e
  exact ⟨p1, p2, a1, b1, shaped_of a2 a3, shaped_of b2 b3, k _ L _ H q rfl hr .refl⟩
theorem opd_ne : OpD K (rNeD K) dNe := fun H L d e x y Qd Q rx ry hr ⟨b, h, q⟩ k => by
  obtain ⟨p1, p2, h1, h2, e⟩ := eqD_some h
  obtain ⟨a1, a2, a3⟩ := dp_of hr 60 _ _ _ h1 rx
  obtain ⟨b1, b2, b3⟩ := dp_of hr 60 _ _ _ h2 ry
  subst e
  exact ⟨p1, p2, a1, b1, shaped_of a2 a3, shaped_of b2 b3, k _ L _ H q rfl hr .refl⟩
end
/-! in -/
def rInP (K : PySem.W.Frag) (neg : Bool) : R2 := fun x y H Q => ∃ ds d, (Dp K H y (.list ds) ∨ Dp K H y (.tuple ds)) ∧ Dp K H x d ∧ PyData.canLayAll0 ds = true ∧ d.canLay0 = true ∧ d.depth ≤ 61 ∧
  Q (.bl (neg.xor (ds.any fun y => PyData.eqv y d))) H
theorem op_inP {X : Cx} (hu : X.A.units + 64 < cLine) : OpR X (compareOp .In) (rInP X.K false) := by
  intro pins s σ H x y v u Q I rx ry h
  obtain ⟨ds, d, hy, hx, c1, c2, dd, q⟩ := h
  have q : Q (.bl (ds.any fun y => PyData.eqv y d)) H := by simpa using q
  obtain ⟨as, r1⟩ := Dp.reads I d x v hx rx
  rcases hy with hy | hy
  · obtain ⟨bs, r2⟩ := Dp.reads I _ y u hy ry
    exact SeqAt.in_list_reads r2 r1 c1 c2 (by have := Nat.min_le_right (PyData.depthAll ds) d.depth; omega) ⟨.bl _, H, I, rfl, q⟩
  · obtain ⟨bs, r2⟩ := Dp.reads I _ y u hy ry
    exact SeqAt.in_tuple_reads r2 r1 c1 c2 (by have := Nat.min_le_right (PyData.depthAll ds) d.depth; omega) ⟨.bl _, H, I, rfl, q⟩
theorem op_ninP {X : Cx} (hu : X.A.units + 64 < cLine) : OpR X (compareOp .NotIn) (rInP X.K true) := by
  intro pins s σ H x y v u Q I rx ry h
  obtain ⟨ds, d, hy, hx, c1, c2, dd, q⟩ := h
  have q : Q (.bl (!(ds.any fun y => PyData.eqv y d))) H := by simpa using q
  obtain ⟨as, r1⟩ := Dp.reads I d x v hx rx
  rcases hy with hy | hy
  · obtain ⟨bs, r2⟩ := Dp.reads I _ y u hy ry
    exact SeqAt.notIn_list_reads r2 r1 c1 c2 (by have := Nat.min_le_right (PyData.depthAll ds) d.depth; omega) ⟨.bl _, H, I, rfl, q⟩
  · obtain ⟨bs, r2⟩ := Dp.reads I _ y u hy ry
    exact SeqAt.notIn_tuple_reads r2 r1 c1 c2 (by have := Nat.min_le_right (PyData.depthAll ds) d.depth; omega) ⟨.bl _, H, I, rfl, q⟩
def rInS (neg : Bool) : R2 := fun x y H Q => ∃ (c : Nat) (z : Str), x = .str ⟨#[c]⟩ ∧ y = .str z ∧ Q (.bl (neg.xor (decide (c ∈ z.cps.toList)))) H
theorem op_inS {X : Cx} : OpR X (compareOp .In) (rInS false) := fun pins s σ H x y v u Q I rx ry ⟨c, z, e1, e2, q⟩ => op_in_sign pins s σ H x y v u Q I rx ry ⟨c, z, e1, e2, by simpa using q⟩
theorem op_ninS {X : Cx} : OpR X (compareOp .NotIn) (rInS true) := fun pins s σ H x y v u Q I rx ry ⟨c, z, e1, e2, q⟩ => op_notIn_sign pins s σ H x y v u Q I rx ry ⟨c, z, e1, e2, by simpa using q⟩
/-- x in y: a sign in a text; an item of a list, a tuple -/
def inD (L : DH) (x y : D) : Option Bool := match y with
  | .str z => (match x with
    | .str s => (match s.cps.toList with
      | [c] => some (decide (c ∈ z.cps.toList))
      | _ => none)
    | _ => none)
  | y => match itemsOf L y with
    | none => none
    | some ys => match optAll (pyL L 59) ys with
      | none => none
      | some ps => match pyL L 60 x with
        | none => none
        | some p => some (ps.any fun q => PyData.eqv q p)
def dIn (neg : Bool) : RD2 := fun x y L Q => ∃ b, inD L x y = some b ∧ Q (.bl (neg.xor b)) L
theorem itemsOf_py {K : PySem.W.Frag} {H : Hp} {L : DH} (hr : HR K H L) {y : D} {ys : List D} {ps : List PyData} {v : V} (h : itemsOf L y = some ys) (h2 : optAll (pyL L 59) ys = some ps) (r : Rep K H y v) :
    (Dp K H v (.list ps) ∨ Dp K H v (.tuple ps)) ∧ PyData.canLayAll0 ps = true := by
  cases y with
  | tup xs =>
    cases h
    obtain ⟨a1, a2, a3⟩ := dp_of hr 60 (.tup ys) v (.tuple ps) (by show (optAll (pyL L 59) ys).map PyData.tuple = _; rw [h2]; rfl) r
    exact ⟨.inr a1, a2⟩
  | lro xs =>
    cases h
    obtain ⟨a1, a2, a3⟩ := dp_of hr 60 (.lro ys) v (.list ps) (by show (optAll (pyL L 59) ys).map PyData.list = _; rw [h2]; rfl) r
    exact ⟨.inl a1, a2⟩
  | ref a =>
    have h : (match L a with | some (.lst xs) => some xs | none => none) = some ys := h
    cases q : L a with
    | none => rw [q] at h; cases h
    | some o =>
      cases o with | lst xs =>
      rw [q] at h; cases h
      obtain ⟨a1, a2, a3⟩ := dp_of hr 60 (.ref a) v (.list ps) (by
        show (match L a with | some (.lst ds) => (optAll (pyL L 59) ds).map PyData.list | none => none) = _
        rw [q]; show (optAll (pyL L 59) ys).map PyData.list = _; rw [h2]; rfl) r
      exact ⟨.inl a1, a2⟩
  | _ => cases h
theorem opd_in {K : PySem.W.Frag} (neg : Bool) : OpD K (fun x y H Q => rInS neg x y H Q ∨ rInP K neg x y H Q) (dIn neg) := fun H L d e x y Qd Q rx ry hr ⟨b, h, q⟩ k => by
  have core : ∀ ys, itemsOf L e = some ys → (match optAll (pyL L 59) ys with
      | none => none
      | some ps => match pyL L 60 d with
        | none => none
        | some p => some (ps.any fun q => PyData.eqv q p)) = some b → rInP K neg x y H Q := by
    intro ys h1 h
    cases h2 : optAll (pyL L 59) ys with
    | none => rw [h2] at h; cases h
    | some ps =>
      rw [h2] at h
      cases h3 : pyL L 60 d with
      | none => rw [h3] at h; cases h
      | some p =>
        rw [h3] at h
        cases h
        obtain ⟨a1, a2⟩ := itemsOf_py hr h1 h2 ry
        obtain ⟨b1, b2, b3⟩ := dp_of hr 60 _ _ _ h3 rx
        exact ⟨ps, p, a1, b1, a2, b2, b3, k _ L _ H q rfl hr .refl⟩
  cases e with
  | str z =>
    cases d with
    | str s =>
      have h : (match s.cps.toList with | [c] => some (decide (c ∈ z.cps.toList)) | _ => none) = some b := h
      match hs : s.cps.toList with
      | [] => rw [hs] at h; cases h
      | c :: c2 :: r => rw [hs] at h; cases h
      | [c] =>
        rw [hs] at h
        cases h
        have es : s = ⟨#[c]⟩ := by
          have : s.cps = #[c] := by apply Array.toList_inj.mp; rw [hs]
          cases s; simp_all
        subst es
        exact .inl ⟨c, z, rx.1, ry.1, k _ L _ H q rfl hr .refl⟩
    | _ => cases h
  | tup ys => exact .inr (core ys rfl h)
  | lro ys => exact .inr (core ys rfl h)
  | ref a =>
    have h : (match itemsOf L (.ref a) with
      | none => none
      | some ys => match optAll (pyL L 59) ys with
        | none => none
        | some ps => match pyL L 60 d with
          | none => none
          | some p => some (ps.any fun q => PyData.eqv q p)) = some b := h
    cases h1 : itemsOf L (.ref a) with
    | none => rw [h1] at h; cases h
    | some ys => rw [h1] at h; exact .inr (core ys h1 h)
  | _ => cases h
/-! ### isinstance -/
inductive Ty where
  | int | bool | str | tup | lst
deriving DecidableEq
def Ty.nm : Ty → String
  | .int => "int" | .bool => "bool" | .str => "str" | .tup => "tuple" | .lst => "list"
def isA (L : DH) : D → Ty → Option Bool
  | .non, _ => some false
  | .bl _, t => some (decide (t = .int ∨ t = .bool))
  | .int _, t => some (decide (t = .int))
  | .str _, t => some (decide (t = .str))
  | .tup _, t => some (decide (t = .tup))
  | .lro _, t => some (decide (t = .lst))
  | .ref a, t => match L a with
    | some _ => some (decide (t = .lst))
    | none => none
section
variable {K : PySem.W.Frag} {H : Hp} {L : DH}
theorem kit_all (t : Ty) : kitB "NoneType" t.nm = some false ∧ kitB "bool" t.nm = some (decide (t = .int ∨ t = .bool)) ∧ kitB "int" t.nm = some (decide (t = .int)) ∧
    kitB "str" t.nm = some (decide (t = .str)) ∧ kitB "tuple" t.nm = some (decide (t = .tup)) ∧ kitB "list" t.nm = some (decide (t = .lst)) := by
  cases t <;> decide +kernel
theorem tyX_tup {a : Addr} {vs : List V} (s : SqT K H a vs) : TyX K H (.ref a) (.type "tuple") := by
  rcases s with (h | ⟨o, h⟩) | ⟨o, its, n, h, c, _⟩
  · exact .base (.tup h)
  · exact .fTuple h
  · exact .kTuple h c
theorem tyX_fz {a : Addr} {vs : List V} (s : FzL K H a vs) : TyX K H (.ref a) (.type "list") := by
  rcases s with ⟨o, h⟩ | ⟨o, its, n, h, c, _⟩
  · exact .base (.frz h)
  · exact .kList h c
theorem isA_ok (hr : HR K H L) {d : D} {v : V} {t : Ty} {b : Bool} (h : isA L d t = some b) (r : Rep K H d v) : ∃ u, TyX K H v u ∧ PySem.W.kitOne K u (.type t.nm) = some b := by
  obtain ⟨k1, k2, k3, k4, k5, k6⟩ := kit_all t
  cases d with
  | non => cases h; cases (show v = _ from r); exact ⟨_, .base .non, kit_ty k1⟩
  | bl x => cases h; cases (show v = _ from r); exact ⟨_, .base (.bl x), kit_ty k2⟩
  | int x => cases h; cases (show v = _ from r); exact ⟨_, .base (.int x), kit_ty k3⟩
  | str x => cases h; cases (show v = _ from r.1); exact ⟨_, .base (.str x), kit_ty k4⟩
  | tup ds => cases h; obtain ⟨a, vs, e, s, rl⟩ := r; subst e; exact ⟨_, tyX_tup s, kit_ty k5⟩
  | lro ds => cases h; obtain ⟨a, vs, e, s, rl⟩ := r; subst e; exact ⟨_, tyX_fz s, kit_ty k6⟩
  | ref a =>
    have h : (match L a with | some _ => some (decide (t = .lst)) | none => none) = some b := h
    cases q : L a with
    | none => rw [q] at h; cases h
    | some o =>
      rw [q] at h; cases h
      obtain ⟨vs, g⟩ := (hr a o q).lst_of
      cases (show v = _ from r)
      exact ⟨_, .base (.lst g), kit_ty k6⟩
end
def dIsi (t : Ty) (da : DE) : DE := fun s L Q E => da s L (fun d L1 => ∃ b, isA L1 d t = some b ∧ Q (.bl b) L1) E
def isAny (L : DH) (d : D) : List Ty → Option Bool
  | [] => some false
  | t :: ts => match isA L d t with
    | some true => some true
    | some false => isAny L d ts
    | none => none
def dIsiT (ts : List Ty) (da : DE) : DE := fun s L Q E => da s L (fun d L1 => ∃ b, isAny L1 d ts = some b ∧ Q (.bl b) L1) E
section
variable {X : Cx} {W : WX} {pos : Pos}
theorem q_isi {a : Expr} {da : DE} {p p2 : Pos} {tn : Str} (t : Ty) (hm : X.mg "isinstance" = none) (ht : X.mg tn = none) (hb : bootBuiltins tn = some (.type t.nm)) (ha : QE X W a da) (hg : Gl X "isinstance" := by rfl) (hg2 : Gl X tn := by rfl) (hn : tn ≠ "__name__" := by decide) (hd : (tn == ("__debug__" : Str)) = false := by decide)
    (he : starEach [a, .Name tn p2] X.env = (false, eval a X.env) :: starEach [.Name tn p2] X.env := by rfl) (he2 : starEach [.Name tn p2] X.env = (false, eval (.Name tn p2) X.env) :: starEach [] X.env := by rfl) (hpl : (backTo pos (starEach [.Name tn p2] X.env)).any (·.1) = false := by rfl) :
    QE X W (.Call (.Name "isinstance" p) [a, .Name tn p2] [] pos) (dIsi t da) := by
  have hv : bootBuiltins "isinstance" = some (.builtin "isinstance") := by decide +kernel
  refine ⟨PE_mono (pe_callB (call_isi) hg hm hv (pa_cons ha.pe (pa_cons (pe_bltn (v := .ty t.nm) hg2 ht hb rfl hn hd) pa_nil he2) he) (by decide) (by decide) he hpl) fun σ H Q ⟨s, L, Qd, Ed, hs, hr, q, hq, lp⟩ => ?_⟩
  refine liftE_bind hs hr lp q fun d L1 x H1 ⟨b, e, q1⟩ r1 hr1 k1 hs1 t1 lp1 => ?_
  obtain ⟨u, ty, kk⟩ := isA_ok hr1 e r1
  exact ⟨x, .ty t.nm, u, .type t.nm, b, rfl, .ty _, ty, kk, hq _ L1 _ H1 q1 rfl hr1 k1⟩
end
/-! ### methods -/
abbrev RDM := D → List D → DH → DK → Prop
def MtD (K : PySem.W.Frag) (r : V → List V → Hp → VK → Prop) (rD : RDM) : Prop := ∀ (H : Hp) (L : DH) (d : D) (ds : List D) (x : V) (xs : List V) (Qd : DK) (Q : VK), Rep K H d x → RepL K H ds xs → HR K H L → rD d ds L Qd →
  (∀ d' L' v H', Qd d' L' → Rep K H' d' v → HR K H' L' → Kp H L H' L' → Q v H') → r x xs H Q
/-- is it a list, a text -/
def chkOk (K : PySem.W.Frag) (T : String) (c : D → DH → Prop) : Prop := ∀ (H : Hp) (L : DH) (d : D) (v : V), HR K H L → c d L → Rep K H d v → tyV K T v H
def chkL : D → DH → Prop := fun d L => ∃ xs, lstOf L d = some xs
def chkS : D → DH → Prop := fun d _ => ∃ z, d = .str z
theorem chkL_ok {K : PySem.W.Frag} : chkOk K "list" chkL := fun H L d v hr ⟨xs, h⟩ r => by
  obtain ⟨a, vs, e, s, _⟩ := lstOf_rep hr h r
  subst e
  exact .inl ⟨rfl, vs, s⟩
theorem chkS_ok {K : PySem.W.Frag} : chkOk K "str" chkS := fun H L d v hr ⟨z, e⟩ r => by
  subst e
  cases (show v = _ from r.1)
  rfl
def dBM (c : D → DH → Prop) (rD : RDM) (do_ : DE) (t : DA) : DE := fun s L Q E => do_ s L (fun d L1 => c d L1 ∧ t s L1 (fun ds L2 => rD d ds L2 Q) E) E
def dBM0 (c : D → DH → Prop) (rD : RDM) (do_ : DE) : DE := fun s L Q E => do_ s L (fun d L1 => c d L1 ∧ rD d [] L1 Q) E
section
variable {X : Cx} {W : WX} {pos : Pos}
theorem q_bm {T : String} {name : Str} {id : String} {r : V → List V → Hp → VK → Prop} {rD : RDM} {c : D → DH → Prop} {o e : Expr} {es : List Expr} {do_ : DE} {t : DA} {apos cpos : Pos} (pa : PlainAttrs T) (slot : Slot T name id) (hty : typeOf (.builtin id) = pure (.type "method_descriptor")) (hm : MtR X id r)
    (hc : chkOk X.K T c) (h : MtD X.K r rD) (ho : QE X W o do_) (ha : QA X W (e :: es) t) (hbase : attributeBase o name X.env (eval o X.env) = eval o X.env := by rfl)
    (hfew : ((backTo cpos (starEach (e :: es) X.env)).all (fun x => !x.1) && (backToKw cpos (keywordEach [] X.env)).all (fun x => x.1.isSome)
      && decide ((e :: es).length + ([] : List Keyword).length + (if ([] : List Keyword).isEmpty then 0 else 1) < 30)) = true := by rfl)
    (hline : (apos.endLine == cpos.line) = true := by rfl) (hs : starEach (e :: es) X.env = (false, eval e X.env) :: starEach es X.env := by rfl) (hplain : (backTo cpos (starEach es X.env)).any (·.1) = false := by rfl) :
    QE X W (.Call (.Attribute o name apos) (e :: es) [] cpos) (dBM c rD do_ t) := by
  refine ⟨PE_mono (pe_bm pa slot hty hm ho.pe ha.pa hbase hfew hline hs hplain) fun σ H Q ⟨s, L, Qd, Ed, hs, hr, q, hq, lp⟩ => ?_⟩
  refine liftE_bind hs hr lp q fun d L1 x H1 ⟨hc1, q1⟩ r1 hr1 k1 hs1 t1 lp1 => ⟨hc H1 L1 d x hr1 hc1 r1, ?_⟩
  refine liftA_bind hs1 hr1 lp1 q1 fun ds L2 xs H2 q2 r2 hr2 k2 hs2 t2 lp2 => ?_
  exact h H2 L2 d ds x xs Qd Q (Rep.tk t2 _ _ r1) r2 hr2 q2 fun d' L' v H' a b c k => hq d' L' v H' a b c ((k1.trans k2).trans k)
theorem q_bm0 {T : String} {name : Str} {id : String} {r : V → List V → Hp → VK → Prop} {rD : RDM} {c : D → DH → Prop} {o : Expr} {do_ : DE} {apos cpos : Pos} (pa : PlainAttrs T) (slot : Slot T name id) (hty : typeOf (.builtin id) = pure (.type "method_descriptor")) (hm : MtR X id r)
    (hc : chkOk X.K T c) (h : MtD X.K r rD) (ho : QE X W o do_) (hbase : attributeBase o name X.env (eval o X.env) = eval o X.env := by rfl) (hline : (apos.endLine == cpos.line) = true := by rfl) :
    QE X W (.Call (.Attribute o name apos) [] [] cpos) (dBM0 c rD do_) := by
  refine ⟨PE_mono (pe_bm0 pa slot hty hm ho.pe hbase hline) fun σ H Q ⟨s, L, Qd, Ed, hs, hr, q, hq, lp⟩ => ?_⟩
  refine liftE_bind hs hr lp q fun d L1 x H1 ⟨hc1, q1⟩ r1 hr1 k1 hs1 t1 lp1 => ⟨hc H1 L1 d x hr1 hc1 r1, ?_⟩
  exact h H1 L1 d [] x [] Qd Q r1 rfl hr1 q1 fun d' L' v H' a b c k => hq d' L' v H' a b c (k1.trans k)
end
section
variable {K : PySem.W.Frag}
def marg (f : D → D → DH → DK → Prop) : RDM := fun d ds L Q => one (f d) ds L Q
theorem mt_arg {r : V → List V → Hp → VK → Prop} {f : D → D → DH → DK → Prop} (h : ∀ (H : Hp) (L : DH) (d e : D) (x y : V) (Qd : DK) (Q : VK), Rep K H d x → Rep K H e y → HR K H L → f d e L Qd →
    (∀ d' L' v H', Qd d' L' → Rep K H' d' v → HR K H' L' → Kp H L H' L' → Q v H') → r x [y] H Q) : MtD K r (marg f) := fun H L d ds x xs Qd Q rx rr hr q k => by
  cases ds with
  | nil => exact q.elim
  | cons e t =>
    cases t with
    | nil => obtain ⟨v, e, rv⟩ := rr.one_inv; subst e; exact h H L d _ x v Qd Q rx rv hr q k
    | cons _ _ => exact q.elim
def dAppend1 : D → D → DH → DK → Prop := fun d e L Q => match d with
  | .ref a => ∃ xs, L a = some (.lst xs) ∧ xs.length < 16777216 ∧ Q .non (upd L a (.lst (xs ++ [e])))
  | _ => False
theorem md_append : MtD K rAppend (marg dAppend1) := mt_arg fun H L d e x y Qd Q rx ry hr q k => by
  cases d with
  | ref a =>
    obtain ⟨xs, h1, hl, q⟩ := q
    obtain ⟨vs, g1, r1⟩ := hr a _ h1
    have z := hr.set h1 (r1.append (.one ry))
    exact ⟨a, vs, y, rx, rfl, g1, by rw [← r1.length]; exact line_lt hl, k _ _ _ _ q rfl z.1 z.2⟩
  | _ => exact False.elim q
def dExtend1 : D → D → DH → DK → Prop := fun d e L Q => match d, e with
  | .ref a, .ref b => ∃ xs ys, L a = some (.lst xs) ∧ L b = some (.lst ys) ∧ xs.length + ys.length ≤ 16777216 ∧ Q .non (upd L a (.lst (xs ++ ys)))
  | _, _ => False
theorem md_extend : MtD K rExtend (marg dExtend1) := mt_arg fun H L d e x y Qd Q rx ry hr q k => by
  cases d with
  | ref a =>
    cases e with
    | ref b =>
      obtain ⟨xs, ys, h1, h2, hl, q⟩ := q
      obtain ⟨vs, g1, r1⟩ := hr a _ h1
      obtain ⟨us, g2, r2⟩ := hr b _ h2
      cases (show y = _ from ry)
      have z := hr.set h1 (r1.append r2)
      exact ⟨a, b, vs, us, rx, rfl, g1, g2, by rw [← r1.length, ← r2.length]; exact line_of hl, k _ _ _ _ q rfl z.1 z.2⟩
    | _ => exact False.elim q
  | _ => exact False.elim q
def dPop0 : RDM := fun d ds L Q => match ds with
  | [] => (match d with
    | .ref a => ∃ xs y, L a = some (.lst xs) ∧ xs[xs.length - 1]? = some y ∧ Q y (upd L a (.lst xs.dropLast))
    | _ => False)
  | _ => False
theorem md_pop0 : MtD K rPop dPop0 := fun H L d ds x xs Qd Q rx rr hr q k => by
  cases ds with
  | nil =>
    cases d with
    | ref a =>
      obtain ⟨xs, y, h1, h2, q⟩ := q
      obtain ⟨vs, g1, r1⟩ := hr a _ h1
      obtain ⟨v, e, rv⟩ := r1.get h2
      have z := hr.set h1 r1.dropLast
      have hl := r1.length
      exact ⟨a, vs, v, rx, rr, g1, by rw [← hl]; exact e, k _ _ _ _ q (Rep.tk (z.2.tk hr) _ _ rv) z.1 z.2⟩
    | _ => exact False.elim q
  | cons _ _ => exact False.elim q
def dPopAt1 : D → D → DH → DK → Prop := fun d e L Q => match d, e with
  | .ref a, .int i => ∃ xs k y, L a = some (.lst xs) ∧ -(2 ^ 63) ≤ i ∧ i < 2 ^ 63 ∧ seqIndex? i xs.length = some k ∧ xs[k]? = some y ∧ Q y (upd L a (.lst (xs.eraseIdx k)))
  | _, _ => False
theorem md_popAt : MtD K rPopAt (marg dPopAt1) := mt_arg fun H L d e x y Qd Q rx ry hr q k => by
  cases d with
  | ref a =>
    cases e with
    | int i =>
      obtain ⟨xs, j, y', h1, b1, b2, h2, h3, q⟩ := q
      obtain ⟨vs, g1, r1⟩ := hr a _ h1
      obtain ⟨v, e, rv⟩ := r1.get h3
      have z := hr.set h1 (r1.eraseIdx j)
      cases (show y = _ from ry)
      exact ⟨a, vs, i, j, v, rx, rfl, g1, b1, b2, by rw [← r1.length]; exact h2, e, k _ _ _ _ q (Rep.tk (z.2.tk hr) _ _ rv) z.1 z.2⟩
    | _ => exact False.elim q
  | _ => exact False.elim q
/-- xs.index(y), flat things -/
def flatD : D → Bool
  | .non => true | .bl _ => true | .int _ => true | .str _ => true | _ => false
def eqF : D → D → Bool
  | .non, .non => true
  | .bl a, .bl b => a == b
  | .bl a, .int b => (if a then 1 else 0) == b
  | .int a, .bl b => a == (if b then 1 else 0)
  | .int a, .int b => a == b
  | .str a, .str b => a == b
  | _, _ => false
theorem flat_rep {H : Hp} {d : D} {v : V} (f : flatD d = true) (r : Rep K H d v) : flatV v = true := by
  cases d with
  | non => cases (show v = _ from r); rfl
  | bl _ => cases (show v = _ from r); rfl
  | int _ => cases (show v = _ from r); rfl
  | str _ => cases (show v = _ from r.1); rfl
  | _ => cases f
theorem eqF_rep {H : Hp} {d e : D} {v u : V} (f : flatD d = true) (g : flatD e = true) (r : Rep K H d v) (r2 : Rep K H e u) : eqV v u = eqF d e := by
  cases d with
  | non => cases (show v = _ from r); cases e with
    | str _ => cases (show u = _ from r2.1); rfl
    | non => cases (show u = _ from r2); rfl
    | bl _ => cases (show u = _ from r2); rfl
    | int _ => cases (show u = _ from r2); rfl
    | _ => cases g
  | bl _ => cases (show v = _ from r); cases e with
    | str _ => cases (show u = _ from r2.1); rfl
    | non => cases (show u = _ from r2); rfl
    | bl _ => cases (show u = _ from r2); rfl
    | int _ => cases (show u = _ from r2); rfl
    | _ => cases g
  | int _ => cases (show v = _ from r); cases e with
    | str _ => cases (show u = _ from r2.1); rfl
    | non => cases (show u = _ from r2); rfl
    | bl _ => cases (show u = _ from r2); rfl
    | int _ => cases (show u = _ from r2); rfl
    | _ => cases g
  | str _ => cases (show v = _ from r.1); cases e with
    | str _ => cases (show u = _ from r2.1); rfl
    | non => cases (show u = _ from r2); rfl
    | bl _ => cases (show u = _ from r2); rfl
    | int _ => cases (show u = _ from r2); rfl
    | _ => cases g
  | _ => cases f
theorem RepL.get' {H : Hp} {ds : List D} {vs : List V} {i : Nat} {v : V} (h : RepL K H ds vs) (e : vs[i]? = some v) : ∃ d, ds[i]? = some d ∧ Rep K H d v := by
  have hl := h.length
  have hi : i < ds.length := by rw [hl]; exact (List.getElem?_eq_some_iff.mp e).1
  obtain ⟨u, e2, r⟩ := h.get (List.getElem?_eq_getElem hi)
  rw [e] at e2; cases e2
  exact ⟨_, List.getElem?_eq_getElem hi, r⟩
theorem flat_all {H : Hp} : ∀ {ds : List D} {vs : List V}, RepL K H ds vs → ds.all flatD = true → vs.all flatV = true
  | [], _, h, _ => by cases (show _ = [] from h); rfl
  | d :: ds, _, ⟨v, r, e, rv, rr⟩, f => by
    subst e
    rw [List.all_cons, Bool.and_eq_true] at f
    rw [List.all_cons, flat_rep f.1 rv, flat_all rr f.2]; rfl
def dIndex1 : D → D → DH → DK → Prop := fun d e L Q => ∃ xs j z, lstOf L d = some xs ∧ flatD e = true ∧ xs.all flatD = true ∧ xs[j]? = some z ∧ eqF z e = true ∧ (∀ (m : Nat) z', m < j → xs[m]? = some z' → eqF z' e = false) ∧ Q (.int (j : Nat)) L
theorem md_index : MtD K (rIndex K) (marg dIndex1) := mt_arg fun H L d e x y Qd Q rx ry hr ⟨xs, j, z, h, fe, fx, hz, he, hno, q⟩ k => by
  obtain ⟨a, vs, e1, s, rl⟩ := lstOf_rep hr h rx
  obtain ⟨v, e2, rv⟩ := rl.get hz
  have fz : flatD z = true := List.all_eq_true.mp fx z (List.mem_of_getElem? hz)
  refine ⟨a, vs, y, j, v, e1, rfl, s, flat_rep fe ry, flat_all rl fx, e2, by rw [eqF_rep fz fe rv ry]; exact he, fun m z' hm hz' => ?_, k _ L _ H q rfl hr .refl⟩
  obtain ⟨d', e3, rd⟩ := rl.get' hz'
  rw [eqF_rep (List.all_eq_true.mp fx d' (List.mem_of_getElem? e3)) fe rd ry]
  exact hno m d' hm e3
end
end D2

set_option Elab.async false
set_option linter.all false
set_option maxRecDepth 100000
set_option maxHeartbeats 1000000
namespace D2
open PySem PySem.Spec PyProof.Rows L2
/-! ### slices -/
abbrev DO_ := DSt → DH → (Option Int → DH → Prop) → XD → Prop
def liftO (M : KM) (W : WX) (t : DO_) : TO := fun σ H Q => ∃ s L Qd Ed, SR M.K H s σ ∧ HR M.K H L ∧ t s L Qd Ed ∧ (∀ o L' H', Qd o L' → HR M.K H' L' → Kp H L H' L' → Q o H') ∧ LP M W σ H L Ed
structure QO (X : Cx) (W : WX) (e : Option Expr) (t : DO_) : Prop where
  po : PO X e (liftO X.km W t)
def dNoPart : DO_ := fun _ L Q _ => Q none L
def dPart (de : DE) : DO_ := fun s L Q E => de s L (fun d L1 => match d with | .int i => Q (some i) L1 | _ => False) E
abbrev SlD := D → Option Int → Option Int → DH → DK → Prop
def SlOk (K : PySem.W.Frag) (r : V → Option Int → Option Int → Hp → VK → Prop) (rD : SlD) : Prop := ∀ (H : Hp) (L : DH) (d : D) (x : V) (lo hi : Option Int) (Qd : DK) (Q : VK), Rep K H d x → HR K H L → rD d lo hi L Qd →
  (∀ d' L' v H', Qd d' L' → Rep K H' d' v → HR K H' L' → Kp H L H' L' → Q v H') → r x lo hi H Q
def dSl (rD : SlD) (de : DE) (l h : DO_) : DE := fun s L Q E => de s L (fun d L1 => l s L1 (fun lo L2 => h s L2 (fun hi L3 => rD d lo hi L3 Q) E) E) E
section
variable {X : Cx} {W : WX} {pos p2 : Pos} {e : Expr} {de : DE}
theorem qo_none : QO X W none dNoPart := ⟨⟨fun pins s σ H Q I ⟨s', L, Qd, Ed, hs, hr, q, hq, lp⟩ => po_none.run pins s σ H Q I (hq none L H q hr .refl)⟩⟩
theorem qo_some (h : QE X W e de) : QO X W (some e) (dPart de) := ⟨⟨fun pins s σ H Q I ⟨s', L, Qd, Ed, hs, hr, q, hq, lp⟩ => (po_some h.pe).run pins s σ H Q I (liftE_bind hs hr lp q fun d L1 x H1 q1 r1 hr1 k1 hs1 t1 lp1 => by
    cases d with
    | int i => exact ⟨i, r1, hq _ L1 H1 q1 hr1 k1⟩
    | _ => exact False.elim q1)⟩⟩
theorem liftO_bind {M : KM} {σ : L2.St} {H : Hp} {da : DO_} {s : DSt} {L : DH} {Qd : Option Int → DH → Prop} {Ed : XD} {R : Option Int → Hp → Prop} (hs : SR M.K H s σ) (hr : HR M.K H L) (lp : LP M W σ H L Ed) (h : da s L Qd Ed)
    (hk : ∀ d L1 H1, Qd d L1 → HR M.K H1 L1 → Kp H L H1 L1 → SR M.K H1 s σ → TK H H1 → LP M W σ H1 L1 Ed → R d H1) : liftO M W da σ H R :=
  ⟨s, L, Qd, Ed, hs, hr, h, fun d L1 H1 q r1 k => hk d L1 H1 q r1 k (hs.tk (k.tk hr)) (k.tk hr) (lp.after k), lp⟩
theorem q_slice {r : V → Option Int → Option Int → Hp → VK → Prop} {rD : SlD} {lo hi : Option Expr} {l h : DO_} (hr : SlR X r) (hd : SlOk X.K r rD) (he : QE X W e de) (hl : QO X W lo l) (hh : QO X W hi h) : QE X W (.Subscript e (.Slice lo hi none p2) pos) (dSl rD de l h) :=
  ⟨PE_mono (pe_slice hr he.pe hl.po hh.po) fun σ H Q ⟨s, L, Qd, Ed, hs, hr, q, hq, lp⟩ => liftE_bind hs hr lp q fun d L1 x H1 q1 r1 hr1 k1 hs1 t1 lp1 =>
    liftO_bind hs1 hr1 lp1 q1 fun lo L2 H2 q2 hr2 k2 hs2 t2 lp2 => liftO_bind hs2 hr2 lp2 q2 fun hi L3 H3 q3 hr3 k3 hs3 t3 lp3 =>
      hd H3 L3 d x lo hi Qd Q (Rep.tk t3 _ _ (Rep.tk t2 _ _ r1)) hr3 q3 fun d' L' v H' a b c k => hq d' L' v H' a b c (((k1.trans k2).trans k3).trans k)⟩
end
def cut {α : Type} (xs : List α) (lo hi : Option Int) : List α := (xs.drop (HT.sIx xs.length 0 lo)).take (HT.sIx xs.length xs.length hi - HT.sIx xs.length 0 lo)
theorem cut_whole {α : Type} {xs : List α} {lo hi : Option Int} (h1 : HT.sIx xs.length 0 lo = 0) (h2 : HT.sIx xs.length xs.length hi = xs.length) : cut xs lo hi = xs := by
  unfold cut
  rw [h1, h2]
  simp
theorem getItem_tuple_whole {prog : Program} {w : World} {A : Around} {E : Value → Shared → Prop} {s : Shared} {t sl : Addr} {items : Array Value} {vl vu : Value} {lo hi : Option Int} {Q : Value → Shared → Prop} (ht : IsTup s.heap t items) (hs : s.heap.IsSliceOf sl vl vu .none) (pl : IsPart vl lo) (pu : IsPart vu hi)
    (h1 : HT.sIx items.size 0 lo = 0) (h2 : HT.sIx items.size items.size hi = items.size) (h : Q (.ref t) s) : wpAny (model prog w) A (getItem (.ref t) (.ref sl)) Q E s := by
  obtain ⟨os, hos, hcs, hds⟩ := id hs
  have hTs : s.TypeIs (.ref sl) "slice" := ⟨os, hos, hcs⟩
  unfold getItem
  try with_reducible refine wpAny_holding ?_
  first | refine wpAny_bind (wpAny_pure ?_) | skip
  refine wpAny_bind (wpAny_sequenceKey ht.typeIs (by decide) ?_)
  refine wpAny_bind (wpAny_callSpecial?_slot (name := Str.ofString "__getitem__") ht.typeIs PyProof.Rows.slot_tuple_getitem
    (wpAny_call_entry PyProof.Rows.slot_tuple_getitem ht.typeIs PyProof.Rows.entry_tuple_getitem ?_ (PyProof.Rows.args_tuple_getitem _ _)))
  show wpAny _ _ (Builtin.Tuple.tupleItemsOf (.ref t) >>= _) _ _ s
  refine wpAny_bind (tupleItemsOf_ ht ?_)
  refine wpAny_bind (wpAny_typeOf hTs ?_)
  rw [if_pos (by decide)]
  refine wpAny_bind (HT.sliceApplied_gen hs pl pu ?_)
  have hno : ((((HT.sIx items.size 0 lo : Nat) : Int) == 0 && (1 : Int) == 1 && (HT.sIx items.size items.size hi - HT.sIx items.size 0 lo) == items.size) = true) := by
    rw [h1, h2]; simp
  show wpAny _ _ (if (((HT.sIx items.size 0 lo : Nat) : Int) == 0 && (1 : Int) == 1 && (HT.sIx items.size items.size hi - HT.sIx items.size 0 lo) == items.size) = true then _ else _) _ _ s
  rw [if_pos hno]
  refine wpAny_bind (wpAny_bind (wpAny_typeOf ht.typeIs (wpAny_pure ?_)))
  rw [if_pos (by decide)]
  refine wpAny_bind (wpAny_rule ?_)
  first
    | exact wpAny_pure ⟨_, rfl, wpAny_pure h⟩
    | exact wpAny_bind (wpAny_pure ⟨_, rfl, wpAny_pure h⟩)
def rSlT0 (K : PySem.W.Frag) : V → Option Int → Option Int → Hp → VK → Prop := fun x lo hi H Q => ∃ a xs, x = .ref a ∧ SqT K H a xs ∧ HT.sIx xs.length 0 lo = 0 ∧ HT.sIx xs.length xs.length hi = xs.length ∧ Q (.ref a) H
theorem sl_tup0 {X : Cx} : SlR X (rSlT0 X.K) := by
  intro pins s σ H x v vl vu lo hi sl Q I rx hs pl pu h
  obtain ⟨a, xs, rfl, hx, h1, h2, q⟩ := h
  cases rx
  obtain ⟨its, r, ht, hz⟩ := I.tuple hx
  have hlen : its.toArray.size = xs.length := by rw [List.size_toArray]; exact r.length.symm
  refine ⟨"tuple", _, PyProof.Rows.slot_tuple_getitem.lookup, ht.typeIs, ?_⟩
  exact getItem_tuple_whole ht hs pl pu (by rw [hlen]; exact h1) (by rw [hlen]; exact h2) ⟨.ref a, H, I, rfl, q⟩
def dCut : SlD := fun d lo hi L Q => match d with
  | .tup xs => Q (.tup (cut xs lo hi)) L
  | .str z => z.length ≤ 16777216 ∧ Q (.str (cutS z lo hi)) L
  | .lro xs => ∀ p, L p = none → Q (.ref p) (upd L p (.lst (cut xs lo hi)))
  | .ref a => ∃ xs, L a = some (.lst xs) ∧ ∀ p, L p = none → Q (.ref p) (upd L p (.lst (cut xs lo hi)))
  | _ => False
abbrev rSlAll (K : PySem.W.Frag) : V → Option Int → Option Int → Hp → VK → Prop := fun x lo hi H Q => (rSlL K x lo hi H Q ∨ rSlS x lo hi H Q) ∨ rSlT0 K x lo hi H Q ∨ rSlT K x lo hi H Q
theorem sl_all {X : Cx} : SlR X (rSlAll X.K) := (sl_list.or sl_str).or (sl_tup0.or sl_tup)
section
variable {K : PySem.W.Frag} {H : Hp}
theorem RepL.cut {ds : List D} {vs : List V} (h : RepL K H ds vs) (lo hi : Option Int) : RepL K H (D2.cut ds lo hi) (cutV vs lo hi) := by
  unfold D2.cut cutV
  rw [h.length]
  exact RepL.take _ (RepL.drop _ h)
theorem strOk_cut {z : Str} (h : PyData.strOk z = true) (lo hi : Option Int) : PyData.strOk (cutS z lo hi) = true := by
  unfold PyData.strOk at *
  rw [Array.all_eq_true'] at *
  intro x hx
  refine h x ?_
  unfold cutS at hx
  have hx : x ∈ ((z.cps.toList.drop (HT.sIx z.length 0 lo)).take (HT.sIx z.length z.length hi - HT.sIx z.length 0 lo)) := by simpa using hx
  have := List.mem_of_mem_drop (List.mem_of_mem_take hx)
  simpa using this
theorem slok_all : SlOk K (rSlAll K) dCut := fun H L d x lo hi Qd Q rx hr q k => by
  cases d with
  | tup xs =>
    obtain ⟨a, vs, e, s, rl⟩ := rx
    rcases Classical.em (HT.sIx vs.length 0 lo = 0 ∧ HT.sIx vs.length vs.length hi = vs.length) with hw | hw
    · refine .inr (.inl ⟨a, vs, e, s, hw.1, hw.2, k _ L _ H q ⟨a, vs, rfl, s, ?_⟩ hr .refl⟩)
      rw [← rl.length] at hw
      rw [cut_whole hw.1 hw.2]
      exact rl
    · exact .inr (.inr ⟨a, vs, e, s, hw, fun p hp => k _ L _ _ q ⟨p, _, rfl, .inl (.inl upd_same), RepL.tk (HR.tk_new hp) _ _ (rl.cut lo hi)⟩ (hr.laid hp).1 (hr.laid hp).2⟩)
  | str z => exact .inl (.inr ⟨z, rx.1, line_of q.1, k _ L _ H q.2 ⟨rfl, strOk_cut rx.2 lo hi⟩ hr .refl⟩)
  | lro xs =>
    obtain ⟨a, vs, e, s, rl⟩ := rx
    exact .inl (.inl ⟨a, vs, e, s.sq, fun p hp => k _ _ _ _ (q p (hr.free hp)) rfl (hr.new hp (rl.cut lo hi)).1 (hr.new hp (rl.cut lo hi)).2⟩)
  | ref a =>
    obtain ⟨xs, h1, q⟩ := q
    obtain ⟨vs, g1, rl⟩ := hr a _ h1
    exact .inl (.inl ⟨a, vs, rx, SqL.of g1, fun p hp => k _ _ _ _ (q p (hr.free hp)) rfl (hr.new hp (rl.cut lo hi)).1 (hr.new hp (rl.cut lo hi)).2⟩)
  | _ => exact False.elim q
end
/-! ### comprehensions -/
def dwipe (s : DSt) : List Nat → DSt
  | [] => s
  | v :: vs => (dwipe s vs).set v none
theorem SR.wipe {K : PySem.W.Frag} {H : Hp} {s : DSt} {σ : L2.St} (h : SR K H s σ) : ∀ vs : List Nat, SR K H (dwipe s vs) (L2.wipe σ vs)
  | [] => h
  | v :: vs => SR.none (SR.wipe h vs) v _
/-- a target that writes the block's own names alone -/
def PostW (K : PySem.W.Frag) (vs : List Nat) (σ : L2.St) (H : Hp) (L : DH) (P : DSt → DH → Prop) (Q : L2.St → Hp → Prop) : Prop := ∀ s' L' σ' H', P s' L' → SR K H' s' σ' → HR K H' L' → Kp H L H' L' → L2.wipe σ' vs = L2.wipe σ vs → Q σ' H'
def liftGo (K : PySem.W.Frag) (vs : List Nat) (g : DG) (G : TG) : Prop := ∀ (d : D) (v : V) (s : DSt) (σ : L2.St) (H : Hp) (L : DH) (P : DSt → DH → Prop) (Q : L2.St → Hp → Prop), Rep K H d v → SR K H s σ → HR K H L → g d s L P (fun _ _ _ => False) →
  PostW K vs σ H L P Q → G v σ H Q
theorem wget_in {σ : L2.St} {i : Nat} : ∀ {vs : List Nat}, i ∈ vs → (L2.wipe σ vs)[i]? = if i < σ.length then some none else none
  | [], h => by cases h
  | j :: vs, h => by
    show ((L2.wipe σ vs).set j none)[i]? = _
    rw [List.getElem?_set]
    by_cases e : j = i
    · subst e
      rw [if_pos rfl, L2.wipe_length]
    · rw [if_neg e]
      rcases List.mem_cons.mp h with z | z
      · exact absurd z.symm e
      · exact wget_in z
theorem ww (σ : L2.St) (vs : List Nat) : L2.wipe (L2.wipe σ vs) vs = L2.wipe σ vs := by
  apply List.ext_getElem?
  intro i
  by_cases h : i ∈ vs
  · rw [wget_in h, wget_in h, L2.wipe_length]
  · rw [L2.wipe_out h, L2.wipe_out h]
theorem set_none_set {σ : L2.St} {i j : Nat} {v : Option V} (h : i = j) : (σ.set i v).set j none = σ.set j none := by subst h; simp
theorem wipe_set {σ : L2.St} {i : Nat} {v : Option V} : ∀ {vs : List Nat}, i ∈ vs → L2.wipe (σ.set i v) vs = L2.wipe σ vs
  | [], h => by cases h
  | j :: vs, h => by
    unfold L2.wipe
    by_cases hm : i ∈ vs
    · rw [wipe_set hm]
    · have e : i = j := by
        rcases List.mem_cons.mp h with h | h
        · exact h
        · exact absurd h hm
      subst e
      have : L2.wipe (σ.set i v) vs = (L2.wipe σ vs).set i v := by
        clear h
        induction vs with
        | nil => rfl
        | cons k vs ih =>
          have hk : i ≠ k := fun e => hm (by rw [e]; exact List.mem_cons_self)
          unfold L2.wipe
          rw [ih (fun z => hm (List.mem_cons_of_mem _ z)), List.set_comm _ _ hk]
      rw [this]
      simp
structure QGo (X : Cx) (t : Expr) (vs : List Nat) (g : DG) (G : TG) : Prop where
  pg : PG X t G
  lf : liftGo X.K vs g G
def liftGos (K : PySem.W.Frag) (vs : List Nat) (g : List D → DSt → DH → (DSt → DH → Prop) → Prop) (G : TGs) : Prop := ∀ (ds : List D) (us : List V) (s : DSt) (σ : L2.St) (H : Hp) (L : DH) (P : DSt → DH → Prop) (Q : L2.St → Hp → Prop), RepL K H ds us → SR K H s σ → HR K H L → g ds s L P →
  PostW K vs σ H L P Q → G us σ H Q
theorem lgo_name {K : PySem.W.Frag} {vs : List Nat} (i : Nat) (h : i ∈ vs := by decide) : liftGo K vs (gdName i) (gName i) := fun d v s σ H L P Q r hs hr q p => p _ L _ H q (hs.set r i) hr .refl (wipe_set h)
theorem lgo_nil {K : PySem.W.Frag} {vs : List Nat} : liftGos K vs gdNil gNil := fun ds us s σ H L P Q r hs hr q p => by
  obtain ⟨rfl, q⟩ := q
  exact ⟨r, p s L σ H q hs hr .refl rfl⟩
theorem lgo_cons {K : PySem.W.Frag} {vs : List Nat} {g : DG} {G : TG} {r : List D → DSt → DH → (DSt → DH → Prop) → Prop} {R : TGs} (h1 : liftGo K vs g G) (h2 : liftGos K vs r R) : liftGos K vs (gdCons g r) (gCons G R) := fun ds us s σ H L P Q r hs hr h p => by
  cases ds with
  | nil => exact h.elim
  | cons d ds =>
    obtain ⟨v, vr, e, rv, rr⟩ := r
    refine ⟨v, vr, e, h1 d v s σ H L _ _ rv hs hr h fun s1 L1 σ1 H1 q hs1 hr1 k1 w1 => ?_⟩
    exact h2 ds vr s1 σ1 H1 L1 P Q (RepL.tk (k1.tk hr) _ _ rr) hs1 hr1 q fun s2 L2 σ2 H2 a b c d w2 => p s2 L2 σ2 H2 a b c (k1.trans d) (w2.trans w1)
theorem lgo_tup {K : PySem.W.Frag} {vs : List Nat} {n : Nat} {r : List D → DSt → DH → (DSt → DH → Prop) → Prop} {R : TGs} (h2 : liftGos K vs r R) : liftGo K vs (gdTup n r) (gTup K n R) := fun d v s σ H L P Q r hs hr h p => by
  cases d with
  | tup ds =>
    obtain ⟨a, us, e, sq, rl⟩ := r
    exact ⟨a, us, e, sq, by rw [← rl.length]; exact h.1, h2 ds us s σ H L P Q rl hs hr h.2 p⟩
  | _ => exact h.elim
/-! the comprehension itself -/
def lcD (g : DG) (t : DT) (e : DE) (ok : DH → Prop) (s : DSt) (Q : List D → DH → Prop) : List D → List D → DH → Prop
  | [], acc, L => ok L ∧ Q acc L
  | d :: ds, acc, L => ok L ∧ g d s L (fun s1 L1 => t s1 L1 (fun b L2 => if b = true then e s1 L2 (fun y L3 => acc.length < 16777216 ∧ lcD g t e ok s Q ds (acc ++ [y]) L3) (fun _ _ _ => False) else lcD g t e ok s Q ds acc L2) (fun _ _ _ => False)) (fun _ _ _ => False)
def dLc (di : DI) (g : DG) (t : DT) (e : DE) (vs : List Nat) : DE := fun s L Q E => di s L (fun ds ok L1 => lcD g t e ok (dwipe s vs) (fun acc L2 => ∀ p, L2 p = none → Q (.ref p) (upd L2 p (.lst acc))) ds [] L1) E
abbrev W0 : WX := fun _ _ _ _ => False
theorem lp0 {M : KM} {σ : L2.St} {H : Hp} {L : DH} : LP M W0 σ H L (fun _ _ _ => False) := ⟨fun _ _ _ _ _ _ h => h.elim⟩
theorem lift_lc {M : KM} {W : WX} {di : DI} {g : DG} {G : TG} {t : DT} {e : DE} {vs : List Nat} (lG : liftGo M.K vs g G) {σ : L2.St} {H : Hp} {Q : VK} (q : liftE M W (dLc di g t e vs) σ H Q) :
    tLc (liftI M W di) G (liftT M W0 t) (liftE M W0 e) vs σ H Q := by
  obtain ⟨s, L, Qd, Ed, hs, hr, q, hq, lp⟩ := q
  refine ⟨s, L, _, Ed, hs, hr, q, fun ds ok L1 H1 J q hr1 k1 ito D hD => ?_, lp⟩
  have hLD : L1 D = none := hr1.free hD
  have tkD : TK H1 (L2.upd H1 D (.lst [])) := HR.tk_new hD
  have hs1 : SR M.K H1 s σ := hs.tk (k1.tk hr)
  have hrD : HR M.K (L2.upd H1 D (.lst [])) L1 := (hr1.laid hD).1
  refine ⟨fun i m H' => ∃ acc vacc L', i ≤ ds.length ∧ m = ds.length - i ∧ HR M.K H' L' ∧ TK H1 H' ∧ Kp H L H' L' ∧ L' D = none ∧ H' D = some (.lst vacc) ∧ RepL M.K H' acc vacc ∧
    lcD g t e ok (dwipe s vs) (fun acc L2 => ∀ p, L2 p = none → Qd (.ref p) (upd L2 p (.lst acc))) (ds.drop i) acc L', ⟨_, [], [], L1, Nat.zero_le _, rfl, hrD, tkD, k1.trans (hr1.laid hD).2, hLD, upd_same, rfl, q⟩, ?_⟩
  rintro i m H' ⟨acc, vacc, L', hi, rfl, hr', tk', k', hL', hH', ra, q'⟩
  by_cases hlt : i < ds.length
  · have ed : ds.drop i = ds[i] :: ds.drop (i + 1) := List.drop_eq_getElem_cons hlt
    rw [ed] at q'
    obtain ⟨hok, q'⟩ := q'
    obtain ⟨go, yl⟩ := (ito i H' L' tk' hr' hok).2 ds[i] (List.getElem?_eq_getElem hlt)
    refine .inr ⟨go, fun H2 => ∃ acc vacc L2, HR M.K H2 L2 ∧ TK H1 H2 ∧ Kp H L H2 L2 ∧ L2 D = none ∧ H2 D = some (.lst vacc) ∧ RepL M.K H2 acc vacc ∧
      lcD g t e ok (dwipe s vs) (fun acc L2 => ∀ p, L2 p = none → Qd (.ref p) (upd L2 p (.lst acc))) (ds.drop (i + 1)) acc L2, fun H2 ⟨a, b, c, q⟩ => ⟨ds.length - (i + 1), by omega, a, b, c, hlt, rfl, q⟩, fun x H'' y => ?_⟩
    obtain ⟨ry, hry, ky, ty⟩ := yl x H'' y
    have ssw : SR M.K H'' (dwipe s vs) (L2.wipe σ vs) := (hs1.tk (tk'.trans ty)).wipe vs
    refine lG ds[i] x (dwipe s vs) (L2.wipe σ vs) H'' L' _ _ ry ssw hry q' fun s2 LB σ2 H2 q2 hs2 hr2 k2 w2 => ⟨by rw [w2]; exact ww σ vs, ?_⟩
    refine liftT_bind hs2 hr2 lp0 q2 fun b L3 H3 q3 hr3 k3 hs3 t3 lp3 => ?_
    have keepD : ∀ {Ha Hb : Hp} {La Lb : DH}, Kp Ha La Hb Lb → Ha D = some (.lst vacc) → La D = none → Hb D = some (.lst vacc) ∧ Lb D = none := fun k a b => k D _ a b
    obtain ⟨d1, l1⟩ := keepD ky hH' hL'
    obtain ⟨d2, l2⟩ := keepD k2 d1 hL'
    obtain ⟨d3, l3⟩ := keepD k3 d2 l2
    have tk3 : TK H' H3 := (ty.trans (k2.tk hry)).trans t3
    have kp3 : Kp H L H3 L3 := ((k'.trans ky).trans k2).trans k3
    cases b with
    | false =>
      refine (if_neg Bool.false_ne_true).mpr ⟨acc, vacc, L3, hr3, tk'.trans tk3, kp3, l3, d3, RepL.tk tk3 _ _ ra, (if_neg Bool.false_ne_true).mp q3⟩
    | true =>
      refine (if_pos rfl).mpr ?_
      refine liftE_bind hs3 hr3 lp3 ((if_pos rfl).mp q3) fun y L4 v H4 ⟨hlen, q4⟩ r4 hr4 k4 hs4 t4 lp4 => ?_
      obtain ⟨d4, l4⟩ := keepD k4 d3 l3
      have ra4 : RepL M.K H4 acc vacc := RepL.tk (tk3.trans t4) _ _ ra
      refine ⟨vacc, d4, by rw [← ra4.length]; exact line_lt hlen, ?_⟩
      have tk5 : TK H4 (L2.upd H4 D (.lst (vacc ++ [v]))) := fun a o h im => by
        rw [upd_ne]; exact h
        rintro rfl
        rw [d4] at h; cases h; exact im.elim
      have hr5 : HR M.K (L2.upd H4 D (.lst (vacc ++ [v]))) L4 := fun a o h => by
        have ne : a ≠ D := by rintro rfl; rw [l4] at h; cases h
        exact (hr4 a o h).tk tk5 fun u hu => by rw [upd_ne ne]; exact hu
      refine ⟨acc ++ [y], vacc ++ [v], L4, hr5, ((tk'.trans tk3).trans t4).trans tk5, fun a o h n => ?_, l4, upd_same, RepL.tk tk5 _ _ (ra4.append (.one r4)), q4⟩
      obtain ⟨e1, e2⟩ := (kp3.trans k4) a o h n
      have ne : a ≠ D := by
        rintro rfl
        have := (k1 a o h n).1
        rw [hD] at this; cases this
      exact ⟨by rw [upd_ne ne]; exact e1, e2⟩
  · have ee : i = ds.length := by omega
    subst ee
    rw [List.drop_length] at q'
    obtain ⟨hok, q'⟩ := q'
    refine .inl ⟨(ito _ H' L' tk' hr' hok).1 rfl, hq (.ref D) _ (.ref D) H' (q' D hL') rfl (fun a o h => ?_) fun a o h n => ?_⟩
    · by_cases ea : a = D
      · subst ea
        rw [updD_same] at h; cases h
        exact ⟨vacc, hH', ra⟩
      · rw [updD_ne ea] at h
        exact hr' a o h
    · obtain ⟨e1, e2⟩ := k' a o h n
      have ne : a ≠ D := by
        rintro rfl
        have := (k1 a o h n).1
        rw [hD] at this; cases this
      exact ⟨e1, by rw [updD_ne ne]; exact e2⟩
end D2

set_option Elab.async false
set_option linter.all false
set_option maxRecDepth 100000
set_option maxHeartbeats 1000000
namespace D2
open PySem PySem.Spec PyProof.Rows L2
structure QTs (X : Cx) (W : WX) (ifs : List Expr) (t : DT) : Prop where
  pt : PTs X ifs (liftT X.km W t)
def dYes : DT := fun _ L Q _ => Q true L
section
variable {X : Cx} {W : WX} {pos : Pos}
theorem PTs_mono {X : Cx} {e : List Expr} {t t' : TT} (h : PTs X e t) (i : ∀ σ H Q, t' σ H Q → t σ H Q) : PTs X e t' := ⟨fun pins s σ H Q I q => h.run pins s σ H Q I (i σ H Q q)⟩
theorem qts_nil : QTs X W [] dYes := ⟨PTs_mono pts_nil fun σ H Q ⟨s, L, Qd, Ed, hs, hr, q, hq, lp⟩ => hq true L H q hr .refl⟩
theorem qts_one {c : Expr} {t : DT} (h : QT X W c t) : QTs X W [c] t := ⟨pts_one h.pt⟩
theorem qe_lc {elt tg iter : Expr} {ifs : List Expr} {scope : Scope} {own : List (Str × Nat)} {di : DI} {g : DG} {G : TG} {t : DT} {e : DE} (hc : X.calm = true) (hN : X.N.Nodup) (hi : QI X W tg iter di) (ok : BlkOk X.N X.env.scope scope own)
    (hg : ∀ (s : Shared) (H : Hp) (C : Addr) (cl : List (Str × Addr)) (fp : List Addr), PG (X.blk s H scope (compEnvC scope cl C X.env) fp) tg G) (lG : liftGo X.K (own.map (·.2)) g G)
    (ht : ∀ (s : Shared) (H : Hp) (C : Addr) (cl : List (Str × Addr)) (fp : List Addr), QTs (X.blk s H scope (compEnvC scope cl C X.env) fp) W0 ifs t)
    (he : ∀ (s : Shared) (H : Hp) (C : Addr) (cl : List (Str × Addr)) (fp : List Addr), QE (X.blk s H scope (compEnvC scope cl C X.env) fp) W0 elt e) (hs : ∀ x, foldedSetIterable iter X.env x = pure x := by intro _; rfl) :
    QE X W (.ListComp elt [⟨tg, iter, ifs, 0⟩] scope pos) (dLc di g t e (own.map (·.2))) :=
  ⟨PE_mono (pe_lc hc hN hi.pi ok hg (fun s H C cl fp => (ht s H C cl fp).pt) (fun s H C cl fp => (he s H C cl fp).pe) hs) fun _ _ _ q => lift_lc lG q⟩
theorem qs_setLc {i : Nat} {y : Str} {py spos : Pos} {elt tg iter : Expr} {ifs : List Expr} {scope : Scope} {own : List (Str × Nat)} {di : DI} {g : DG} {G : TG} {t : DT} {e : DE} (hc : X.calm = true) (hN : X.N.Nodup) (hi : QI X W tg iter di) (ok : BlkOk X.N X.env.scope scope own)
    (hg : ∀ (s : Shared) (H : Hp) (C : Addr) (cl : List (Str × Addr)) (fp : List Addr), PG (X.blk s H scope (compEnvC scope cl C X.env) fp) tg G) (lG : liftGo X.K (own.map (·.2)) g G)
    (ht : ∀ (s : Shared) (H : Hp) (C : Addr) (cl : List (Str × Addr)) (fp : List Addr), QTs (X.blk s H scope (compEnvC scope cl C X.env) fp) W0 ifs t)
    (he : ∀ (s : Shared) (H : Hp) (C : Addr) (cl : List (Str × Addr)) (fp : List Addr), QE (X.blk s H scope (compEnvC scope cl C X.env) fp) W0 elt e)
    (hsw : swapsWith (.ListComp elt [⟨tg, iter, ifs, 0⟩] scope pos) (some (.Name y py)) spos.line X.env = pure true)
    (hy : X.N[i]? = some y := by rfl) (hyl : X.env.scope.names.lookup y = some .local := by rfl) (hs : ∀ x, foldedSetIterable iter X.env x = pure x := by intro _; rfl) :
    QS X W (.Assign [.Name y py] (.ListComp elt [⟨tg, iter, ifs, 0⟩] scope pos) spos) (sAsg (dLc di g t e (own.map (·.2))) (gdName i)) :=
  ⟨PS_mono (ps_setLc hc hN hy hyl hsw hi.pi ok hg (fun s H C cl fp => (ht s H C cl fp).pt) (fun s H C cl fp => (he s H C cl fp).pe) hs) fun Dn σ H ⟨s, L, dn, hs, hr, h, p⟩ =>
    lift_lc lG (Q := fun x H1 => gName i x σ H1 Dn.nx) (liftE_bind hs hr (p.lp hs hr) h fun d L1 x H1 q1 r1 hr1 k1 hs1 t1 lp1 => p.nx _ L1 _ H1 q1 (hs1.set r1 i) hr1 k1)⟩
/-! raise -/
structure ExcOk (K : PySem.W.Frag) (mg : Str → Option Value) (nm : Str) : Prop where
  ex : ∃ C, mg nm = some (.ref C) ∧ PySem.W.excIn K C [.type "ValueError", .type "Exception", .type "BaseException", .type "object"] "ValueError.__new__" = true ∧ PySem.W.keepIn K (.ref C) = true ∧
    PySem.W.subIn K (.ref C) (.type "BaseException") = some true ∧ PySem.W.typeIn K (.ref C) = some (.type "type")
def sRaise (nm : Str) : DS := fun dn s L => dn.ex nm [] s L
theorem qs_raise {nm m : Str} {j : Nat} {p p2 pos2 : Pos} (hc : X.calm = true) (tk : Takes X W) (ok : ExcOk X.K X.mg nm) (hg : Gl X nm := by rfl) (hdb : (nm == ("__debug__" : Str)) = false := by decide) :
    QS X W (.Raise (some (.Call (.Name nm p) [.Constant (.str m) j p2] [] pos2)) none pos) (sRaise nm) := by
  obtain ⟨C, h1, h2, h3, h4, h5⟩ := ok.ex
  exact ⟨PS_mono (ps_raise hc tk (pmk_own PySem.F.excBase_ValueError h2 h1 h3 (raises_own h4 h5) hg hdb)) fun Dn σ H ⟨s, L, dn, hs, hr, h, p⟩ => p.ex nm [] _ _ s L σ H h ⟨h1, .inl rfl⟩ hs hr .refl⟩
/-! try -/
def exBy (sub : Str → Str → Option Bool) (dn : DEnds) : List (Str × DS) → Str → List (Str × D) → DSt → DH → Prop
  | [] => dn.ex
  | (c, h) :: r => fun n fs s L => ∃ b, sub n c = some b ∧ (b = true → h { dn with ex := fun _ _ _ _ => False } s L) ∧ (b = false → exBy sub dn r n fs s L)
def sTry (sub : Str → Str → Option Bool) (body : DS) (hs : List (Str × DS)) : DS := fun dn s L => body { dn with ex := exBy sub dn hs } s L
/-- what the table of the errors' classes says is so -/
def SubOk (K : PySem.W.Frag) (mg : Str → Option Value) (sub : Str → Str → Option Bool) : Prop := ∀ n c b, sub n c = some b → ∃ vn vc, mg n = some vn ∧ mg c = some vc ∧ PySem.W.exmOne K vn vc = some b
inductive QHds (X : Cx) : List ExceptHandler → List (Str × DS) → List (Value × (Addr → Value → Option Addr → TS)) → Prop
  | nil : QHds X [] [] []
  | cons {x : Str} {c : Value} {h : DS} {b₀ : Stmt} {suite : List Stmt} {np pos' : Pos} {hds : List ExceptHandler} {l : List (Str × DS)} {ll : List (Value × (Addr → Value → Option Addr → TS))} (hm : X.mg x = some c)
      (hsu : ∀ (a : Addr) (oe : Obj) (pn : List (Addr × Obj)), QSs (X.suite a ((a, oe) :: pn)) W0 (b₀ :: suite) h) (r : QHds X hds l ll) (hg : Gl X x := by rfl) (hdb : (x == ("__debug__" : Str)) = false := by decide) :
      QHds X (.ExceptHandler (some (.Name x np)) none (b₀ :: suite) pos' :: hds) ((x, h) :: l) ((c, fun _ _ _ => liftS X.km W0 h) :: ll)
theorem QHds.ok {hds : List ExceptHandler} {l : List (Str × DS)} {ll : List (Value × (Addr → Value → Option Addr → TS))} (h : QHds X hds l ll) : HdsOk X hds ll := by
  induction h with
  | nil => exact .nil
  | cons hm hsu r hg hdb ih => exact .cons ⟨hg, hdb, .inl hm⟩ (fun a oe cls d pn _ _ => (hsu a oe pn).ps) ih
theorem exBy_ok {sub : Str → Str → Option Bool} (so : SubOk X.K X.mg sub) {hds : List ExceptHandler} {l : List (Str × DS)} {ll : List (Value × (Addr → Value → Option Addr → TS))} (h : QHds X hds l ll)
    {H : Hp} {L : DH} {dn : DEnds} {Dn : Ends} (p : Post X.km W H L dn Dn) : ∀ {n : Str} {fs : List (Str × D)} {cls : Value} {dx : Option Addr} {s : DSt} {L' : DH} {σ : L2.St} {H' : Hp}, exBy sub dn l n fs s L' → XRep X.km H' n fs cls dx → SR X.K H' s σ → HR X.K H' L' → Kp H L H' L' →
      wMany X.K W Dn ll cls dx σ H' := by
  induction h with
  | nil => intro n fs cls dx s L' σ H' q x hs hr k; exact p.ex n fs cls dx s L' σ H' q x hs hr k
  | cons hm hsu r hg hdb ih =>
    intro n fs cls dx s L' σ H' q x hs hr k
    obtain ⟨b, e, q1, q2⟩ := q
    obtain ⟨vn, vc, g1, g2, g3⟩ := so _ _ _ e
    have e1 : vn = cls := Option.some.inj (g1.symm.trans x.1)
    have e2 := Option.some.inj (g2.symm.trans hm)
    subst e1 e2
    refine ⟨b, g3, fun hb a ha => ⟨s, L', _, hs, hr, q1 hb, ?_⟩, fun hb => ih (q2 hb) x hs hr k⟩
    have p' := p.after k
    exact ⟨p'.nx, p'.rt, p'.bk, p'.ct, fun _ _ _ _ _ _ _ _ z => z.elim⟩
theorem qs_try {body : List Stmt} {h₀ : ExceptHandler} {hds : List ExceptHandler} {db : DS} {l : List (Str × DS)} {ll : List (Value × (Addr → Value → Option Addr → TS))} {sub : Str → Str → Option Bool} (hs : X.stack = X.env :: X.outer) (hf : X.env.frame = some X.env.locals) (tk : Takes X W) (so : SubOk X.K X.mg sub)
    (hb : ∀ (W : WX) (pn : List (Addr × Obj)) (xe : Value → Shared → Prop), Takes (X.tr pn xe) W → PassesOwn (model X.prog X.w) X.A X.env xe → QSs (X.tr pn xe) W body db) (hh : QHds X (h₀ :: hds) l ll) : QS X W (.Try body (h₀ :: hds) [] [] pos) (sTry sub db l) :=
  ⟨PS_mono (ps_try_many (tb := fun W => liftS X.km W db) hs hf tk (fun W pn xe t1 t2 => (hb W pn xe t1 t2).ps) hh.ok) fun Dn σ H ⟨s, L, dn, hs, hr, h, p⟩ =>
    ⟨s, L, _, hs, hr, h, p.nx, p.rt, p.bk, p.ct, fun C fs cls dx s' L' σ' H' a b c d e => exBy_ok so hh p a b c d e⟩⟩
end
/-! ### the law -/
theorem law_sp {K : PySem.W.Frag} {mg : Str → Option Value} {sp : SpD} {H : Hp} {a : Addr} {ns : List Int} (hO : Only H) (hS : SqL K H a (ns.map V.int)) (h : ∀ L : DH, (∀ b, L b = none) → sp [.lro (ns.map .int)] L (fun d _ => d = .bl true) (fun _ _ _ => False)) :
    liftSp ⟨K, mg⟩ sp [.ref a] H (fun v _ => v = .bl true) (fun _ _ _ => False) := by
  refine ⟨[.lro (ns.map .int)], (fun _ => none), (fun d _ => d = .bl true), (fun _ _ _ => False), RepL.one ⟨a, _, rfl, ?_, repL_of_ints ns⟩, (fun _ _ h => nomatch h), h _ (fun _ => rfl), (fun d L' v H' e r _ _ => by subst e; exact r), (fun _ _ _ _ _ _ h => h.elim)⟩
  rcases hS with (h | ⟨o, h⟩) | h
  · rcases hO a with z | ⟨o, xs, z⟩
    · rw [h] at z; cases z
    · rw [h] at z; cases z
  · exact .inl ⟨o, h⟩
  · exact .inr h
end D2

set_option Elab.async false
set_option linter.all false
set_option maxRecDepth 100000
set_option maxHeartbeats 1000000
namespace D2
open PySem PySem.Spec PyProof.Rows L2
/-! ### short words for the printed derivations -/
structure Ok (P : Program) (w : World) (K : PySem.W.Frag) (mg : Str → Option Value) (base : Heap) (nm : Str) (k : Nat) (ps : List Str) (sp : SpD) : Prop where
  ex : ∃ f fd, FnOk P w K mg base (L2.CX P w) k f fd ps (liftSp ⟨K, mg⟩ sp) ∧ mg nm = some (.ref f) ∧ PySem.W.keepIn K (.ref f) = true ∧ Binds K fd ps [] ∧ ∃ oc od sl, K.lookup f = some ⟨oc, od, .func fd, sl⟩
theorem _root_.L2.Fun.lk {K : PySem.W.Frag} {x qual : Str} {st : Stmt} {f : Addr} {fd : FuncData} (F : Fun K x qual st f fd) : ∃ oc od sl, K.lookup f = some ⟨oc, od, .func fd, sl⟩ := by
  obtain ⟨oc, od, kV, doc, pm, an, cdv, ct, osl, _, lk, _⟩ := F.ex
  exact ⟨oc, od, osl, lk⟩
structure DefAt (K : PySem.W.Frag) (mg : Str → Option Value) (nm : Str) (st : Stmt) : Prop where
  ex : ∃ f fd, mg nm = some (.ref f) ∧ Fun K nm nm st f fd
def ClsAt (mg : Str → Option Value) (nm : Str) : Prop := ∃ v, mg nm = some v
structure ConstOk (K : PySem.W.Frag) (mg : Str → Option Value) (nm : Str) (d : D) : Prop where
  ex : ∃ v u, mg nm = some u ∧ RelV v u ∧ ∀ H, Rep K H d v
theorem Ok.mono {P : Program} {w : World} {K : PySem.W.Frag} {mg : Str → Option Value} {base : Heap} {nm : Str} {j k : Nat} {ps : List Str} {sp : SpD} (o : Ok P w K mg base nm j ps sp) (h : j ≤ k) : Ok P w K mg base nm k ps sp := by
  obtain ⟨f, fd, a, b⟩ := o.ex
  exact ⟨f, fd, a.mono h, b⟩
section
variable {X : Cx} {W : WX} {pos : Pos}
theorem q_callO {k : Nat} {ps : List Str} {sp : SpD} {x : Str} {p : Pos} {e : Expr} {es : List Expr} {t : DA} (o : Ok X.prog X.w X.K X.mg X.base x k ps sp) (hr : Room k X.A) (tk : Takes X W) (ha : QA X W (e :: es) t) (hg : Gl X x := by rfl)
    (hdb : (x == ("__debug__" : Str)) = false := by decide) (he : starEach (e :: es) X.env = (false, eval e X.env) :: starEach es X.env := by rfl) (hpl : (backTo pos (starEach es X.env)).any (·.1) = false := by rfl) :
    QE X W (.Call (.Name x p) (e :: es) [] pos) (dCall sp t) := by
  obtain ⟨f, fd, F, hm, hk, hb, _⟩ := o.ex
  exact q_call F hr hm hk hb tk ha hg hdb he hpl
theorem q_cst {x : Str} {d : D} (c : ConstOk X.K X.mg x d) (hg : Gl X x := by rfl) (hd : (x == ("__debug__" : Str)) = false := by decide) : QE X W (.Name x pos) (dC d) := by
  obtain ⟨v, u, h1, h2, h3⟩ := c.ex
  exact q_glob hg h1 h2 h3 hd
/-! is True -/
def dIsBl : RD2 := fun x y L Q => match x, y with
  | .bl a, .bl b => Q (.bl (decide (a = b))) L
  | _, _ => False
def dNotBl : RD2 := fun x y L Q => match x, y with
  | .bl a, .bl b => Q (.bl (!decide (a = b))) L
  | _, _ => False
theorem opd_isBl {K : PySem.W.Frag} : OpD K rIsB dIsBl := fun H L d e x y Qd Q rx ry hr q k => by
  cases d with
  | bl i =>
    cases e with
    | bl j => exact ⟨i, j, rx, ry, k _ L _ H q rfl hr .refl⟩
    | _ => exact False.elim q
  | _ => exact False.elim q
theorem opd_notBl {K : PySem.W.Frag} : OpD K rNotB dNotBl := fun H L d e x y Qd Q rx ry hr q k => by
  cases d with
  | bl i =>
    cases e with
    | bl j => exact ⟨i, j, rx, ry, k _ L _ H q rfl hr .refl⟩
    | _ => exact False.elim q
  | _ => exact False.elim q
/-! several names at once -/
def sPar2 (i j : Nat) (t : DA) : DS := fun dn s L => t s L (fun ds L1 => ∃ a b, ds = [a, b] ∧ dn.nx ((s.set i (some a)).set j (some b)) L1) (xOf dn s)
def sPar3 (i j l : Nat) (t : DA) : DS := fun dn s L => t s L (fun ds L1 => ∃ a b c, ds = [a, b, c] ∧ dn.nx (((s.set i (some a)).set j (some b)).set l (some c)) L1) (xOf dn s)
theorem qs_par2 (i j : Nat) {x y : Str} {a b : Expr} {ta : DA} {px py pt : Pos} {kt k2 pt2} (hN : X.N.Nodup) (ha : QA X W [a, b] ta) (hc : X.calm = true := by rfl) (hi : X.N[i]? = some x := by rfl) (hj : X.N[j]? = some y := by rfl) (hij : i ≠ j := by decide)
    (hx : X.env.scope.names.lookup x = some .local := by rfl) (hy : X.env.scope.names.lookup y = some .local := by rfl)
    (hw : swappedStores [.Tuple [.Name x px, .Name y py] kt pt] (.Tuple [a, b] k2 pt2) X.env = pure (some [x, y]) := by rfl)
    (hs : swapsWithSole [.Tuple [.Name x px, .Name y py] kt pt] (.Tuple [a, b] k2 pt2) pos.line X.env = pure false := by rfl) : QS X W (.Assign [.Tuple [.Name x px, .Name y py] kt pt] (.Tuple [a, b] k2 pt2) pos) (sPar2 i j ta) :=
  ⟨PS_mono (ps_par hc hN hi hj hij hx hy ha.pa hw hs) fun Dn σ H ⟨s, L, dn, hs, hr, h, p⟩ => liftA_bind hs hr (p.lp hs hr) h fun ds L1 vs H1 ⟨d1, d2, e, q1⟩ r1 hr1 k1 hs1 t1 lp1 => by
    subst e
    obtain ⟨v, u, e, r1, r2⟩ := r1.two_inv
    exact ⟨v, u, e, p.nx _ L1 _ H1 q1 ((hs1.set r1 i).set r2 j) hr1 k1⟩⟩
theorem qs_par3 (i j l : Nat) {x y z : Str} {a b c : Expr} {ta : DA} {px py pz pt : Pos} {kt k2 pt2} (hN : X.N.Nodup) (ha : QA X W [a, b, c] ta) (hc : X.calm = true := by rfl) (hi : X.N[i]? = some x := by rfl) (hj : X.N[j]? = some y := by rfl) (hl : X.N[l]? = some z := by rfl) (hij : i ≠ j := by decide) (hil : i ≠ l := by decide) (hjl : j ≠ l := by decide)
    (hx : X.env.scope.names.lookup x = some .local := by rfl) (hy : X.env.scope.names.lookup y = some .local := by rfl) (hz : X.env.scope.names.lookup z = some .local := by rfl)
    (hw : swappedStores [.Tuple [.Name x px, .Name y py, .Name z pz] kt pt] (.Tuple [a, b, c] k2 pt2) X.env = pure (some [x, y, z]) := by rfl)
    (hs : swapsWithSole [.Tuple [.Name x px, .Name y py, .Name z pz] kt pt] (.Tuple [a, b, c] k2 pt2) pos.line X.env = pure false := by rfl) : QS X W (.Assign [.Tuple [.Name x px, .Name y py, .Name z pz] kt pt] (.Tuple [a, b, c] k2 pt2) pos) (sPar3 i j l ta) :=
  ⟨PS_mono (ps_par3 hc hN hi hj hl hij hil hjl hx hy hz ha.pa hw hs) fun Dn σ H ⟨s, L, dn, hs, hr, h, p⟩ => liftA_bind hs hr (p.lp hs hr) h fun ds L1 vs H1 ⟨d1, d2, d3, e, q1⟩ r1 hr1 k1 hs1 t1 lp1 => by
    subst e
    obtain ⟨v, r, e, rv, u, r2, e2, ru, rr⟩ := r1
    obtain ⟨t, e3, rt⟩ := RepL.one_inv rr
    exact ⟨v, u, t, by rw [e, e2, e3], p.nx _ L1 _ H1 q1 (((hs1.set rv i).set ru j).set rt l) hr1 k1⟩⟩
end
/-! ### the end of a law -/
theorem exm_pair {K : PySem.W.Frag} {N S : Addr} {b : Bool} (h1 : PySem.W.subIn K (.ref S) (.type "BaseException") = some true) (h2 : PySem.W.isClsIn K S = true) (h3 : PySem.W.typeIn K (.ref S) = some (.type "type")) (h4 : PySem.W.subIn K (.ref N) (.ref S) = some b) :
    PySem.W.exmOne K (.ref N) (.ref S) = some b := by
  have e1 : (PySem.W.subIn K (.ref S) (.type "BaseException") == some true) = true := by rw [h1] <;> rfl
  have e2 : ((PySem.W.clsIn K S).isSome && PySem.W.typeIn K (.ref S) == some (.type "type")) = true := by
    have h2' : (PySem.W.clsIn K S).isSome = true := h2
    rw [h2', h3] <;> rfl
  show (if (PySem.W.subIn K (.ref S) (.type "BaseException") == some true) = true then (if ((PySem.W.clsIn K S).isSome && PySem.W.typeIn K (.ref S) == some (.type "type")) = true then PySem.W.subIn K (.ref N) (.ref S) else none) else none) = some b
  rw [if_pos e1, if_pos e2]
  exact h4
theorem cst_int {K : PySem.W.Frag} {mg : Str → Option Value} {h : Heap} {nm : Str} {i : Int} {t : Tok} (X : K.In h) (G : h.Ns mainGlobals mg) (a : PySem.W.nsIn K mainGlobals nm = some (some (.int i t))) : ConstOk K mg nm (.int i) := ⟨.int i, _, PySem.W.mg_of X G a, ⟨t, rfl⟩, fun _ => rfl⟩
theorem cst_str {K : PySem.W.Frag} {mg : Str → Option Value} {h : Heap} {nm : Str} {i : Str} {t : Tok} (X : K.In h) (G : h.Ns mainGlobals mg) (a : PySem.W.nsIn K mainGlobals nm = some (some (.str i t))) (ok : PyData.strOk i = true) : ConstOk K mg nm (.str i) := ⟨.str i, _, PySem.W.mg_of X G a, ⟨t, rfl⟩, fun _ => ⟨rfl, ok⟩⟩
theorem def_at {K : PySem.W.Frag} {mg : Str → Option Value} {h : Heap} {x : Str} {st : Stmt} {f : Addr} {oc : Value} {od an : Option Addr} {osl : Array (Option Value)} {kV doc pm cdv ct : Value} (X : K.In h) (G : h.Ns mainGlobals mg) (a : PySem.W.nsIn K mainGlobals x = some (some (.ref f)))
    (l : K.lookup f = some ⟨oc, od, .func (PySem.W.fnOf x x (defArgs st) (defBody st) (defScope st) .none kV doc pm an cdv ct), osl⟩)
    (c : PySem.W.codeIn K cdv x = true) (k : PySem.W.keepIn K (.ref f) = true) : DefAt K mg x st := ⟨f, _, PySem.W.mg_of X G a, fun_mk l c k⟩
theorem law_end {l : PySem.W.OpenLaw} {w : World} {K : PySem.W.Frag} {mg : Str → Option Value} {fa : Addr} {lv : Nat} {sp : SpD} {fd : FuncData} {oc : Value} {od : Option Addr} {sl : Array (Option Value)} (hfa : mg "law" = some (.ref fa)) (lk : K.lookup fa = some ⟨oc, od, .func fd, sl⟩)
    {base : Heap} (o : Ok l.prog w K mg base "law" lv ["script"] sp) : FnOk l.prog w K mg base (L2.CX l.prog w) lv fa fd ["script"] (liftSp ⟨K, mg⟩ sp) := by
  obtain ⟨f, fd', F, hm, _, _, oc', od', sl', lk'⟩ := o.ex
  have e := hfa.symm.trans hm
  cases e
  rw [lk] at lk'
  cases lk'
  exact F
theorem walkD {l : PySem.W.OpenLaw} {q : Program} {loose : List Str} {XP : (Str → Option Value) → Heap → Prop} {YP : World → Heap → Prop} {d : DefRec} {K : Params → PySem.W.Frag} {lv : Nat} {sp : SpD} (hn : l.most = some 63) (hdf : d.params.defaults = []) (hroom : Room lv callerA)
    (hY : ∀ (w : World) (h : Heap), YP w h → (K w.params).In h)
    (F : ∀ (w : World) (mg : Str → Option Value) (fa : Addr) (h : Heap), (K w.params).In h → h.Ns mainGlobals mg → mg d.name = some (.ref fa) →
      ∃ fd : FuncData, (∀ (s : Shared) (u : Value), BindsTo s fd ⟨[u], []⟩ [("script", u)]) ∧ ∀ base : Heap, (K w.params).In base → base.Ns mainGlobals mg → ∃ mg', FnOk l.prog w (K w.params) mg base (L2.CX l.prog w) lv fa fd ["script"] (liftSp ⟨K w.params, mg'⟩ sp))
    (hsp : ∀ (ns : List Int), ns.length ≤ 63 → ∀ L : DH, (∀ b, L b = none) → sp [.lro (ns.map .int)] L (fun d _ => d = .bl true) (fun _ _ _ => False)) :
    PySem.W.WalkO q loose XP YP l.row.toRowW d [] (fun f vs => PySem.call f vs) := by
  refine L2.walk_of (n := 63) (k := lv) (x := "script") (CX := fun w => L2.CX l.prog w) (sp := fun w vs H Q E => ∃ a ns, vs = [.ref a] ∧ ns.length ≤ 63 ∧ Only H ∧ SqL (K w.params) H a (ns.map V.int) ∧ (∀ v H', v = .bl true → Q v H') ∧ ∀ c x H', False → E c x H') hn (by decide) hdf hroom hY (fun w mg fa h KX G hmg => ?_) (fun w H a ns hl hO hS => ⟨a, ns, rfl, hl, hO, hS, fun _ _ e => e, fun _ _ _ e => e⟩) fun w H s e s' c => ?_
  · obtain ⟨fd, hb, hF⟩ := F w mg fa h KX G hmg
    refine ⟨fd, hb, fun base b1 b2 => ?_⟩
    obtain ⟨mg', F'⟩ := hF base b1 b2
    refine F'.imp fun vs H Q E h => ?_
    obtain ⟨a, ns, e, hl, hO, hS, hq, _⟩ := h
    subst e
    obtain ⟨ds, L, Qd, Ed, r, hr, q1, q2, q3⟩ := law_sp (K := K w.params) (mg := mg') hO hS (hsp ns hl)
    exact ⟨ds, L, Qd, Ed, r, hr, q1, fun d L' v H' x y z k => hq v H' (q2 d L' v H' x y z k), fun C fs L' cls dx H' x y z k => (q3 C fs L' cls dx H' x y z k).elim⟩
  · obtain ⟨_, _, _, _, _, _, _, _, _, _, _, _, z⟩ := c
    exact z
end D2

set_option Elab.async false
set_option linter.all false
set_option maxRecDepth 100000
set_option maxHeartbeats 1000000
namespace D2
open PySem PySem.Spec PyProof.Rows L2
/-! ### loops by induction; the continuation is a letter -/
theorem forD_ind {g : DG} {body : DS} {ok : DH → Prop} {dn : DEnds} (I : List D → DSt → DH → Prop)
    (hs : ∀ d ds s L (P : DSt → DH → Prop), (∀ s' L', I ds s' L' → P s' L') → I (d :: ds) s L → ok L ∧ g d s L (fun s1 L1 => body { dn with nx := P, ct := P, bk := dn.nx } s1 L1) (fun _ _ _ => False))
    (he : ∀ s L, I [] s L → ok L ∧ dn.nx s L) : ∀ ds s L, I ds s L → forD g body ok ds dn s L
  | [], s, L, h => he s L h
  | d :: ds, s, L, h => hs d ds s L _ (fun s' L' h' => forD_ind I hs he ds s' L' h') h
/-- the same invariant at each turn -/
theorem forD_mem {g : DG} {body : DS} {ok : DH → Prop} {dn : DEnds} (I : DSt → DH → Prop) (ds : List D)
    (hs : ∀ d, d ∈ ds → ∀ s L (P : DSt → DH → Prop), (∀ s' L', I s' L' → P s' L') → I s L → ok L ∧ g d s L (fun s1 L1 => body { dn with nx := P, ct := P, bk := dn.nx } s1 L1) (fun _ _ _ => False))
    (he : ∀ s L, I s L → ok L ∧ dn.nx s L) (s : DSt) (L : DH) (h : I s L) : forD g body ok ds dn s L :=
  forD_ind (fun rest s L => (∀ d, d ∈ rest → d ∈ ds) ∧ I s L) (fun d rest s L P hP hI => hs d (hI.1 d List.mem_cons_self) s L P (fun s' L' h' => hP s' L' ⟨fun e he => hI.1 e (List.mem_cons_of_mem _ he), h'⟩) hI.2)
    (fun s L hI => he s L hI.2) ds s L ⟨fun _ h => h, h⟩
/-- by the number of turns -/
theorem forD_ix {g : DG} {body : DS} {ok : DH → Prop} {dn : DEnds} (I : Nat → DSt → DH → Prop) (ds : List D)
    (hs : ∀ (i : Nat) d, ds[i]? = some d → ∀ s L (P : DSt → DH → Prop), (∀ s' L', I (i + 1) s' L' → P s' L') → I i s L → ok L ∧ g d s L (fun s1 L1 => body { dn with nx := P, ct := P, bk := dn.nx } s1 L1) (fun _ _ _ => False))
    (he : ∀ s L, I ds.length s L → ok L ∧ dn.nx s L) (s : DSt) (L : DH) (h : I 0 s L) : forD g body ok ds dn s L :=
  forD_ind (fun rest s L => ∃ i, rest = ds.drop i ∧ i ≤ ds.length ∧ I i s L) (fun d rest s L P hP ⟨i, e, hi, hI⟩ => by
      have hd : ds[i]? = some d := by
        have : (ds.drop i)[0]? = some d := by rw [← e]; rfl
        simpa using this
      refine hs i d hd s L P (fun s' L' h' => hP s' L' ⟨i + 1, ?_, ?_, h'⟩) hI
      · have : (ds.drop i).drop 1 = rest := by rw [← e]; rfl
        rw [← this, List.drop_drop]
      · have := (List.getElem?_eq_some_iff.mp hd).1
        omega)
    (fun s L ⟨i, e, hi, hI⟩ => by
      have : i = ds.length := by
        have := congrArg List.length e
        simp at this
        omega
      subst this
      exact he s L hI) ds s L ⟨0, by simp, Nat.zero_le _, h⟩
theorem lcD_ind {g : DG} {t : DT} {e : DE} {ok : DH → Prop} {s : DSt} {Q : List D → DH → Prop} (I : List D → List D → DH → Prop)
    (hs : ∀ d ds acc L (P : List D → DH → Prop), (∀ acc' L', I ds acc' L' → P acc' L') → I (d :: ds) acc L → ok L ∧ g d s L (fun s1 L1 => t s1 L1 (fun b L2 => if b = true then e s1 L2 (fun y L3 => acc.length < 16777216 ∧ P (acc ++ [y]) L3) (fun _ _ _ => False) else P acc L2) (fun _ _ _ => False)) (fun _ _ _ => False))
    (he : ∀ acc L, I [] acc L → ok L ∧ Q acc L) : ∀ ds acc L, I ds acc L → lcD g t e ok s Q ds acc L
  | [], acc, L, h => he acc L h
  | d :: ds, acc, L, h => hs d ds acc L (fun a L' => lcD g t e ok s Q ds a L') (fun a L' h' => lcD_ind I hs he ds a L' h') h
/-- elements and tests that change nothing -/
theorem lcD_pure {g : DG} {t : DT} {e : DE} {ok : DH → Prop} {s : DSt} {Q : List D → DH → Prop} (keep : D → Bool) (f : D → D) (L : DH) (hok : ok L) : ∀ (ds : List D),
    (∀ d, d ∈ ds → ∀ (Kt : D → DH → Prop) (Kf : DH → Prop), (keep d = true → Kt (f d) L) → (keep d = false → Kf L) → g d s L (fun s1 L1 => t s1 L1 (fun b L2 => if b = true then e s1 L2 Kt (fun _ _ _ => False) else Kf L2) (fun _ _ _ => False)) (fun _ _ _ => False)) →
    ∀ acc, acc.length + ds.length ≤ 16777216 → Q (acc ++ (ds.filter keep).map f) L → lcD g t e ok s Q ds acc L
  | [], _, acc, _, q => ⟨hok, by simpa using q⟩
  | d :: ds, h, acc, hl, q => by
    refine ⟨hok, h d List.mem_cons_self _ _ (fun hk => ⟨by simp at hl; omega, ?_⟩) fun hk => ?_⟩
    · refine lcD_pure keep f L hok ds (fun d hd => h d (List.mem_cons_of_mem _ hd)) _ (by simp at hl ⊢; omega) ?_
      rw [List.filter_cons, if_pos hk] at q
      simpa using q
    · refine lcD_pure keep f L hok ds (fun d hd => h d (List.mem_cons_of_mem _ hd)) _ (by simp at hl ⊢; omega) ?_
      rw [List.filter_cons, if_neg (by simp [hk])] at q
      exact q
theorem mem_rngD {lo : Int} {n : Nat} {d : D} (h : d ∈ rngD lo n) : ∃ k : Int, d = .int k ∧ lo ≤ k ∧ k < lo + n := by
  unfold rngD at h
  obtain ⟨i, hi, e⟩ := List.mem_map.mp h
  have := List.mem_range.mp hi
  exact ⟨lo + i, e.symm, by omega, by omega⟩
theorem rngD_get {lo : Int} {n : Nat} {i : Nat} {d : D} (h : (rngD lo n)[i]? = some d) : d = .int (lo + i) ∧ i < n := by
  unfold rngD at h
  rw [List.getElem?_map] at h
  obtain ⟨j, hj, e⟩ := Option.map_eq_some_iff.mp h
  have := List.getElem?_eq_some_iff.mp hj
  obtain ⟨hl, e2⟩ := this
  simp at hl e2
  subst e2
  exact ⟨e.symm, hl⟩
theorem rngD_length {lo : Int} {n : Nat} : (rngD lo n).length = n := by simp [rngD]
/-! ### equality of plain things -/
section
variable {L : DH}
@[simp] theorem pyL_int (n : Nat) (i : Int) : pyL L n (.int i) = some (.int i) := by cases n <;> rfl
@[simp] theorem pyL_bl (n : Nat) (i : Bool) : pyL L n (.bl i) = some (.bool i) := by cases n <;> rfl
@[simp] theorem pyL_str (n : Nat) (i : Str) : pyL L n (.str i) = some (.str i) := by cases n <;> rfl
@[simp] theorem pyL_non (n : Nat) : pyL L n .non = some .none := by cases n <;> rfl
theorem pyL_tup (n : Nat) (ds : List D) : pyL L (n + 1) (.tup ds) = (optAll (pyL L n) ds).map PyData.tuple := rfl
theorem pyL_ref (n : Nat) {a : Addr} {ds : List D} (h : L a = some (.lst ds)) : pyL L (n + 1) (.ref a) = (optAll (pyL L n) ds).map PyData.list := by
  show (match L a with | some (.lst ds) => (optAll (pyL L n) ds).map PyData.list | none => none) = _
  rw [h]
theorem pyL_lro (n : Nat) {ds : List D} : pyL L (n + 1) (.lro ds) = (optAll (pyL L n) ds).map PyData.list := rfl
@[simp] theorem optAll_nil {α β : Type} {f : α → Option β} : optAll f [] = some [] := rfl
theorem optAll_cons' {α β : Type} {f : α → Option β} {x : α} {xs : List α} : optAll f (x :: xs) = (f x).bind fun y => (optAll f xs).map fun ys => y :: ys := by
  show (match f x with | none => none | some y => match optAll f xs with | none => none | some ys => some (y :: ys)) = _
  cases f x with
  | none => rfl
  | some y =>
    cases optAll f xs with
    | none => rfl
    | some ys => rfl
theorem optAll_map {α β γ : Type} {f : α → Option β} {h : γ → α} {k : γ → β} (e : ∀ c, f (h c) = some (k c)) : ∀ cs : List γ, optAll f (cs.map h) = some (cs.map k)
  | [] => rfl
  | c :: cs => by rw [List.map_cons, optAll_cons', e, optAll_map e cs]; rfl
theorem optAll_ints (n : Nat) (ns : List Int) : optAll (pyL L n) (ns.map D.int) = some (ns.map PyData.int) := optAll_map (fun c => pyL_int n c) ns
theorem eqD_of {x y : D} {p q : PyData} (h1 : pyL L 60 x = some p) (h2 : pyL L 60 y = some q) : eqD L x y = some (PyData.eqv p q) := by
  unfold eqD; rw [h1, h2]
@[simp] theorem eqD_int (i j : Int) : eqD L (.int i) (.int j) = some (i == j) := by rw [eqD_of (pyL_int _ _) (pyL_int _ _)]; rfl
@[simp] theorem eqD_str (i j : Str) : eqD L (.str i) (.str j) = some (i == j) := by rw [eqD_of (pyL_str _ _) (pyL_str _ _)]; rfl
@[simp] theorem eqD_non_str (j : Str) : eqD L .non (.str j) = some false := by rw [eqD_of (pyL_non _) (pyL_str _ _)]; rfl
theorem inD_of {x y : D} {ys : List D} {ps : List PyData} {p : PyData} (h : itemsOf L y = some ys) (h1 : optAll (pyL L 59) ys = some ps) (h2 : pyL L 60 x = some p) : inD L x y = some (ps.any fun q => PyData.eqv q p) := by
  have core : (match itemsOf L y with
    | none => none
    | some ys => match optAll (pyL L 59) ys with
      | none => none
      | some ps => match pyL L 60 x with
        | none => none
        | some p => some (ps.any fun q => PyData.eqv q p)) = some (ps.any fun q => PyData.eqv q p) := by simp only [h, h1, h2]
  cases y with
  | str z => cases h
  | non => exact core
  | bl _ => exact core
  | int _ => exact core
  | tup _ => exact core
  | lro _ => exact core
  | ref _ => exact core
end
/-! ### places -/
section
variable {α : Type} {a b c d e f : α} {l : List α}
@[simp] theorem atI0 : atI (a :: l) 0 = some a := atI_nat (j := 0) rfl
@[simp] theorem atI1 : atI (a :: b :: l) 1 = some b := atI_nat (j := 1) rfl
@[simp] theorem atI2 : atI (a :: b :: c :: l) 2 = some c := atI_nat (j := 2) rfl
@[simp] theorem atI3 : atI (a :: b :: c :: d :: l) 3 = some d := atI_nat (j := 3) rfl
@[simp] theorem atI4 : atI (a :: b :: c :: d :: e :: l) 4 = some e := atI_nat (j := 4) rfl
theorem atI_in {xs : List α} {i : Int} (h0 : 0 ≤ i) (h1 : i < xs.length) : ∃ x, atI xs i = some x ∧ xs[i.toNat]? = some x ∧ x ∈ xs := by
  have h : i.toNat < xs.length := by omega
  refine ⟨xs[i.toNat], ?_, List.getElem?_eq_getElem h, List.getElem_mem h⟩
  have q := atI_nat (List.getElem?_eq_getElem h)
  rwa [show ((i.toNat : Nat) : Int) = i by omega] at q
theorem ixN_in {n : Nat} {i : Int} (h0 : 0 ≤ i) (h1 : i < n) : ixN n i = some i.toNat := by
  unfold ixN; rw [if_pos h0, if_pos h1]
@[simp] theorem ixN_30 : ixN 3 0 = some 0 := by decide
@[simp] theorem ixN_31 : ixN 3 1 = some 1 := by decide
@[simp] theorem ixN_32 : ixN 3 2 = some 2 := by decide
@[simp] theorem ixN_40 : ixN 4 0 = some 0 := by decide
@[simp] theorem ixN_41 : ixN 4 1 = some 1 := by decide
@[simp] theorem ixN_42 : ixN 4 2 = some 2 := by decide
@[simp] theorem ixN_43 : ixN 4 3 = some 3 := by decide
end
/-- what a value is, as far as a list's address is told -/
def Known (L : DH) : D → Prop
  | .ref a => ∃ xs, L a = some (.lst xs)
  | _ => True
theorem endOf {Q : DK} {L : DH} {d : D} (q : Q d L) : ∃ L2, Le L2 L ∧ Q d L2 := ⟨L, Le.refl, q⟩
theorem endX {E : XD} {L : DH} {n : Str} {fs : List (Str × D)} (q : E n fs L) : ∃ L2, Le L2 L ∧ E n fs L2 := ⟨L, Le.refl, q⟩
/-! ### a draw's list: what lies beside it -/
def Out (L : DH) (a c : Addr) : Prop := c ≠ a ∧ ∀ xs, L a = some (.lst xs) → ∀ d, d ∈ xs → d ≠ .ref c
def Fra (a : Addr) (L L' : DH) : Prop := ∀ c o, L c = some o → Out L a c → L' c = some o ∧ Out L' a c
theorem Fra.refl {a : Addr} {L : DH} : Fra a L L := fun _ _ h o => ⟨h, o⟩
theorem Fra.trans {a : Addr} {L L1 L2 : DH} (x : Fra a L L1) (y : Fra a L1 L2) : Fra a L L2 := fun c o h q => let ⟨h1, q1⟩ := x c o h q; y c o h1 q1
theorem fresh_ne {L : DH} {a p : Addr} {o : DO} (h : L a = some o) (hp : L p = none) : a ≠ p := by rintro rfl; rw [hp] at h; cases h
section
variable {Q : DK} {E : XD} {s : DSt} {L : DH} {d : D} {n : Str} {fs : List (Str × D)}
theorem fnE_nx : (fnEnds Q E).nx s L = ∃ L2, Le L2 L ∧ Q .non L2 := rfl
theorem fnE_rt : (fnEnds Q E).rt d L = ∃ L2, Le L2 L ∧ Q d L2 := rfl
theorem fnE_ex : (fnEnds Q E).ex n fs s L = ∃ L2, Le L2 L ∧ E n fs L2 := rfl
theorem Fra.new {a p : Addr} {L : DH} {o u : DO} (h : L a = some u) (hp : L p = none) : Fra a L (upd L p o) := fun c v hc hout =>
  ⟨by rw [updD_ne (fresh_ne hc hp)]; exact hc, hout.1, fun xs e d hd => hout.2 xs (by rw [← e, updD_ne (fresh_ne h hp)]) d hd⟩
end
end D2

set_option Elab.async false
set_option linter.all false
set_option maxRecDepth 100000
set_option maxHeartbeats 1000000
namespace D2
open PySem PySem.Spec PyProof.Rows L2
def top (i : Nat) : Stmt := PySem.Challenge.pw_callgames_k35_marks_of_a_player.main.body.getD i (.Pass ⟨0, 0, 0, 0⟩)
abbrev s_is_int : Stmt := top 5
theorem sc_is_int : FnScope ["thing"] ["thing"] (defScope s_is_int) := ⟨rfl, rfl, rfl, by decide +kernel, rfl, by decide +kernel, by decide +kernel⟩
abbrev s_within : Stmt := top 6
theorem sc_within : FnScope ["thing", "low", "high"] ["thing", "low", "high"] (defScope s_within) := ⟨rfl, rfl, rfl, by decide +kernel, rfl, by decide +kernel, by decide +kernel⟩
abbrev s_need_player : Stmt := top 9
theorem sc_need_player : FnScope ["player"] ["player"] (defScope s_need_player) := ⟨rfl, rfl, rfl, by decide +kernel, rfl, by decide +kernel, by decide +kernel⟩
abbrev s_need_mark : Stmt := top 10
theorem sc_need_mark : FnScope ["mark"] ["mark"] (defScope s_need_mark) := ⟨rfl, rfl, rfl, by decide +kernel, rfl, by decide +kernel, by decide +kernel⟩
abbrev s_score : Stmt := top 11
theorem sc_score : FnScope ["player", "mark"] ["player", "mark"] (defScope s_score) := ⟨rfl, rfl, rfl, by decide +kernel, rfl, by decide +kernel, by decide +kernel⟩
abbrev s_better : Stmt := top 12
theorem sc_better : FnScope ["player", "a", "b"] ["player", "a", "b"] (defScope s_better) := ⟨rfl, rfl, rfl, by decide +kernel, rfl, by decide +kernel, by decide +kernel⟩
abbrev s__law_is : Stmt := top 14
theorem sc__law_is : FnScope ["told", "due"] ["told", "due"] (defScope s__law_is) := ⟨rfl, rfl, rfl, by decide +kernel, rfl, by decide +kernel, by decide +kernel⟩
abbrev s__law_well : Stmt := top 15
theorem sc__law_well : FnScope ["script", "cell"] ["script"] (defScope s__law_well) := ⟨rfl, rfl, rfl, by decide +kernel, rfl, by decide +kernel, by decide +kernel⟩
abbrev s__law_draw : Stmt := top 16
theorem sc__law_draw : FnScope ["well", "many", "cell", "value", "found"] ["well", "many"] (defScope s__law_draw) := ⟨rfl, rfl, rfl, by decide +kernel, rfl, by decide +kernel, by decide +kernel⟩
abbrev s__law_value : Stmt := top 17
theorem sc__law_value : FnScope ["player", "mark", "order"] ["player", "mark"] (defScope s__law_value) := ⟨rfl, rfl, rfl, by decide +kernel, rfl, by decide +kernel, by decide +kernel⟩
abbrev s__law_good : Stmt := top 18
theorem sc__law_good : FnScope ["player", "one", "other"] ["player", "one", "other"] (defScope s__law_good) := ⟨rfl, rfl, rfl, by decide +kernel, rfl, by decide +kernel, by decide +kernel⟩
abbrev s__law_refusal : Stmt := top 19
theorem sc__law_refusal : FnScope ["player", "one", "other", "found"] ["player", "one", "other"] (defScope s__law_refusal) := ⟨rfl, rfl, rfl, by decide +kernel, rfl, by decide +kernel, by decide +kernel⟩
abbrev s__law_pairs_right : Stmt := top 20
theorem sc__law_pairs_right : FnScope ["player", "third", "one", "other", "told"] ["player", "third"] (defScope s__law_pairs_right) := ⟨rfl, rfl, rfl, by decide +kernel, rfl, by decide +kernel, by decide +kernel⟩
abbrev s__law_ring_right : Stmt := top 21
theorem sc__law_ring_right : FnScope ["well", "player", "ring", "other", "mark", "better_ones", "k", "m"] ["well", "player"] (defScope s__law_ring_right) := ⟨rfl, rfl, rfl, by decide +kernel, rfl, by decide +kernel, by decide +kernel⟩
abbrev s_law : Stmt := top 22
theorem sc_law : FnScope ["script", "well", "player", "bad_player", "bad_mark", "mark"] ["script"] (defScope s_law) := ⟨rfl, rfl, rfl, by decide +kernel, rfl, by decide +kernel, by decide +kernel⟩

def isInt : D → Bool
  | .int _ => true
  | _ => false
def wthn (d : D) (i j : Int) : Bool := match d with
  | .int x => decide (i ≤ x ∧ x ≤ j)
  | _ => false
def sp_is_int : SpD := fun ds L Q _ => ∃ d, ds = [d] ∧ Known L d ∧ Q (.bl (isInt d)) L
theorem len_is_int : ∀ as L Q E, sp_is_int as L Q E → as.length = 1 := by rintro _ L Q E ⟨d, rfl, _⟩; rfl
def d_is_int : DS :=
  (sRet (dAndV (dIsi .int (dVar 0)) (dNotV (dIsi .bool (dVar 0)))))

theorem pure_is_int : ∀ as L Q E, sp_is_int as L Q E → d_is_int (fnEnds Q E) (dstart 1 as) L := by
  rintro as L Q E ⟨d, rfl, hk, q⟩
  have q' := endOf q
  cases d with
  | ref a =>
    obtain ⟨xs, hk⟩ := hk
    simp only [d_is_int, hk, dVar, dC, dOp, dUn, dNil, dCons, dTup, dLst, dCB, dTest, dAnd, dOr, dNot, dAndV, dOrV, dNotV, dIfE, dChain, sNext, sSeq, sBreak, sCont, sDrop, sRet, sRetN, sIf, gdName, gdNil, gdCons, gdTup, gdSub, sAsg, dCall, xOf, sFor, dSeq, dRng1, dRng2, dI, dI0, dB0, dAdd, dIsN, dNotN, isNon, dIx, dSetL, dNeg, one, two, dLen1, dListOf1, dTupOf1, dAbs1, dIntOf1, dII, marg, dAppend1, dExtend1, dIsi, isA, dSl, dPart, dNoPart, dCut, dLc, dYes, sRaise, sTry, exBy, sPar2, sPar3, dIsBl, dNotBl, dBM, dBM0, dEq, dNe, dIn, dstart, fnE_nx, fnE_rt, fnE_ex, Nat.zero_le, Nat.reduceLeDiff, decide_true, decide_false, true_or, or_true, false_or, or_false, decide_eq_true_eq, exists_eq_left', exists_eq_left, exists_eq_right, exists_eq_right', Option.some.injEq, List.cons.injEq, D.int.injEq, D.bl.injEq, D.str.injEq, D.tup.injEq, D.lro.injEq, D.ref.injEq, DO.lst.injEq, and_true, true_and, and_false, false_and, exists_false, exists_const, List.getElem?_cons_zero, List.getElem?_cons_succ, List.map_cons, List.map_nil, List.length_cons, List.length_nil, List.replicate_zero, List.replicate_succ, List.append_nil, List.cons_append, List.nil_append, List.set_cons_zero, List.set_cons_succ, Nat.reduceAdd, Nat.reduceSub, Nat.zero_add, reduceIte, Bool.false_eq_true, reduceCtorEq, if_true, if_false, Bool.not_true, Bool.not_false, exists_and_left]
    exact q'
  | _ =>
    simp only [d_is_int, dVar, dC, dOp, dUn, dNil, dCons, dTup, dLst, dCB, dTest, dAnd, dOr, dNot, dAndV, dOrV, dNotV, dIfE, dChain, sNext, sSeq, sBreak, sCont, sDrop, sRet, sRetN, sIf, gdName, gdNil, gdCons, gdTup, gdSub, sAsg, dCall, xOf, sFor, dSeq, dRng1, dRng2, dI, dI0, dB0, dAdd, dIsN, dNotN, isNon, dIx, dSetL, dNeg, one, two, dLen1, dListOf1, dTupOf1, dAbs1, dIntOf1, dII, marg, dAppend1, dExtend1, dIsi, isA, dSl, dPart, dNoPart, dCut, dLc, dYes, sRaise, sTry, exBy, sPar2, sPar3, dIsBl, dNotBl, dBM, dBM0, dEq, dNe, dIn, dstart, fnE_nx, fnE_rt, fnE_ex, Nat.zero_le, Nat.reduceLeDiff, decide_true, decide_false, true_or, or_true, false_or, or_false, decide_eq_true_eq, exists_eq_left', exists_eq_left, exists_eq_right, exists_eq_right', Option.some.injEq, List.cons.injEq, D.int.injEq, D.bl.injEq, D.str.injEq, D.tup.injEq, D.lro.injEq, D.ref.injEq, DO.lst.injEq, and_true, true_and, and_false, false_and, exists_false, exists_const, List.getElem?_cons_zero, List.getElem?_cons_succ, List.map_cons, List.map_nil, List.length_cons, List.length_nil, List.replicate_zero, List.replicate_succ, List.append_nil, List.cons_append, List.nil_append, List.set_cons_zero, List.set_cons_succ, Nat.reduceAdd, Nat.reduceSub, Nat.zero_add, reduceIte, Bool.false_eq_true, reduceCtorEq, if_true, if_false, Bool.not_true, Bool.not_false, exists_and_left]
    exact q'
theorem ok_is_int {P : Program} {w : World} {K : PySem.W.Frag} {mg : Str → Option Value} {base : Heap} (D : DefAt K mg "is_int" s_is_int) (z_isinstance : mg "isinstance" = none) (z_int : mg "int" = none) (z_bool : mg "bool" = none) : Ok P w K mg base "is_int" (1) ["thing"] sp_is_int := by
  obtain ⟨f, fd, gm, F⟩ := D.ex
  refine ⟨f, fd, Fun.okD (k := 1 - 1) F sc_is_int (len_is_int ) (pure_is_int ) (fun cdv A outer s H E hr => ?_), gm, F.kp, F.binds (ps := ["thing"]) (fun _ _ _ _ _ _ us hl => match us, hl with | [_], _ => rfl), F.lk⟩
  have nd := sc_is_int.nd
  exact (qss_one (qs_ret (qe_and (q_isi .int z_isinstance z_int (by decide +kernel) (qv 0)) (qe_one (qe_not (q_isi .bool z_isinstance z_bool (by decide +kernel) (qv 0)))))))

def sp_within : SpD := fun ds L Q _ => ∃ d i j, ds = [d, .int i, .int j] ∧ Known L d ∧ Q (.bl (wthn d i j)) L
theorem len_within : ∀ as L Q E, sp_within as L Q E → as.length = 3 := by rintro _ L Q E ⟨d, i, j, rfl, _⟩; rfl
def d_within : DS :=
  (sRet (dAndV (dCall sp_is_int (dCons (dVar 0) dNil)) (dChain dLe dLe (dVar 1) (dVar 0) (dVar 2))))

theorem pure_within : ∀ as L Q E, sp_within as L Q E → d_within (fnEnds Q E) (dstart 3 as) L := by
  rintro as L Q E ⟨d, i, j, rfl, hk, q⟩
  have q' := endOf q
  simp only [d_within, sp_is_int, dVar, dC, dOp, dUn, dNil, dCons, dTup, dLst, dCB, dTest, dAnd, dOr, dNot, dAndV, dOrV, dNotV, dIfE, dChain, sNext, sSeq, sBreak, sCont, sDrop, sRet, sRetN, sIf, gdName, gdNil, gdCons, gdTup, gdSub, sAsg, dCall, xOf, sFor, dSeq, dRng1, dRng2, dI, dI0, dB0, dAdd, dIsN, dNotN, isNon, dIx, dSetL, dNeg, one, two, dLen1, dListOf1, dTupOf1, dAbs1, dIntOf1, dII, marg, dAppend1, dExtend1, dIsi, isA, dSl, dPart, dNoPart, dCut, dLc, dYes, sRaise, sTry, exBy, sPar2, sPar3, dIsBl, dNotBl, dBM, dBM0, dEq, dNe, dIn, dstart, fnE_nx, fnE_rt, fnE_ex, Nat.zero_le, Nat.reduceLeDiff, decide_true, decide_false, true_or, or_true, false_or, or_false, decide_eq_true_eq, exists_eq_left', exists_eq_left, exists_eq_right, exists_eq_right', Option.some.injEq, List.cons.injEq, D.int.injEq, D.bl.injEq, D.str.injEq, D.tup.injEq, D.lro.injEq, D.ref.injEq, DO.lst.injEq, and_true, true_and, and_false, false_and, exists_false, exists_const, List.getElem?_cons_zero, List.getElem?_cons_succ, List.map_cons, List.map_nil, List.length_cons, List.length_nil, List.replicate_zero, List.replicate_succ, List.append_nil, List.cons_append, List.nil_append, List.set_cons_zero, List.set_cons_succ, Nat.reduceAdd, Nat.reduceSub, Nat.zero_add, reduceIte, Bool.false_eq_true, reduceCtorEq, if_true, if_false, Bool.not_true, Bool.not_false, exists_and_left]
  refine ⟨hk, ?_⟩
  cases d with
  | int x =>
    simp only [isInt, dVar, dC, dOp, dUn, dNil, dCons, dTup, dLst, dCB, dTest, dAnd, dOr, dNot, dAndV, dOrV, dNotV, dIfE, dChain, sNext, sSeq, sBreak, sCont, sDrop, sRet, sRetN, sIf, gdName, gdNil, gdCons, gdTup, gdSub, sAsg, dCall, xOf, sFor, dSeq, dRng1, dRng2, dI, dI0, dB0, dAdd, dIsN, dNotN, isNon, dIx, dSetL, dNeg, one, two, dLen1, dListOf1, dTupOf1, dAbs1, dIntOf1, dII, marg, dAppend1, dExtend1, dIsi, isA, dSl, dPart, dNoPart, dCut, dLc, dYes, sRaise, sTry, exBy, sPar2, sPar3, dIsBl, dNotBl, dBM, dBM0, dEq, dNe, dIn, dstart, fnE_nx, fnE_rt, fnE_ex, Nat.zero_le, Nat.reduceLeDiff, decide_true, decide_false, true_or, or_true, false_or, or_false, decide_eq_true_eq, exists_eq_left', exists_eq_left, exists_eq_right, exists_eq_right', Option.some.injEq, List.cons.injEq, D.int.injEq, D.bl.injEq, D.str.injEq, D.tup.injEq, D.lro.injEq, D.ref.injEq, DO.lst.injEq, and_true, true_and, and_false, false_and, exists_false, exists_const, List.getElem?_cons_zero, List.getElem?_cons_succ, List.map_cons, List.map_nil, List.length_cons, List.length_nil, List.replicate_zero, List.replicate_succ, List.append_nil, List.cons_append, List.nil_append, List.set_cons_zero, List.set_cons_succ, Nat.reduceAdd, Nat.reduceSub, Nat.zero_add, reduceIte, Bool.false_eq_true, reduceCtorEq, if_true, if_false, Bool.not_true, Bool.not_false, exists_and_left]
    by_cases h : i ≤ x
    · rw [if_pos h]
      simpa [wthn, h] using q'
    · rw [if_neg h]
      simpa [wthn, h] using q'
  | _ => simpa [isInt, wthn] using q'
theorem ok_within {P : Program} {w : World} {K : PySem.W.Frag} {mg : Str → Option Value} {base : Heap} (D : DefAt K mg "within" s_within) (o_is_int : Ok P w K mg base "is_int" (1) ["thing"] sp_is_int) : Ok P w K mg base "within" (2) ["thing", "low", "high"] sp_within := by
  obtain ⟨f, fd, gm, F⟩ := D.ex
  refine ⟨f, fd, Fun.okD (k := 2 - 1) F sc_within (len_within ) (pure_within ) (fun cdv A outer s H E hr => ?_), gm, F.kp, F.binds (ps := ["thing", "low", "high"]) (fun _ _ _ _ _ _ us hl => match us, hl with | [_, _, _], _ => rfl), F.lk⟩
  have nd := sc_within.nd
  have tk : Takes (cxOf (L2.CX P w) P w K mg base ["thing", "low", "high"] "within" (defScope s_within) f cdv A outer s H E) (wE E) := takes_of rfl rfl rfl rfl
  exact (qss_one (qs_ret (qe_and (q_callO o_is_int (hr.mono (by omega)) tk (qa_cons (qv 0) qa_nil)) (qe_one (q_chain op_le op_le opd_B0 opd_B0 (qv 1) (qv 0) (qv 2))))))

def sp_need_player : SpD := fun ds L Q E => ∃ d, ds = [d] ∧ Known L d ∧ (wthn d 0 1 = true → Q .non L) ∧ (wthn d 0 1 = false → E "BadPlayer" [] L)
theorem len_need_player : ∀ as L Q E, sp_need_player as L Q E → as.length = 1 := by rintro _ L Q E ⟨d, rfl, _⟩; rfl
def d_need_player : DS :=
  (sIf (dNot (dTest (dCall sp_within (dCons (dVar 0) (dCons (dC (.int 0)) (dCons (dC (.int 1)) dNil)))))) (sRaise "BadPlayer") sNext)

theorem pure_need_player : ∀ as L Q E, sp_need_player as L Q E → d_need_player (fnEnds Q E) (dstart 1 as) L := by
  rintro as L Q E ⟨d, rfl, hk, q1, q2⟩
  simp only [d_need_player, sp_within, dVar, dC, dOp, dUn, dNil, dCons, dTup, dLst, dCB, dTest, dAnd, dOr, dNot, dAndV, dOrV, dNotV, dIfE, dChain, sNext, sSeq, sBreak, sCont, sDrop, sRet, sRetN, sIf, gdName, gdNil, gdCons, gdTup, gdSub, sAsg, dCall, xOf, sFor, dSeq, dRng1, dRng2, dI, dI0, dB0, dAdd, dIsN, dNotN, isNon, dIx, dSetL, dNeg, one, two, dLen1, dListOf1, dTupOf1, dAbs1, dIntOf1, dII, marg, dAppend1, dExtend1, dIsi, isA, dSl, dPart, dNoPart, dCut, dLc, dYes, sRaise, sTry, exBy, sPar2, sPar3, dIsBl, dNotBl, dBM, dBM0, dEq, dNe, dIn, dstart, fnE_nx, fnE_rt, fnE_ex, Nat.zero_le, Nat.reduceLeDiff, decide_true, decide_false, true_or, or_true, false_or, or_false, decide_eq_true_eq, exists_eq_left', exists_eq_left, exists_eq_right, exists_eq_right', Option.some.injEq, List.cons.injEq, D.int.injEq, D.bl.injEq, D.str.injEq, D.tup.injEq, D.lro.injEq, D.ref.injEq, DO.lst.injEq, and_true, true_and, and_false, false_and, exists_false, exists_const, List.getElem?_cons_zero, List.getElem?_cons_succ, List.map_cons, List.map_nil, List.length_cons, List.length_nil, List.replicate_zero, List.replicate_succ, List.append_nil, List.cons_append, List.nil_append, List.set_cons_zero, List.set_cons_succ, Nat.reduceAdd, Nat.reduceSub, Nat.zero_add, reduceIte, Bool.false_eq_true, reduceCtorEq, if_true, if_false, Bool.not_true, Bool.not_false, exists_and_left]
  refine ⟨d, 0, 1, ⟨rfl, rfl, rfl⟩, hk, ?_⟩
  cases h : wthn d 0 1 with
  | true => exact endOf (q1 h)
  | false => exact endX (q2 h)
theorem ok_need_player {P : Program} {w : World} {K : PySem.W.Frag} {mg : Str → Option Value} {base : Heap} (D : DefAt K mg "need_player" s_need_player) (o_within : Ok P w K mg base "within" (2) ["thing", "low", "high"] sp_within) (x_BadPlayer : ExcOk K mg "BadPlayer") : Ok P w K mg base "need_player" (3) ["player"] sp_need_player := by
  obtain ⟨f, fd, gm, F⟩ := D.ex
  refine ⟨f, fd, Fun.okD (k := 3 - 1) F sc_need_player (len_need_player ) (pure_need_player ) (fun cdv A outer s H E hr => ?_), gm, F.kp, F.binds (ps := ["player"]) (fun _ _ _ _ _ _ us hl => match us, hl with | [_], _ => rfl), F.lk⟩
  have nd := sc_need_player.nd
  have tk : Takes (cxOf (L2.CX P w) P w K mg base ["player"] "need_player" (defScope s_need_player) f cdv A outer s H E) (wE E) := takes_of rfl rfl rfl rfl
  exact (qss_one (qs_if (qt_not (qt_val (q_callO o_within (hr.mono (by omega)) tk (qa_cons (qv 0) (qa_cons q_int (qa_cons q_int qa_nil)))))) (qss_one (qs_raise rfl tk x_BadPlayer)) qss_nil))

def sp_need_mark : SpD := fun ds L Q E => ∃ d, ds = [d] ∧ Known L d ∧ (wthn d 0 9 = true → Q .non L) ∧ (wthn d 0 9 = false → E "BadMark" [] L)
theorem len_need_mark : ∀ as L Q E, sp_need_mark as L Q E → as.length = 1 := by rintro _ L Q E ⟨d, rfl, _⟩; rfl
def d_need_mark : DS :=
  (sIf (dNot (dTest (dCall sp_within (dCons (dVar 0) (dCons (dC (.int 0)) (dCons (dC (.int 9)) dNil)))))) (sRaise "BadMark") sNext)

theorem pure_need_mark : ∀ as L Q E, sp_need_mark as L Q E → d_need_mark (fnEnds Q E) (dstart 1 as) L := by
  rintro as L Q E ⟨d, rfl, hk, q1, q2⟩
  simp only [d_need_mark, sp_within, dVar, dC, dOp, dUn, dNil, dCons, dTup, dLst, dCB, dTest, dAnd, dOr, dNot, dAndV, dOrV, dNotV, dIfE, dChain, sNext, sSeq, sBreak, sCont, sDrop, sRet, sRetN, sIf, gdName, gdNil, gdCons, gdTup, gdSub, sAsg, dCall, xOf, sFor, dSeq, dRng1, dRng2, dI, dI0, dB0, dAdd, dIsN, dNotN, isNon, dIx, dSetL, dNeg, one, two, dLen1, dListOf1, dTupOf1, dAbs1, dIntOf1, dII, marg, dAppend1, dExtend1, dIsi, isA, dSl, dPart, dNoPart, dCut, dLc, dYes, sRaise, sTry, exBy, sPar2, sPar3, dIsBl, dNotBl, dBM, dBM0, dEq, dNe, dIn, dstart, fnE_nx, fnE_rt, fnE_ex, Nat.zero_le, Nat.reduceLeDiff, decide_true, decide_false, true_or, or_true, false_or, or_false, decide_eq_true_eq, exists_eq_left', exists_eq_left, exists_eq_right, exists_eq_right', Option.some.injEq, List.cons.injEq, D.int.injEq, D.bl.injEq, D.str.injEq, D.tup.injEq, D.lro.injEq, D.ref.injEq, DO.lst.injEq, and_true, true_and, and_false, false_and, exists_false, exists_const, List.getElem?_cons_zero, List.getElem?_cons_succ, List.map_cons, List.map_nil, List.length_cons, List.length_nil, List.replicate_zero, List.replicate_succ, List.append_nil, List.cons_append, List.nil_append, List.set_cons_zero, List.set_cons_succ, Nat.reduceAdd, Nat.reduceSub, Nat.zero_add, reduceIte, Bool.false_eq_true, reduceCtorEq, if_true, if_false, Bool.not_true, Bool.not_false, exists_and_left]
  refine ⟨d, 0, 9, ⟨rfl, rfl, rfl⟩, hk, ?_⟩
  cases h : wthn d 0 9 with
  | true => exact endOf (q1 h)
  | false => exact endX (q2 h)
theorem ok_need_mark {P : Program} {w : World} {K : PySem.W.Frag} {mg : Str → Option Value} {base : Heap} (D : DefAt K mg "need_mark" s_need_mark) (c_GREATEST_MARK : ConstOk K mg "GREATEST_MARK" (.int 9)) (o_within : Ok P w K mg base "within" (2) ["thing", "low", "high"] sp_within) (x_BadMark : ExcOk K mg "BadMark") : Ok P w K mg base "need_mark" (3) ["mark"] sp_need_mark := by
  obtain ⟨f, fd, gm, F⟩ := D.ex
  refine ⟨f, fd, Fun.okD (k := 3 - 1) F sc_need_mark (len_need_mark ) (pure_need_mark ) (fun cdv A outer s H E hr => ?_), gm, F.kp, F.binds (ps := ["mark"]) (fun _ _ _ _ _ _ us hl => match us, hl with | [_], _ => rfl), F.lk⟩
  have nd := sc_need_mark.nd
  have tk : Takes (cxOf (L2.CX P w) P w K mg base ["mark"] "need_mark" (defScope s_need_mark) f cdv A outer s H E) (wE E) := takes_of rfl rfl rfl rfl
  exact (qss_one (qs_if (qt_not (qt_val (q_callO o_within (hr.mono (by omega)) tk (qa_cons (qv 0) (qa_cons q_int (qa_cons (q_cst c_GREATEST_MARK) qa_nil)))))) (qss_one (qs_raise rfl tk x_BadMark)) qss_nil))

def scr (p m : Int) : Int := if m % 2 = p then m + 1 else -(m + 1)
def sp_score : SpD := fun ds L Q _ => ∃ p m, ds = [.int p, .int m] ∧ Q (.int (scr p m)) L
theorem len_score : ∀ as L Q E, sp_score as L Q E → as.length = 2 := by rintro _ L Q E ⟨p, m, rfl, _⟩; rfl
def d_score : DS :=
  (sRet (dIfE (dTest (dOp dEq (dOp dMod (dVar 1) (dC (.int 2))) (dVar 0))) (dOp dAdd (dVar 1) (dC (.int 1))) (dUn dNeg (dOp dAdd (dVar 1) (dC (.int 1))))))

theorem pure_score : ∀ as L Q E, sp_score as L Q E → d_score (fnEnds Q E) (dstart 2 as) L := by
  rintro as L Q E ⟨p, m, rfl, q⟩
  have q' := endOf q
  simp only [d_score, eqD_int, dVar, dC, dOp, dUn, dNil, dCons, dTup, dLst, dCB, dTest, dAnd, dOr, dNot, dAndV, dOrV, dNotV, dIfE, dChain, sNext, sSeq, sBreak, sCont, sDrop, sRet, sRetN, sIf, gdName, gdNil, gdCons, gdTup, gdSub, sAsg, dCall, xOf, sFor, dSeq, dRng1, dRng2, dI, dI0, dB0, dAdd, dIsN, dNotN, isNon, dIx, dSetL, dNeg, one, two, dLen1, dListOf1, dTupOf1, dAbs1, dIntOf1, dII, marg, dAppend1, dExtend1, dIsi, isA, dSl, dPart, dNoPart, dCut, dLc, dYes, sRaise, sTry, exBy, sPar2, sPar3, dIsBl, dNotBl, dBM, dBM0, dEq, dNe, dIn, dstart, fnE_nx, fnE_rt, fnE_ex, Nat.zero_le, Nat.reduceLeDiff, decide_true, decide_false, true_or, or_true, false_or, or_false, decide_eq_true_eq, exists_eq_left', exists_eq_left, exists_eq_right, exists_eq_right', Option.some.injEq, List.cons.injEq, D.int.injEq, D.bl.injEq, D.str.injEq, D.tup.injEq, D.lro.injEq, D.ref.injEq, DO.lst.injEq, and_true, true_and, and_false, false_and, exists_false, exists_const, List.getElem?_cons_zero, List.getElem?_cons_succ, List.map_cons, List.map_nil, List.length_cons, List.length_nil, List.replicate_zero, List.replicate_succ, List.append_nil, List.cons_append, List.nil_append, List.set_cons_zero, List.set_cons_succ, Nat.reduceAdd, Nat.reduceSub, Nat.zero_add, reduceIte, Bool.false_eq_true, reduceCtorEq, if_true, if_false, Bool.not_true, Bool.not_false, exists_and_left]
  refine ⟨by decide, ?_⟩
  by_cases h : m % 2 = p
  · simpa [scr, h] using q'
  · simpa [scr, h] using q'
theorem ok_score {P : Program} {w : World} {K : PySem.W.Frag} {mg : Str → Option Value} {base : Heap} (D : DefAt K mg "score" s_score)  : Ok P w K mg base "score" (1) ["player", "mark"] sp_score := by
  obtain ⟨f, fd, gm, F⟩ := D.ex
  refine ⟨f, fd, Fun.okD (k := 1 - 1) F sc_score (len_score ) (pure_score ) (fun cdv A outer s H E hr => ?_), gm, F.kp, F.binds (ps := ["player", "mark"]) (fun _ _ _ _ _ _ us hl => match us, hl with | [_, _], _ => rfl), F.lk⟩
  have nd := sc_score.nd
  have hu := hr.units
  exact (qss_one (qs_ret (qe_if (qt_cmp (op_eqD hu) opd_eq (q_op op_mod opd_I (qv 1) q_int) (qv 0) (nomark _)) (q_op op_addAll opd_add (qv 1) q_int) (q_un un_neg und_neg (q_op op_addAll opd_add (qv 1) q_int)))))

theorem wthn_int {d : D} {i j : Int} (h : wthn d i j = true) : ∃ x, d = .int x ∧ i ≤ x ∧ x ≤ j := by
  cases d with
  | int x => exact ⟨x, rfl, of_decide_eq_true h⟩
  | _ => cases h
def sp_better : SpD := fun ds L Q E => ∃ d a b, ds = [d, a, b] ∧ Known L d ∧ Known L a ∧ Known L b ∧ (wthn d 0 1 = false → E "BadPlayer" [] L) ∧
  (wthn d 0 1 = true → (wthn a 0 9 = false ∨ wthn b 0 9 = false → E "BadMark" [] L) ∧
    ∀ p x y : Int, d = .int p → a = .int x → b = .int y → 0 ≤ p → p ≤ 1 → 0 ≤ x → x ≤ 9 → 0 ≤ y → y ≤ 9 → Q (.bl (decide (scr p y ≤ scr p x))) L)
theorem len_better : ∀ as L Q E, sp_better as L Q E → as.length = 3 := by rintro _ L Q E ⟨d, a, b, rfl, _⟩; rfl
def d_better_t3 : DS :=
  (sRet (dOp dGe (dCall sp_score (dCons (dVar 0) (dCons (dVar 1) dNil))) (dCall sp_score (dCons (dVar 0) (dCons (dVar 2) dNil)))))
def d_better_t2 : DS :=
  (sSeq (sDrop (dCall sp_need_mark (dCons (dVar 2) dNil))) d_better_t3)
def d_better_t1 : DS :=
  (sSeq (sDrop (dCall sp_need_mark (dCons (dVar 1) dNil))) d_better_t2)
def d_better : DS :=
  (sSeq (sDrop (dCall sp_need_player (dCons (dVar 0) dNil))) d_better_t1)

theorem pure_better : ∀ as L Q E, sp_better as L Q E → d_better (fnEnds Q E) (dstart 3 as) L := by
  rintro as L Q E ⟨d, a, b, rfl, hd, ha, hb, q1, q2⟩
  simp only [d_better, d_better_t3, d_better_t2, d_better_t1, sp_need_player, sp_need_mark, sp_score, dVar, dC, dOp, dUn, dNil, dCons, dTup, dLst, dCB, dTest, dAnd, dOr, dNot, dAndV, dOrV, dNotV, dIfE, dChain, sNext, sSeq, sBreak, sCont, sDrop, sRet, sRetN, sIf, gdName, gdNil, gdCons, gdTup, gdSub, sAsg, dCall, xOf, sFor, dSeq, dRng1, dRng2, dI, dI0, dB0, dAdd, dIsN, dNotN, isNon, dIx, dSetL, dNeg, one, two, dLen1, dListOf1, dTupOf1, dAbs1, dIntOf1, dII, marg, dAppend1, dExtend1, dIsi, isA, dSl, dPart, dNoPart, dCut, dLc, dYes, sRaise, sTry, exBy, sPar2, sPar3, dIsBl, dNotBl, dBM, dBM0, dEq, dNe, dIn, dstart, fnE_nx, fnE_rt, fnE_ex, Nat.zero_le, Nat.reduceLeDiff, decide_true, decide_false, true_or, or_true, false_or, or_false, decide_eq_true_eq, exists_eq_left', exists_eq_left, exists_eq_right, exists_eq_right', Option.some.injEq, List.cons.injEq, D.int.injEq, D.bl.injEq, D.str.injEq, D.tup.injEq, D.lro.injEq, D.ref.injEq, DO.lst.injEq, and_true, true_and, and_false, false_and, exists_false, exists_const, List.getElem?_cons_zero, List.getElem?_cons_succ, List.map_cons, List.map_nil, List.length_cons, List.length_nil, List.replicate_zero, List.replicate_succ, List.append_nil, List.cons_append, List.nil_append, List.set_cons_zero, List.set_cons_succ, Nat.reduceAdd, Nat.reduceSub, Nat.zero_add, reduceIte, Bool.false_eq_true, reduceCtorEq, if_true, if_false, Bool.not_true, Bool.not_false, exists_and_left]
  refine ⟨hd, fun h => ?_, fun h => endX (q1 h)⟩
  obtain ⟨q2, q3⟩ := q2 h
  refine ⟨ha, fun h2 => ⟨hb, fun h3 => ?_, fun h3 => endX (q2 (.inr h3))⟩, fun h2 => endX (q2 (.inl h2))⟩
  obtain ⟨p, rfl, p1, p2⟩ := wthn_int h
  obtain ⟨x, rfl, x1, x2⟩ := wthn_int h2
  obtain ⟨y, rfl, y1, y2⟩ := wthn_int h3
  have := endOf (q3 p x y rfl rfl rfl p1 p2 x1 x2 y1 y2)
  simp only [dVar, dC, dOp, dUn, dNil, dCons, dTup, dLst, dCB, dTest, dAnd, dOr, dNot, dAndV, dOrV, dNotV, dIfE, dChain, sNext, sSeq, sBreak, sCont, sDrop, sRet, sRetN, sIf, gdName, gdNil, gdCons, gdTup, gdSub, sAsg, dCall, xOf, sFor, dSeq, dRng1, dRng2, dI, dI0, dB0, dAdd, dIsN, dNotN, isNon, dIx, dSetL, dNeg, one, two, dLen1, dListOf1, dTupOf1, dAbs1, dIntOf1, dII, marg, dAppend1, dExtend1, dIsi, isA, dSl, dPart, dNoPart, dCut, dLc, dYes, sRaise, sTry, exBy, sPar2, sPar3, dIsBl, dNotBl, dBM, dBM0, dEq, dNe, dIn, dstart, fnE_nx, fnE_rt, fnE_ex, Nat.zero_le, Nat.reduceLeDiff, decide_true, decide_false, true_or, or_true, false_or, or_false, decide_eq_true_eq, exists_eq_left', exists_eq_left, exists_eq_right, exists_eq_right', Option.some.injEq, List.cons.injEq, D.int.injEq, D.bl.injEq, D.str.injEq, D.tup.injEq, D.lro.injEq, D.ref.injEq, DO.lst.injEq, and_true, true_and, and_false, false_and, exists_false, exists_const, List.getElem?_cons_zero, List.getElem?_cons_succ, List.map_cons, List.map_nil, List.length_cons, List.length_nil, List.replicate_zero, List.replicate_succ, List.append_nil, List.cons_append, List.nil_append, List.set_cons_zero, List.set_cons_succ, Nat.reduceAdd, Nat.reduceSub, Nat.zero_add, reduceIte, Bool.false_eq_true, reduceCtorEq, if_true, if_false, Bool.not_true, Bool.not_false, exists_and_left]
  exact ⟨p, x, ⟨rfl, rfl⟩, p, y, ⟨rfl, rfl⟩, this⟩
theorem ok_better {P : Program} {w : World} {K : PySem.W.Frag} {mg : Str → Option Value} {base : Heap} (D : DefAt K mg "better" s_better) (o_need_player : Ok P w K mg base "need_player" (3) ["player"] sp_need_player) (o_need_mark : Ok P w K mg base "need_mark" (3) ["mark"] sp_need_mark) (o_score : Ok P w K mg base "score" (1) ["player", "mark"] sp_score) : Ok P w K mg base "better" (4) ["player", "a", "b"] sp_better := by
  obtain ⟨f, fd, gm, F⟩ := D.ex
  refine ⟨f, fd, Fun.okD (k := 4 - 1) F sc_better (len_better ) (pure_better ) (fun cdv A outer s H E hr => ?_), gm, F.kp, F.binds (ps := ["player", "a", "b"]) (fun _ _ _ _ _ _ us hl => match us, hl with | [_, _, _], _ => rfl), F.lk⟩
  have nd := sc_better.nd
  have tk : Takes (cxOf (L2.CX P w) P w K mg base ["player", "a", "b"] "better" (defScope s_better) f cdv A outer s H E) (wE E) := takes_of rfl rfl rfl rfl
  exact (qss_cons (qs_expr (q_callO o_need_player (hr.mono (by omega)) tk (qa_cons (qv 0) qa_nil)))
  (qss_cons (qs_expr (q_callO o_need_mark (hr.mono (by omega)) tk (qa_cons (qv 1) qa_nil)))
  (qss_cons (qs_expr (q_callO o_need_mark (hr.mono (by omega)) tk (qa_cons (qv 2) qa_nil)))
  (qss_one (qs_ret (q_cmp op_ge opd_B0 (q_callO o_score (hr.mono (by omega)) tk (qa_cons (qv 0) (qa_cons (qv 1) qa_nil))) (q_callO o_score (hr.mono (by omega)) tk (qa_cons (qv 0) (qa_cons (qv 2) qa_nil))) (nomark _)))))))

def sp_law_is : SpD := fun ds L Q _ => ∃ a b, ds = [.bl a, .bl b] ∧ Q (.bl (if b then a else !a)) L
theorem len_law_is : ∀ as L Q E, sp_law_is as L Q E → as.length = 2 := by rintro _ L Q E ⟨p, m, rfl, _⟩; rfl
def d__law_is : DS :=
  (sRet (dIfE (dTest (dVar 1)) (dOp dIsBl (dVar 0) (dC (.bl true))) (dOp dIsBl (dVar 0) (dC (.bl false)))))

theorem pure_law_is : ∀ as L Q E, sp_law_is as L Q E → d__law_is (fnEnds Q E) (dstart 2 as) L := by
  rintro as L Q E ⟨a, b, rfl, q⟩
  have q' := endOf q
  cases b <;> cases a <;> simpa [d__law_is, dVar, dC, dOp, dUn, dNil, dCons, dTup, dLst, dCB, dTest, dAnd, dOr, dNot, dAndV, dOrV, dNotV, dIfE, dChain, sNext, sSeq, sBreak, sCont, sDrop, sRet, sRetN, sIf, gdName, gdNil, gdCons, gdTup, gdSub, sAsg, dCall, xOf, sFor, dSeq, dRng1, dRng2, dI, dI0, dB0, dAdd, dIsN, dNotN, isNon, dIx, dSetL, dNeg, one, two, dLen1, dListOf1, dTupOf1, dAbs1, dIntOf1, dII, marg, dAppend1, dExtend1, dIsi, isA, dSl, dPart, dNoPart, dCut, dLc, dYes, sRaise, sTry, exBy, sPar2, sPar3, dIsBl, dNotBl, dBM, dBM0, dEq, dNe, dIn, dstart, fnE_nx, fnE_rt, fnE_ex, Nat.zero_le, Nat.reduceLeDiff, decide_true, decide_false, true_or, or_true, false_or, or_false, decide_eq_true_eq, exists_eq_left', exists_eq_left, exists_eq_right, exists_eq_right', Option.some.injEq, List.cons.injEq, D.int.injEq, D.bl.injEq, D.str.injEq, D.tup.injEq, D.lro.injEq, D.ref.injEq, DO.lst.injEq, and_true, true_and, and_false, false_and, exists_false, exists_const, List.getElem?_cons_zero, List.getElem?_cons_succ, List.map_cons, List.map_nil, List.length_cons, List.length_nil, List.replicate_zero, List.replicate_succ, List.append_nil, List.cons_append, List.nil_append, List.set_cons_zero, List.set_cons_succ, Nat.reduceAdd, Nat.reduceSub, Nat.zero_add, reduceIte, Bool.false_eq_true, reduceCtorEq, if_true, if_false, Bool.not_true, Bool.not_false, exists_and_left] using q'
theorem ok__law_is {P : Program} {w : World} {K : PySem.W.Frag} {mg : Str → Option Value} {base : Heap} (D : DefAt K mg "_law_is" s__law_is)  : Ok P w K mg base "_law_is" (1) ["told", "due"] sp_law_is := by
  obtain ⟨f, fd, gm, F⟩ := D.ex
  refine ⟨f, fd, Fun.okD (k := 1 - 1) F sc__law_is (len_law_is ) (pure_law_is ) (fun cdv A outer s H E hr => ?_), gm, F.kp, F.binds (ps := ["told", "due"]) (fun _ _ _ _ _ _ us hl => match us, hl with | [_, _], _ => rfl), F.lk⟩
  have nd := sc__law_is.nd
  exact (qss_one (qs_ret (qe_if (qt_val (qv 1)) (q_cmp op_isBl opd_isBl (qv 0) q_bl (nomark _)) (q_cmp op_isBl opd_isBl (qv 0) q_bl (nomark _)))))

/-! the well -/
structure Well (L : DH) (a : Addr) : Prop where
  ex : ∃ (b : Addr) (cells : List Int) (x y : Int), L a = some (.lst [.ref b, .int x, .int y]) ∧ L b = some (.lst (cells.map .int)) ∧ b ≠ a ∧ 0 ≤ x ∧ 0 ≤ y ∧ y < 2147483647
def sp_law_well : SpD := fun ds L Q _ => ∃ ns : List Int, ds = [.lro (ns.map .int)] ∧ ns.length ≤ 1000 ∧ ∀ a L', Well L' a → Q (.ref a) L'
theorem len_law_well : ∀ as L Q E, sp_law_well as L Q E → as.length = 1 := by rintro _ L Q E ⟨p, rfl, _⟩; rfl
def d__law_well : DS :=
  (sRet (dLst (dCons (dLc (dSeq (dSl dCut (dVar 0) dNoPart (dPart (dC (.int 63))))) (gdName 1) dYes (dCB dIntOf (dCons (dVar 1) dNil)) [1]) (dCons (dC (.int 0)) (dCons (dC (.int 40507)) dNil)))))

theorem cut63 (ns : List Int) : ∃ ms : List Int, cut (ns.map D.int) none (some 63) = ms.map D.int ∧ ms.length ≤ ns.length := by
  refine ⟨cut ns none (some 63), ?_, ?_⟩
  · unfold cut; simp [List.map_take, List.map_drop]
  · unfold cut; simp; omega
theorem pure_law_well : ∀ as L Q E, sp_law_well as L Q E → d__law_well (fnEnds Q E) (dstart 2 as) L := by
  rintro as L Q E ⟨ns, rfl, hl, q⟩
  obtain ⟨ms, e, hm⟩ := cut63 ns
  simp only [d__law_well, e, dVar, dC, dOp, dUn, dNil, dCons, dTup, dLst, dCB, dTest, dAnd, dOr, dNot, dAndV, dOrV, dNotV, dIfE, dChain, sNext, sSeq, sBreak, sCont, sDrop, sRet, sRetN, sIf, gdName, gdNil, gdCons, gdTup, gdSub, sAsg, dCall, xOf, sFor, dSeq, dRng1, dRng2, dI, dI0, dB0, dAdd, dIsN, dNotN, isNon, dIx, dSetL, dNeg, one, two, dLen1, dListOf1, dTupOf1, dAbs1, dIntOf1, dII, marg, dAppend1, dExtend1, dIsi, isA, dSl, dPart, dNoPart, dCut, dLc, dYes, sRaise, sTry, exBy, sPar2, sPar3, dIsBl, dNotBl, dBM, dBM0, dEq, dNe, dIn, dstart, fnE_nx, fnE_rt, fnE_ex, Nat.zero_le, Nat.reduceLeDiff, decide_true, decide_false, true_or, or_true, false_or, or_false, decide_eq_true_eq, exists_eq_left', exists_eq_left, exists_eq_right, exists_eq_right', Option.some.injEq, List.cons.injEq, D.int.injEq, D.bl.injEq, D.str.injEq, D.tup.injEq, D.lro.injEq, D.ref.injEq, DO.lst.injEq, and_true, true_and, and_false, false_and, exists_false, exists_const, List.getElem?_cons_zero, List.getElem?_cons_succ, List.map_cons, List.map_nil, List.length_cons, List.length_nil, List.replicate_zero, List.replicate_succ, List.append_nil, List.cons_append, List.nil_append, List.set_cons_zero, List.set_cons_succ, Nat.reduceAdd, Nat.reduceSub, Nat.zero_add, reduceIte, Bool.false_eq_true, reduceCtorEq, if_true, if_false, Bool.not_true, Bool.not_false, exists_and_left, isSeq]
  intro p hp
  refine ⟨ms.map .int, _, by rw [updD_same], ?_⟩
  refine lcD_pure (fun _ => true) id _ (by rw [updD_same]) _ (fun d hd Kt Kf h1 _ => ?_) [] (by simp; omega) ?_
  · obtain ⟨i, _, rfl⟩ := List.mem_map.mp hd
    simp only [dVar, dC, dOp, dUn, dNil, dCons, dTup, dLst, dCB, dTest, dAnd, dOr, dNot, dAndV, dOrV, dNotV, dIfE, dChain, sNext, sSeq, sBreak, sCont, sDrop, sRet, sRetN, sIf, gdName, gdNil, gdCons, gdTup, gdSub, sAsg, dCall, xOf, sFor, dSeq, dRng1, dRng2, dI, dI0, dB0, dAdd, dIsN, dNotN, isNon, dIx, dSetL, dNeg, one, two, dLen1, dListOf1, dTupOf1, dAbs1, dIntOf1, dII, marg, dAppend1, dExtend1, dIsi, isA, dSl, dPart, dNoPart, dCut, dLc, dYes, sRaise, sTry, exBy, sPar2, sPar3, dIsBl, dNotBl, dBM, dBM0, dEq, dNe, dIn, dstart, fnE_nx, fnE_rt, fnE_ex, Nat.zero_le, Nat.reduceLeDiff, decide_true, decide_false, true_or, or_true, false_or, or_false, decide_eq_true_eq, exists_eq_left', exists_eq_left, exists_eq_right, exists_eq_right', Option.some.injEq, List.cons.injEq, D.int.injEq, D.bl.injEq, D.str.injEq, D.tup.injEq, D.lro.injEq, D.ref.injEq, DO.lst.injEq, and_true, true_and, and_false, false_and, exists_false, exists_const, List.getElem?_cons_zero, List.getElem?_cons_succ, List.map_cons, List.map_nil, List.length_cons, List.length_nil, List.replicate_zero, List.replicate_succ, List.append_nil, List.cons_append, List.nil_append, List.set_cons_zero, List.set_cons_succ, Nat.reduceAdd, Nat.reduceSub, Nat.zero_add, reduceIte, Bool.false_eq_true, reduceCtorEq, if_true, if_false, Bool.not_true, Bool.not_false, exists_and_left, dwipe]
    exact h1 rfl
  · intro b hb
    refine fun a ha => ⟨_, Le.refl, q a _ ⟨b, ms, 0, 40507, updD_same, ?_, ?_, by decide, by decide, by decide⟩⟩
    · rw [updD_ne (fresh_ne updD_same ha), updD_same]; simp
    · exact fresh_ne updD_same ha
theorem ok__law_well {P : Program} {w : World} {K : PySem.W.Frag} {mg : Str → Option Value} {base : Heap} (D : DefAt K mg "_law_well" s__law_well) (z_int : mg "int" = none) : Ok P w K mg base "_law_well" (1) ["script"] sp_law_well := by
  obtain ⟨f, fd, gm, F⟩ := D.ex
  refine ⟨f, fd, Fun.okD (k := 1 - 1) F sc__law_well (len_law_well ) (pure_law_well ) (fun cdv A outer s H E hr => ?_), gm, F.kp, F.binds (ps := ["script"]) (fun _ _ _ _ _ _ us hl => match us, hl with | [_], _ => rfl), F.lk⟩
  have nd := sc__law_well.nd
  exact (qss_one (qs_ret (q_lst (qa_cons (qe_lc (own := [("cell", 1)]) rfl nd (qi_seq (q_slice sl_all slok_all (qv 0) qo_none (qo_some q_int))) (blkOk_by (N := ["script", "cell"]) (sc := defScope s__law_well) (by decide +kernel)) (fun _ _ _ _ _ => (pg_name (i := 1) nd rfl (by first | exact Or.inl rfl | exact Or.inr rfl))) (lgo_name 1) (fun _ _ _ _ _ => qts_nil) (fun _ _ _ _ _ => (q_callTy call_int1 cd_int rfl z_int (by decide +kernel) (qa_cons (qv 1) qa_nil)))) (qa_cons q_int (qa_cons q_int qa_nil))))))

/-- the cells and numbers of the well exchanged -/
theorem well_set {L : DH} {a b : Addr} {cells : List Int} {x y : Int} (h1 : L a = some (.lst [.ref b, .int x, .int y])) (h2 : L b = some (.lst (cells.map .int))) (h3 : b ≠ a) {x' y' : Int} (hx : 0 ≤ x') (hy : 0 ≤ y') (hy2 : y' < 2147483647) :
    Well (upd L a (.lst [.ref b, .int x', .int y'])) a ∧ Fra a L (upd L a (.lst [.ref b, .int x', .int y'])) := by
  refine ⟨⟨b, cells, x', y', updD_same, by rw [updD_ne h3]; exact h2, h3, hx, hy, hy2⟩, fun c o hc hout => ⟨by rw [updD_ne hout.1]; exact hc, hout.1, fun xs e d hd => ?_⟩⟩
  rw [updD_same] at e
  cases e
  have := hout.2 _ h1
  simp at hd this ⊢
  rcases hd with rfl | rfl | rfl
  · simpa using this
  · simp
  · simp
theorem well_cells {L : DH} {a b p : Addr} {cs : List Int} {x y : Int} (h1 : L a = some (.lst [.ref b, .int x, .int y])) (hp : L p = none) :
    let L' := upd (upd L p (.lst (cs.map .int))) a (.lst [.ref p, .int x, .int y])
    L' a = some (.lst [.ref p, .int x, .int y]) ∧ L' p = some (.lst (cs.map .int)) ∧ p ≠ a ∧ Fra a L L' := by
  have hpa : p ≠ a := (fresh_ne h1 hp).symm
  refine ⟨updD_same, by rw [updD_ne hpa, updD_same], hpa, fun c o hc hout => ⟨?_, hout.1, fun xs e d hd => ?_⟩⟩
  · rw [updD_ne hout.1, updD_ne (fresh_ne hc hp)]; exact hc
  · rw [updD_same] at e
    cases e
    have := fresh_ne hc hp
    simp at hd ⊢
    rcases hd with rfl | rfl | rfl
    · simpa using this.symm
    · simp
    · simp
theorem eq_nil_ints {L : DH} {b q : Addr} {cells : List Int} (h : L b = some (.lst (cells.map .int))) (hq : L q = some (.lst [])) : eqD L (.ref b) (.ref q) = some (decide (cells = [])) := by
  rw [eqD_of (by rw [show (60 : Nat) = 59 + 1 from rfl, pyL_ref _ h, optAll_ints]; rfl) (by rw [show (60 : Nat) = 59 + 1 from rfl, pyL_ref _ hq]; rfl)]
  cases cells <;> simp [PyData.eqv, PyData.eqvAll]
theorem atI_ints {ns : List Int} {i : Int} (h0 : 0 ≤ i) (h1 : i < ns.length) : ∃ x, atI (ns.map D.int) i = some (.int x) ∧ x ∈ ns := by
  obtain ⟨d, e, _, hd⟩ := atI_in (xs := ns.map D.int) h0 (by simpa using h1)
  obtain ⟨x, hx, rfl⟩ := List.mem_map.mp hd
  exact ⟨x, e, hx⟩
theorem cut_tl (ns : List Int) : ∃ ms : List Int, cut (ns.map D.int) (some 1) none = ms.map D.int := by
  refine ⟨cut ns (some 1) none, ?_⟩
  unfold cut; simp [List.map_take, List.map_drop]
def sp_law_draw : SpD := fun ds L Q _ => ∃ (a : Addr) (m : Int), ds = [.ref a, .int m] ∧ Well L a ∧ 1 ≤ m ∧ m ≤ 1000000000000 ∧ ∀ r L', 0 ≤ r → r < m → Well L' a → Fra a L L' → Q (.int r) L'
theorem len_law_draw : ∀ as L Q E, sp_law_draw as L Q E → as.length = 2 := by rintro _ L Q E ⟨p, m, rfl, _⟩; rfl
def d__law_draw_t0a3 : DS :=
  (sIf (dTest (dOp dGe (dVar 3) (dOp dPow (dC (.int 10)) (dC (.int 18))))) (sAsg (dVar 3) (gdSub (dVar 0) (dC (.int 1)) dSetL)) (sAsg (dOp dMod (dCB dIntOf (dCons (dOp dAdd (dOp dAdd (dOp dMulI (dOp dIx (dVar 0) (dC (.int 2))) (dC (.int 48271))) (dOp dMulI (dVar 3) (dC (.int 69621)))) (dC (.int 17))) dNil)) (dC (.int 2147483647))) (gdSub (dVar 0) (dC (.int 2)) dSetL)))
def d__law_draw_t0a2 : DS :=
  (sSeq (sAsg (dOp dAdd (dOp dMulI (dC (.int 2)) (dCB dAbs (dCons (dVar 2) dNil))) (dCB dIntOf (dCons (dOp dLt (dVar 2) (dC (.int 0))) dNil))) (gdName 3)) d__law_draw_t0a3)
def d__law_draw_t0a1 : DS :=
  (sSeq (sAsg (dSl dCut (dOp dIx (dVar 0) (dC (.int 0))) (dPart (dC (.int 1))) dNoPart) (gdSub (dVar 0) (dC (.int 0)) dSetL)) d__law_draw_t0a2)
def d__law_draw_t1a2 : DS :=
  (sRet (dVar 4))
def d__law_draw_t1a1 : DS :=
  (sSeq (sAsg (dOp dDiv (dOp dIx (dVar 0) (dC (.int 1))) (dVar 1)) (gdSub (dVar 0) (dC (.int 1)) dSetL)) d__law_draw_t1a2)
def d__law_draw_t3 : DS :=
  (sRet (dOp dMod (dCB dIntOf (dCons (dOp dDiv (dOp dIx (dVar 0) (dC (.int 2))) (dC (.int 89))) dNil)) (dVar 1)))
def d__law_draw_t2 : DS :=
  (sSeq (sAsg (dOp dMod (dCB dIntOf (dCons (dOp dAdd (dOp dMulI (dOp dIx (dVar 0) (dC (.int 2))) (dC (.int 39373))) (dC (.int 101))) dNil)) (dC (.int 2147483647))) (gdSub (dVar 0) (dC (.int 2)) dSetL)) d__law_draw_t3)
def d__law_draw_t1 : DS :=
  (sSeq (sIf (dTest (dOp dGe (dOp dIx (dVar 0) (dC (.int 1))) (dOp dPow (dC (.int 10)) (dC (.int 9))))) (sSeq (sAsg (dOp dMod (dCB dIntOf (dCons (dOp dIx (dVar 0) (dC (.int 1))) dNil)) (dVar 1)) (gdName 4)) d__law_draw_t1a1) sNext) d__law_draw_t2)
def d__law_draw : DS :=
  (sSeq (sIf (dAnd (dTest (dOp dLt (dOp dIx (dVar 0) (dC (.int 1))) (dOp dPow (dC (.int 10)) (dC (.int 9))))) (dTest (dOp dNe (dOp dIx (dVar 0) (dC (.int 0))) (dLst dNil)))) (sSeq (sAsg (dOp dIx (dOp dIx (dVar 0) (dC (.int 0))) (dC (.int 0))) (gdName 2)) d__law_draw_t0a1) sNext) d__law_draw_t1)

theorem draw_half {a : Addr} {m : Int} {L : DH} {Q : DK} {E : XD} (m1 : 1 ≤ m) (m2 : m ≤ 1000000000000) (q : ∀ r L', 0 ≤ r → r < m → Well L' a → Fra a L L' → Q (.int r) L') :
    ∀ (L1 : DH) (b : Addr) (cells : List Int) (x y : Int) (s2 s3 s4 : Option D), L1 a = some (.lst [.ref b, .int x, .int y]) → L1 b = some (.lst (cells.map .int)) → b ≠ a → 0 ≤ x → 0 ≤ y → y < 2147483647 → Fra a L L1 →
      d__law_draw_t1 (fnEnds Q E) [some (.ref a), some (.int m), s2, s3, s4] L1 := by
  intro L1 b cells x y s2 s3 s4 ha hb hba hx hy hy2 hf
  simp only [d__law_draw_t1, d__law_draw_t1a1, d__law_draw_t1a2, dVar, dC, dOp, dUn, dNil, dCons, dTup, dLst, dCB, dTest, dAnd, dOr, dNot, dAndV, dOrV, dNotV, dIfE, dChain, sNext, sSeq, sBreak, sCont, sDrop, sRet, sRetN, sIf, gdName, gdNil, gdCons, gdTup, gdSub, sAsg, dCall, xOf, sFor, dSeq, dRng1, dRng2, dI, dI0, dB0, dAdd, dIsN, dNotN, isNon, dIx, dSetL, dNeg, one, two, dLen1, dListOf1, dTupOf1, dAbs1, dIntOf1, dII, marg, dAppend1, dExtend1, dIsi, isA, dSl, dPart, dNoPart, dCut, dLc, dYes, sRaise, sTry, exBy, sPar2, sPar3, dIsBl, dNotBl, dBM, dBM0, dEq, dNe, dIn, dstart, fnE_nx, fnE_rt, fnE_ex, Nat.zero_le, Nat.reduceLeDiff, decide_true, decide_false, true_or, or_true, false_or, or_false, decide_eq_true_eq, exists_eq_left', exists_eq_left, exists_eq_right, exists_eq_right', Option.some.injEq, List.cons.injEq, D.int.injEq, D.bl.injEq, D.str.injEq, D.tup.injEq, D.lro.injEq, D.ref.injEq, DO.lst.injEq, and_true, true_and, and_false, false_and, exists_false, exists_const, List.getElem?_cons_zero, List.getElem?_cons_succ, List.map_cons, List.map_nil, List.length_cons, List.length_nil, List.replicate_zero, List.replicate_succ, List.append_nil, List.cons_append, List.nil_append, List.set_cons_zero, List.set_cons_succ, Nat.reduceAdd, Nat.reduceSub, Nat.zero_add, reduceIte, Bool.false_eq_true, reduceCtorEq, if_true, if_false, Bool.not_true, Bool.not_false, exists_and_left, ha, atI1, atI2, ixN_31, ixN_32]
  refine ⟨⟨by decide, by decide⟩, ?_⟩
  split
  · refine ⟨by omega, cdiv_of (by omega) (by omega), ?_⟩
    have z := well_set ha hb hba (x' := x / m) (y' := y) (Int.ediv_nonneg hx (by omega)) hy hy2
    exact endOf (q (x % m) _ (Int.emod_nonneg _ (by omega)) (Int.emod_lt_of_pos _ (by omega)) z.1 (hf.trans z.2))
  · simp only [d__law_draw_t2, d__law_draw_t3, dVar, dC, dOp, dUn, dNil, dCons, dTup, dLst, dCB, dTest, dAnd, dOr, dNot, dAndV, dOrV, dNotV, dIfE, dChain, sNext, sSeq, sBreak, sCont, sDrop, sRet, sRetN, sIf, gdName, gdNil, gdCons, gdTup, gdSub, sAsg, dCall, xOf, sFor, dSeq, dRng1, dRng2, dI, dI0, dB0, dAdd, dIsN, dNotN, isNon, dIx, dSetL, dNeg, one, two, dLen1, dListOf1, dTupOf1, dAbs1, dIntOf1, dII, marg, dAppend1, dExtend1, dIsi, isA, dSl, dPart, dNoPart, dCut, dLc, dYes, sRaise, sTry, exBy, sPar2, sPar3, dIsBl, dNotBl, dBM, dBM0, dEq, dNe, dIn, dstart, fnE_nx, fnE_rt, fnE_ex, Nat.zero_le, Nat.reduceLeDiff, decide_true, decide_false, true_or, or_true, false_or, or_false, decide_eq_true_eq, exists_eq_left', exists_eq_left, exists_eq_right, exists_eq_right', Option.some.injEq, List.cons.injEq, D.int.injEq, D.bl.injEq, D.str.injEq, D.tup.injEq, D.lro.injEq, D.ref.injEq, DO.lst.injEq, and_true, true_and, and_false, false_and, exists_false, exists_const, List.getElem?_cons_zero, List.getElem?_cons_succ, List.map_cons, List.map_nil, List.length_cons, List.length_nil, List.replicate_zero, List.replicate_succ, List.append_nil, List.cons_append, List.nil_append, List.set_cons_zero, List.set_cons_succ, Nat.reduceAdd, Nat.reduceSub, Nat.zero_add, reduceIte, Bool.false_eq_true, reduceCtorEq, if_true, if_false, Bool.not_true, Bool.not_false, exists_and_left, ha, atI2, ixN_32]
    refine ⟨cmul_r (by decide) (by decide), by decide, ?_⟩
    have z := well_set ha hb hba (x' := x) (y' := (y * 39373 + 101) % 2147483647) hx (Int.emod_nonneg _ (by decide)) (Int.emod_lt_of_pos _ (by decide))
    simp only [updD_same, dVar, dC, dOp, dUn, dNil, dCons, dTup, dLst, dCB, dTest, dAnd, dOr, dNot, dAndV, dOrV, dNotV, dIfE, dChain, sNext, sSeq, sBreak, sCont, sDrop, sRet, sRetN, sIf, gdName, gdNil, gdCons, gdTup, gdSub, sAsg, dCall, xOf, sFor, dSeq, dRng1, dRng2, dI, dI0, dB0, dAdd, dIsN, dNotN, isNon, dIx, dSetL, dNeg, one, two, dLen1, dListOf1, dTupOf1, dAbs1, dIntOf1, dII, marg, dAppend1, dExtend1, dIsi, isA, dSl, dPart, dNoPart, dCut, dLc, dYes, sRaise, sTry, exBy, sPar2, sPar3, dIsBl, dNotBl, dBM, dBM0, dEq, dNe, dIn, dstart, fnE_nx, fnE_rt, fnE_ex, Nat.zero_le, Nat.reduceLeDiff, decide_true, decide_false, true_or, or_true, false_or, or_false, decide_eq_true_eq, exists_eq_left', exists_eq_left, exists_eq_right, exists_eq_right', Option.some.injEq, List.cons.injEq, D.int.injEq, D.bl.injEq, D.str.injEq, D.tup.injEq, D.lro.injEq, D.ref.injEq, DO.lst.injEq, and_true, true_and, and_false, false_and, exists_false, exists_const, List.getElem?_cons_zero, List.getElem?_cons_succ, List.map_cons, List.map_nil, List.length_cons, List.length_nil, List.replicate_zero, List.replicate_succ, List.append_nil, List.cons_append, List.nil_append, List.set_cons_zero, List.set_cons_succ, Nat.reduceAdd, Nat.reduceSub, Nat.zero_add, reduceIte, Bool.false_eq_true, reduceCtorEq, if_true, if_false, Bool.not_true, Bool.not_false, exists_and_left, atI2]
    refine ⟨cdiv_of (by omega) (by omega), by omega, ?_⟩
    exact endOf (q _ _ (Int.emod_nonneg _ (by omega)) (Int.emod_lt_of_pos _ (by omega)) z.1 (hf.trans z.2))
theorem pure_law_draw : ∀ as L Q E, sp_law_draw as L Q E → d__law_draw (fnEnds Q E) (dstart 5 as) L := by
  rintro as L Q E ⟨a, m, rfl, ⟨b, cells, x, y, ha, hb, hba, hx, hy, hy2⟩, m1, m2, q⟩
  simp only [d__law_draw, dVar, dC, dOp, dUn, dNil, dCons, dTup, dLst, dCB, dTest, dAnd, dOr, dNot, dAndV, dOrV, dNotV, dIfE, dChain, sNext, sSeq, sBreak, sCont, sDrop, sRet, sRetN, sIf, gdName, gdNil, gdCons, gdTup, gdSub, sAsg, dCall, xOf, sFor, dSeq, dRng1, dRng2, dI, dI0, dB0, dAdd, dIsN, dNotN, isNon, dIx, dSetL, dNeg, one, two, dLen1, dListOf1, dTupOf1, dAbs1, dIntOf1, dII, marg, dAppend1, dExtend1, dIsi, isA, dSl, dPart, dNoPart, dCut, dLc, dYes, sRaise, sTry, exBy, sPar2, sPar3, dIsBl, dNotBl, dBM, dBM0, dEq, dNe, dIn, dstart, fnE_nx, fnE_rt, fnE_ex, Nat.zero_le, Nat.reduceLeDiff, decide_true, decide_false, true_or, or_true, false_or, or_false, decide_eq_true_eq, exists_eq_left', exists_eq_left, exists_eq_right, exists_eq_right', Option.some.injEq, List.cons.injEq, D.int.injEq, D.bl.injEq, D.str.injEq, D.tup.injEq, D.lro.injEq, D.ref.injEq, DO.lst.injEq, and_true, true_and, and_false, false_and, exists_false, exists_const, List.getElem?_cons_zero, List.getElem?_cons_succ, List.map_cons, List.map_nil, List.length_cons, List.length_nil, List.replicate_zero, List.replicate_succ, List.append_nil, List.cons_append, List.nil_append, List.set_cons_zero, List.set_cons_succ, Nat.reduceAdd, Nat.reduceSub, Nat.zero_add, reduceIte, Bool.false_eq_true, reduceCtorEq, if_true, if_false, Bool.not_true, Bool.not_false, exists_and_left, ha, atI1, atI0]
  refine ⟨⟨by decide, by decide⟩, ?_⟩
  have half := draw_half (E := E) m1 m2 q
  split
  · intro q0 hq0
    have hb' : upd L q0 (.lst []) b = some (.lst (cells.map .int)) := by rw [updD_ne (fresh_ne hb hq0)]; exact hb
    have ha' : upd L q0 (.lst []) a = some (.lst [.ref b, .int x, .int y]) := by rw [updD_ne (fresh_ne ha hq0)]; exact ha
    have hf : Fra a L (upd L q0 (.lst [])) := Fra.new ha hq0
    simp only [eq_nil_ints hb' updD_same, ha', hb', atI0, dVar, dC, dOp, dUn, dNil, dCons, dTup, dLst, dCB, dTest, dAnd, dOr, dNot, dAndV, dOrV, dNotV, dIfE, dChain, sNext, sSeq, sBreak, sCont, sDrop, sRet, sRetN, sIf, gdName, gdNil, gdCons, gdTup, gdSub, sAsg, dCall, xOf, sFor, dSeq, dRng1, dRng2, dI, dI0, dB0, dAdd, dIsN, dNotN, isNon, dIx, dSetL, dNeg, one, two, dLen1, dListOf1, dTupOf1, dAbs1, dIntOf1, dII, marg, dAppend1, dExtend1, dIsi, isA, dSl, dPart, dNoPart, dCut, dLc, dYes, sRaise, sTry, exBy, sPar2, sPar3, dIsBl, dNotBl, dBM, dBM0, dEq, dNe, dIn, dstart, fnE_nx, fnE_rt, fnE_ex, Nat.zero_le, Nat.reduceLeDiff, decide_true, decide_false, true_or, or_true, false_or, or_false, decide_eq_true_eq, exists_eq_left', exists_eq_left, exists_eq_right, exists_eq_right', Option.some.injEq, List.cons.injEq, D.int.injEq, D.bl.injEq, D.str.injEq, D.tup.injEq, D.lro.injEq, D.ref.injEq, DO.lst.injEq, and_true, true_and, and_false, false_and, exists_false, exists_const, List.getElem?_cons_zero, List.getElem?_cons_succ, List.map_cons, List.map_nil, List.length_cons, List.length_nil, List.replicate_zero, List.replicate_succ, List.append_nil, List.cons_append, List.nil_append, List.set_cons_zero, List.set_cons_succ, Nat.reduceAdd, Nat.reduceSub, Nat.zero_add, reduceIte, Bool.false_eq_true, reduceCtorEq, if_true, if_false, Bool.not_true, Bool.not_false, exists_and_left]
    split
    · rename_i hne
      have hlen : (0 : Int) < cells.length := by
        cases cells with
        | nil => simp at hne
        | cons c cs => simp
      obtain ⟨v, hv, _⟩ := atI_ints (ns := cells) (Int.le_refl 0) hlen
      obtain ⟨ms, hms⟩ := cut_tl cells
      simp only [d__law_draw_t0a1, d__law_draw_t0a2, dVar, dC, dOp, dUn, dNil, dCons, dTup, dLst, dCB, dTest, dAnd, dOr, dNot, dAndV, dOrV, dNotV, dIfE, dChain, sNext, sSeq, sBreak, sCont, sDrop, sRet, sRetN, sIf, gdName, gdNil, gdCons, gdTup, gdSub, sAsg, dCall, xOf, sFor, dSeq, dRng1, dRng2, dI, dI0, dB0, dAdd, dIsN, dNotN, isNon, dIx, dSetL, dNeg, one, two, dLen1, dListOf1, dTupOf1, dAbs1, dIntOf1, dII, marg, dAppend1, dExtend1, dIsi, isA, dSl, dPart, dNoPart, dCut, dLc, dYes, sRaise, sTry, exBy, sPar2, sPar3, dIsBl, dNotBl, dBM, dBM0, dEq, dNe, dIn, dstart, fnE_nx, fnE_rt, fnE_ex, Nat.zero_le, Nat.reduceLeDiff, decide_true, decide_false, true_or, or_true, false_or, or_false, decide_eq_true_eq, exists_eq_left', exists_eq_left, exists_eq_right, exists_eq_right', Option.some.injEq, List.cons.injEq, D.int.injEq, D.bl.injEq, D.str.injEq, D.tup.injEq, D.lro.injEq, D.ref.injEq, DO.lst.injEq, and_true, true_and, and_false, false_and, exists_false, exists_const, List.getElem?_cons_zero, List.getElem?_cons_succ, List.map_cons, List.map_nil, List.length_cons, List.length_nil, List.replicate_zero, List.replicate_succ, List.append_nil, List.cons_append, List.nil_append, List.set_cons_zero, List.set_cons_succ, Nat.reduceAdd, Nat.reduceSub, Nat.zero_add, reduceIte, Bool.false_eq_true, reduceCtorEq, if_true, if_false, Bool.not_true, Bool.not_false, exists_and_left, ha', hb', hv, hms, atI0, ixN_30]
      intro p hp
      have z := well_cells (cs := ms) ha' hp
      have hap : a ≠ p := (fresh_ne ha' hp)
      simp only [dVar, dC, dOp, dUn, dNil, dCons, dTup, dLst, dCB, dTest, dAnd, dOr, dNot, dAndV, dOrV, dNotV, dIfE, dChain, sNext, sSeq, sBreak, sCont, sDrop, sRet, sRetN, sIf, gdName, gdNil, gdCons, gdTup, gdSub, sAsg, dCall, xOf, sFor, dSeq, dRng1, dRng2, dI, dI0, dB0, dAdd, dIsN, dNotN, isNon, dIx, dSetL, dNeg, one, two, dLen1, dListOf1, dTupOf1, dAbs1, dIntOf1, dII, marg, dAppend1, dExtend1, dIsi, isA, dSl, dPart, dNoPart, dCut, dLc, dYes, sRaise, sTry, exBy, sPar2, sPar3, dIsBl, dNotBl, dBM, dBM0, dEq, dNe, dIn, dstart, fnE_nx, fnE_rt, fnE_ex, Nat.zero_le, Nat.reduceLeDiff, decide_true, decide_false, true_or, or_true, false_or, or_false, decide_eq_true_eq, exists_eq_left', exists_eq_left, exists_eq_right, exists_eq_right', Option.some.injEq, List.cons.injEq, D.int.injEq, D.bl.injEq, D.str.injEq, D.tup.injEq, D.lro.injEq, D.ref.injEq, DO.lst.injEq, and_true, true_and, and_false, false_and, exists_false, exists_const, List.getElem?_cons_zero, List.getElem?_cons_succ, List.map_cons, List.map_nil, List.length_cons, List.length_nil, List.replicate_zero, List.replicate_succ, List.append_nil, List.cons_append, List.nil_append, List.set_cons_zero, List.set_cons_succ, Nat.reduceAdd, Nat.reduceSub, Nat.zero_add, reduceIte, Bool.false_eq_true, reduceCtorEq, if_true, if_false, Bool.not_true, Bool.not_false, exists_and_left, updD_ne hap, ha', ixN_30]
      refine ⟨cmul_l (by decide) (by decide), ?_⟩
      have hv0 : (0 : Int) ≤ 2 * (if v < 0 then -v else v) + (if v < 0 then 1 else 0) := by
        by_cases hvv : v < 0 <;> simp only [hvv, if_true, if_false] <;> omega
      generalize 2 * (if v < 0 then -v else v) + (if v < 0 then 1 else 0) = val at hv0 ⊢
      have zf := hf.trans z.2.2.2
      simp only [d__law_draw_t0a3, dVar, dC, dOp, dUn, dNil, dCons, dTup, dLst, dCB, dTest, dAnd, dOr, dNot, dAndV, dOrV, dNotV, dIfE, dChain, sNext, sSeq, sBreak, sCont, sDrop, sRet, sRetN, sIf, gdName, gdNil, gdCons, gdTup, gdSub, sAsg, dCall, xOf, sFor, dSeq, dRng1, dRng2, dI, dI0, dB0, dAdd, dIsN, dNotN, isNon, dIx, dSetL, dNeg, one, two, dLen1, dListOf1, dTupOf1, dAbs1, dIntOf1, dII, marg, dAppend1, dExtend1, dIsi, isA, dSl, dPart, dNoPart, dCut, dLc, dYes, sRaise, sTry, exBy, sPar2, sPar3, dIsBl, dNotBl, dBM, dBM0, dEq, dNe, dIn, dstart, fnE_nx, fnE_rt, fnE_ex, Nat.zero_le, Nat.reduceLeDiff, decide_true, decide_false, true_or, or_true, false_or, or_false, decide_eq_true_eq, exists_eq_left', exists_eq_left, exists_eq_right, exists_eq_right', Option.some.injEq, List.cons.injEq, D.int.injEq, D.bl.injEq, D.str.injEq, D.tup.injEq, D.lro.injEq, D.ref.injEq, DO.lst.injEq, and_true, true_and, and_false, false_and, exists_false, exists_const, List.getElem?_cons_zero, List.getElem?_cons_succ, List.map_cons, List.map_nil, List.length_cons, List.length_nil, List.replicate_zero, List.replicate_succ, List.append_nil, List.cons_append, List.nil_append, List.set_cons_zero, List.set_cons_succ, Nat.reduceAdd, Nat.reduceSub, Nat.zero_add, reduceIte, Bool.false_eq_true, reduceCtorEq, if_true, if_false, Bool.not_true, Bool.not_false, exists_and_left, z.1, atI2, ixN_31, ixN_32]
      refine ⟨⟨by decide, by decide⟩, ?_⟩
      split
      · have w := well_set z.1 z.2.1 z.2.2.1 (x' := val) (y' := y) hv0 hy hy2
        exact half _ p ms val y _ _ _ updD_same (by rw [updD_ne z.2.2.1]; exact z.2.1) z.2.2.1 hv0 hy hy2 (zf.trans w.2)
      · refine ⟨cmul_r (by decide) (by decide), cmul_r (by decide) (by decide), by decide, ?_⟩
        have w := well_set z.1 z.2.1 z.2.2.1 (x' := x) (y' := (y * 48271 + val * 69621 + 17) % 2147483647) hx (Int.emod_nonneg _ (by decide)) (Int.emod_lt_of_pos _ (by decide))
        exact half _ p ms x _ _ _ _ updD_same (by rw [updD_ne z.2.2.1]; exact z.2.1) z.2.2.1 hx (Int.emod_nonneg _ (by decide)) (Int.emod_lt_of_pos _ (by decide)) (zf.trans w.2)
    · exact half _ b cells x y none none none ha' hb' hba hx hy hy2 hf
  · exact half L b cells x y none none none ha hb hba hx hy hy2 .refl
theorem ok__law_draw {P : Program} {w : World} {K : PySem.W.Frag} {mg : Str → Option Value} {base : Heap} (D : DefAt K mg "_law_draw" s__law_draw) (z_abs : mg "abs" = none) (z_int : mg "int" = none) : Ok P w K mg base "_law_draw" (1) ["well", "many"] sp_law_draw := by
  obtain ⟨f, fd, gm, F⟩ := D.ex
  refine ⟨f, fd, Fun.okD (k := 1 - 1) F sc__law_draw (len_law_draw ) (pure_law_draw ) (fun cdv A outer s H E hr => ?_), gm, F.kp, F.binds (ps := ["well", "many"]) (fun _ _ _ _ _ _ us hl => match us, hl with | [_, _], _ => rfl), F.lk⟩
  have nd := sc__law_draw.nd
  have hu := hr.units
  exact (qss_cons (qs_if (QW.qt (qw_and (qt_cmp op_lt opd_B0 (q_ix ix_seq opd_ix (qv 0) q_int (fun _ _ => rfl)) (q_op op_powW opd_I q_int q_int) (nomark _)) (qw_and1 (qt_cmp (op_neD hu) opd_ne (q_ix ix_seq opd_ix (qv 0) q_int (fun _ _ => rfl)) (q_lst qa_nil) (nomark _))))) (qss_cons (qs_set (i := 2) nd (q_ix ix_seq opd_ix (q_ix ix_seq opd_ix (qv 0) q_int (fun _ _ => rfl)) q_int (fun _ _ => rfl)))
  (qss_cons (qs_asg (q_slice sl_all slok_all (q_ix ix_seq opd_ix (qv 0) q_int (fun _ _ => rfl)) (qo_some q_int) qo_none) (qg_sub (qv 0) q_int set_list set_d))
  (qss_cons (qs_set (i := 3) nd (q_op op_addAll opd_add (q_op op_mulA opd_I q_int (q_callB call_abs cd_abs rfl z_abs (by decide +kernel) (qa_cons (qv 2) qa_nil))) (q_callTy call_int1 cd_int rfl z_int (by decide +kernel) (qa_cons (q_cmp op_lt opd_B0 (qv 2) q_int (nomark _)) qa_nil))))
  (qss_one (qs_if (qt_cmp op_ge opd_B0 (qv 3) (q_op op_powW opd_I q_int q_int) (nomark _)) (qss_one (qs_asg (qv 3) (qg_sub (qv 0) q_int set_list set_d))) (qss_one (qs_asg (q_op op_mod opd_I (q_callTy call_int1 cd_int rfl z_int (by decide +kernel) (qa_cons (q_op op_addAll opd_add (q_op op_addAll opd_add (q_op op_mulA opd_I (q_ix ix_seq opd_ix (qv 0) q_int (fun _ _ => rfl)) q_int) (q_op op_mulA opd_I (qv 3) q_int)) q_int) qa_nil)) q_int) (qg_sub (qv 0) q_int set_list set_d)))))))) qss_nil)
  (qss_cons (qs_if (qt_cmp op_ge opd_B0 (q_ix ix_seq opd_ix (qv 0) q_int (fun _ _ => rfl)) (q_op op_powW opd_I q_int q_int) (nomark _)) (qss_cons (qs_set (i := 4) nd (q_op op_mod opd_I (q_callTy call_int1 cd_int rfl z_int (by decide +kernel) (qa_cons (q_ix ix_seq opd_ix (qv 0) q_int (fun _ _ => rfl)) qa_nil)) (qv 1)))
  (qss_cons (qs_asg (q_op op_fdivW opd_I (q_ix ix_seq opd_ix (qv 0) q_int (fun _ _ => rfl)) (qv 1)) (qg_sub (qv 0) q_int set_list set_d))
  (qss_one (qs_ret (qv 4))))) qss_nil)
  (qss_cons (qs_asg (q_op op_mod opd_I (q_callTy call_int1 cd_int rfl z_int (by decide +kernel) (qa_cons (q_op op_addAll opd_add (q_op op_mulA opd_I (q_ix ix_seq opd_ix (qv 0) q_int (fun _ _ => rfl)) q_int) q_int) qa_nil)) q_int) (qg_sub (qv 0) q_int set_list set_d))
  (qss_one (qs_ret (q_op op_mod opd_I (q_callTy call_int1 cd_int rfl z_int (by decide +kernel) (qa_cons (q_op op_fdivW opd_I (q_ix ix_seq opd_ix (qv 0) q_int (fun _ _ => rfl)) q_int) qa_nil)) (qv 1)))))))

/-! the law's own order of marks -/
def val (p m : Int) : Int := if p = 1 then (if m % 2 = 1 then 5 + m / 2 else 4 - m / 2) else (if m % 2 = 0 then 5 + m / 2 else 4 - m / 2)
def sp_law_value : SpD := fun ds L Q _ => ∃ p m : Int, ds = [.int p, .int m] ∧ 0 ≤ p ∧ p ≤ 1 ∧ 0 ≤ m ∧ m ≤ 9 ∧ Q (.int (val p m)) L
theorem len_law_value : ∀ as L Q E, sp_law_value as L Q E → as.length = 2 := by rintro _ L Q E ⟨p, m, rfl, _⟩; rfl
def d__law_value_t2 : DS :=
  (sRet (dBM chkL (marg dIndex1) (dVar 2) (dCons (dVar 1) dNil)))
def d__law_value_t1 : DS :=
  (sSeq (sIf (dTest (dOp dEq (dVar 0) (dC (.int 1)))) (sAsg (dLst (dCons (dC (.int 8)) (dCons (dC (.int 6)) (dCons (dC (.int 4)) (dCons (dC (.int 2)) (dCons (dC (.int 0)) (dCons (dC (.int 1)) (dCons (dC (.int 3)) (dCons (dC (.int 5)) (dCons (dC (.int 7)) (dCons (dC (.int 9)) dNil))))))))))) (gdName 2)) sNext) d__law_value_t2)
def d__law_value : DS :=
  (sSeq (sAsg (dLst (dCons (dC (.int 9)) (dCons (dC (.int 7)) (dCons (dC (.int 5)) (dCons (dC (.int 3)) (dCons (dC (.int 1)) (dCons (dC (.int 0)) (dCons (dC (.int 2)) (dCons (dC (.int 4)) (dCons (dC (.int 6)) (dCons (dC (.int 8)) dNil))))))))))) (gdName 2)) d__law_value_t1)

theorem ix_first {L : DH} {q : Addr} {xs : List Int} {m : Int} {Q : DK} (h : L q = some (.lst (xs.map .int))) (j : Nat) (hj : xs[j]? = some m) (hno : ∀ i, i < j → xs[i]? ≠ some m) (k : Q (.int j) L) :
    dIndex1 (.ref q) (.int m) L Q := by
  refine ⟨xs.map .int, j, .int m, ?_, rfl, ?_, ?_, ?_, ?_, k⟩
  · show (match L q with | some (.lst xs) => some xs | none => none) = _
    rw [h]
  · rw [List.all_map]; exact List.all_eq_true.mpr fun _ _ => rfl
  · rw [List.getElem?_map, hj]; rfl
  · exact beq_self_eq_true m
  · intro i z hi hz
    rw [List.getElem?_map] at hz
    obtain ⟨x, hx, e⟩ := Option.map_eq_some_iff.mp hz
    subst e
    have : x ≠ m := fun e => hno i hi (by rw [hx, e])
    exact beq_eq_false_iff_ne.mpr this
theorem pure_law_value : ∀ as L Q E, sp_law_value as L Q E → d__law_value (fnEnds Q E) (dstart 3 as) L := by
  rintro as L Q E ⟨p, m, rfl, p1, p2, m1, m2, q⟩
  have hp : p = 0 ∨ p = 1 := by omega
  have hm : m = 0 ∨ m = 1 ∨ m = 2 ∨ m = 3 ∨ m = 4 ∨ m = 5 ∨ m = 6 ∨ m = 7 ∨ m = 8 ∨ m = 9 := by omega
  simp only [d__law_value, d__law_value_t2, d__law_value_t1, dVar, dC, dOp, dUn, dNil, dCons, dTup, dLst, dCB, dTest, dAnd, dOr, dNot, dAndV, dOrV, dNotV, dIfE, dChain, sNext, sSeq, sBreak, sCont, sDrop, sRet, sRetN, sIf, gdName, gdNil, gdCons, gdTup, gdSub, sAsg, dCall, xOf, sFor, dSeq, dRng1, dRng2, dI, dI0, dB0, dAdd, dIsN, dNotN, isNon, dIx, dSetL, dNeg, one, two, dLen1, dListOf1, dTupOf1, dAbs1, dIntOf1, dII, marg, dAppend1, dExtend1, dIsi, isA, dSl, dPart, dNoPart, dCut, dLc, dYes, sRaise, sTry, exBy, sPar2, sPar3, dIsBl, dNotBl, dBM, dBM0, dEq, dNe, dIn, dstart, fnE_nx, fnE_rt, fnE_ex, Nat.zero_le, Nat.reduceLeDiff, decide_true, decide_false, true_or, or_true, false_or, or_false, decide_eq_true_eq, exists_eq_left', exists_eq_left, exists_eq_right, exists_eq_right', Option.some.injEq, List.cons.injEq, D.int.injEq, D.bl.injEq, D.str.injEq, D.tup.injEq, D.lro.injEq, D.ref.injEq, DO.lst.injEq, and_true, true_and, and_false, false_and, exists_false, exists_const, List.getElem?_cons_zero, List.getElem?_cons_succ, List.map_cons, List.map_nil, List.length_cons, List.length_nil, List.replicate_zero, List.replicate_succ, List.append_nil, List.cons_append, List.nil_append, List.set_cons_zero, List.set_cons_succ, Nat.reduceAdd, Nat.reduceSub, Nat.zero_add, reduceIte, Bool.false_eq_true, reduceCtorEq, if_true, if_false, Bool.not_true, Bool.not_false, exists_and_left, eqD_int]
  intro a ha
  have end_ : ∀ (xs : List Int) (L1 : DH) (b : Addr) (j : Nat), L1 b = some (.lst (xs.map .int)) → Le L L1 → xs[j]? = some m → (∀ i, i < j → xs[i]? ≠ some m) → (j : Int) = val p m →
      chkL (.ref b) L1 ∧ dIndex1 (.ref b) (.int m) L1 (fnEnds Q E).rt := by
    intro xs L1 b j h1 hle h2 h3 h4
    exact ⟨⟨xs.map .int, by show (match L1 b with | some (.lst xs) => some xs | none => none) = _; rw [h1]⟩, ix_first h1 j h2 h3 ⟨L, hle, by rw [h4]; exact q⟩⟩
  rcases hp with rfl | rfl
  · simp only [show ((0 : Int) == 1) = false from rfl, dVar, dC, dOp, dUn, dNil, dCons, dTup, dLst, dCB, dTest, dAnd, dOr, dNot, dAndV, dOrV, dNotV, dIfE, dChain, sNext, sSeq, sBreak, sCont, sDrop, sRet, sRetN, sIf, gdName, gdNil, gdCons, gdTup, gdSub, sAsg, dCall, xOf, sFor, dSeq, dRng1, dRng2, dI, dI0, dB0, dAdd, dIsN, dNotN, isNon, dIx, dSetL, dNeg, one, two, dLen1, dListOf1, dTupOf1, dAbs1, dIntOf1, dII, marg, dAppend1, dExtend1, dIsi, isA, dSl, dPart, dNoPart, dCut, dLc, dYes, sRaise, sTry, exBy, sPar2, sPar3, dIsBl, dNotBl, dBM, dBM0, dEq, dNe, dIn, dstart, fnE_nx, fnE_rt, fnE_ex, Nat.zero_le, Nat.reduceLeDiff, decide_true, decide_false, true_or, or_true, false_or, or_false, decide_eq_true_eq, exists_eq_left', exists_eq_left, exists_eq_right, exists_eq_right', Option.some.injEq, List.cons.injEq, D.int.injEq, D.bl.injEq, D.str.injEq, D.tup.injEq, D.lro.injEq, D.ref.injEq, DO.lst.injEq, and_true, true_and, and_false, false_and, exists_false, exists_const, List.getElem?_cons_zero, List.getElem?_cons_succ, List.map_cons, List.map_nil, List.length_cons, List.length_nil, List.replicate_zero, List.replicate_succ, List.append_nil, List.cons_append, List.nil_append, List.set_cons_zero, List.set_cons_succ, Nat.reduceAdd, Nat.reduceSub, Nat.zero_add, reduceIte, Bool.false_eq_true, reduceCtorEq, if_true, if_false, Bool.not_true, Bool.not_false, exists_and_left]
    rcases hm with rfl | rfl | rfl | rfl | rfl | rfl | rfl | rfl | rfl | rfl
    · exact end_ [9, 7, 5, 3, 1, 0, 2, 4, 6, 8] _ a 5 updD_same (.upd ha) rfl (by decide) rfl
    · exact end_ [9, 7, 5, 3, 1, 0, 2, 4, 6, 8] _ a 4 updD_same (.upd ha) rfl (by decide) rfl
    · exact end_ [9, 7, 5, 3, 1, 0, 2, 4, 6, 8] _ a 6 updD_same (.upd ha) rfl (by decide) rfl
    · exact end_ [9, 7, 5, 3, 1, 0, 2, 4, 6, 8] _ a 3 updD_same (.upd ha) rfl (by decide) rfl
    · exact end_ [9, 7, 5, 3, 1, 0, 2, 4, 6, 8] _ a 7 updD_same (.upd ha) rfl (by decide) rfl
    · exact end_ [9, 7, 5, 3, 1, 0, 2, 4, 6, 8] _ a 2 updD_same (.upd ha) rfl (by decide) rfl
    · exact end_ [9, 7, 5, 3, 1, 0, 2, 4, 6, 8] _ a 8 updD_same (.upd ha) rfl (by decide) rfl
    · exact end_ [9, 7, 5, 3, 1, 0, 2, 4, 6, 8] _ a 1 updD_same (.upd ha) rfl (by decide) rfl
    · exact end_ [9, 7, 5, 3, 1, 0, 2, 4, 6, 8] _ a 9 updD_same (.upd ha) rfl (by decide) rfl
    · exact end_ [9, 7, 5, 3, 1, 0, 2, 4, 6, 8] _ a 0 updD_same (.upd ha) rfl (by decide) rfl
  · simp only [show ((1 : Int) == 1) = true from rfl, dVar, dC, dOp, dUn, dNil, dCons, dTup, dLst, dCB, dTest, dAnd, dOr, dNot, dAndV, dOrV, dNotV, dIfE, dChain, sNext, sSeq, sBreak, sCont, sDrop, sRet, sRetN, sIf, gdName, gdNil, gdCons, gdTup, gdSub, sAsg, dCall, xOf, sFor, dSeq, dRng1, dRng2, dI, dI0, dB0, dAdd, dIsN, dNotN, isNon, dIx, dSetL, dNeg, one, two, dLen1, dListOf1, dTupOf1, dAbs1, dIntOf1, dII, marg, dAppend1, dExtend1, dIsi, isA, dSl, dPart, dNoPart, dCut, dLc, dYes, sRaise, sTry, exBy, sPar2, sPar3, dIsBl, dNotBl, dBM, dBM0, dEq, dNe, dIn, dstart, fnE_nx, fnE_rt, fnE_ex, Nat.zero_le, Nat.reduceLeDiff, decide_true, decide_false, true_or, or_true, false_or, or_false, decide_eq_true_eq, exists_eq_left', exists_eq_left, exists_eq_right, exists_eq_right', Option.some.injEq, List.cons.injEq, D.int.injEq, D.bl.injEq, D.str.injEq, D.tup.injEq, D.lro.injEq, D.ref.injEq, DO.lst.injEq, and_true, true_and, and_false, false_and, exists_false, exists_const, List.getElem?_cons_zero, List.getElem?_cons_succ, List.map_cons, List.map_nil, List.length_cons, List.length_nil, List.replicate_zero, List.replicate_succ, List.append_nil, List.cons_append, List.nil_append, List.set_cons_zero, List.set_cons_succ, Nat.reduceAdd, Nat.reduceSub, Nat.zero_add, reduceIte, Bool.false_eq_true, reduceCtorEq, if_true, if_false, Bool.not_true, Bool.not_false, exists_and_left]
    intro b hb
    have lb : Le L (upd (upd L a (.lst [.int 9, .int 7, .int 5, .int 3, .int 1, .int 0, .int 2, .int 4, .int 6, .int 8])) b (.lst ([8, 6, 4, 2, 0, 1, 3, 5, 7, 9].map .int))) := (Le.upd ha).trans (.upd hb)
    rcases hm with rfl | rfl | rfl | rfl | rfl | rfl | rfl | rfl | rfl | rfl
    · exact end_ [8, 6, 4, 2, 0, 1, 3, 5, 7, 9] _ b 4 updD_same lb rfl (by decide) rfl
    · exact end_ [8, 6, 4, 2, 0, 1, 3, 5, 7, 9] _ b 5 updD_same lb rfl (by decide) rfl
    · exact end_ [8, 6, 4, 2, 0, 1, 3, 5, 7, 9] _ b 3 updD_same lb rfl (by decide) rfl
    · exact end_ [8, 6, 4, 2, 0, 1, 3, 5, 7, 9] _ b 6 updD_same lb rfl (by decide) rfl
    · exact end_ [8, 6, 4, 2, 0, 1, 3, 5, 7, 9] _ b 2 updD_same lb rfl (by decide) rfl
    · exact end_ [8, 6, 4, 2, 0, 1, 3, 5, 7, 9] _ b 7 updD_same lb rfl (by decide) rfl
    · exact end_ [8, 6, 4, 2, 0, 1, 3, 5, 7, 9] _ b 1 updD_same lb rfl (by decide) rfl
    · exact end_ [8, 6, 4, 2, 0, 1, 3, 5, 7, 9] _ b 8 updD_same lb rfl (by decide) rfl
    · exact end_ [8, 6, 4, 2, 0, 1, 3, 5, 7, 9] _ b 0 updD_same lb rfl (by decide) rfl
    · exact end_ [8, 6, 4, 2, 0, 1, 3, 5, 7, 9] _ b 9 updD_same lb rfl (by decide) rfl
theorem ok__law_value {P : Program} {w : World} {K : PySem.W.Frag} {mg : Str → Option Value} {base : Heap} (D : DefAt K mg "_law_value" s__law_value)  : Ok P w K mg base "_law_value" (1) ["player", "mark"] sp_law_value := by
  obtain ⟨f, fd, gm, F⟩ := D.ex
  refine ⟨f, fd, Fun.okD (k := 1 - 1) F sc__law_value (len_law_value ) (pure_law_value ) (fun cdv A outer s H E hr => ?_), gm, F.kp, F.binds (ps := ["player", "mark"]) (fun _ _ _ _ _ _ us hl => match us, hl with | [_, _], _ => rfl), F.lk⟩
  have nd := sc__law_value.nd
  have hu := hr.units
  exact (qss_cons (qs_set (i := 2) nd (q_lst (qa_cons q_int (qa_cons q_int (qa_cons q_int (qa_cons q_int (qa_cons q_int (qa_cons q_int (qa_cons q_int (qa_cons q_int (qa_cons q_int (qa_cons q_int qa_nil))))))))))))
  (qss_cons (qs_if (qt_cmp (op_eqD hu) opd_eq (qv 0) q_int (nomark _)) (qss_one (qs_set (i := 2) nd (q_lst (qa_cons q_int (qa_cons q_int (qa_cons q_int (qa_cons q_int (qa_cons q_int (qa_cons q_int (qa_cons q_int (qa_cons q_int (qa_cons q_int (qa_cons q_int qa_nil))))))))))))) qss_nil)
  (qss_one (qs_ret (q_bm PySem.F.plainAttrs_list PySem.F.slot_list_index PySem.F.type_list_index mt_index chkL_ok md_index (qv 2) (qa_cons (qv 1) qa_nil))))))

def sp_law_good : SpD := fun ds L Q _ => ∃ p x y : Int, ds = [.int p, .int x, .int y] ∧ 0 ≤ p ∧ p ≤ 1 ∧ 0 ≤ x ∧ x ≤ 9 ∧ 0 ≤ y ∧ y ≤ 9 ∧ Q (.bl (decide (val p y ≤ val p x))) L
theorem len_law_good : ∀ as L Q E, sp_law_good as L Q E → as.length = 3 := by rintro _ L Q E ⟨p, x, y, rfl, _⟩; rfl
def d__law_good : DS :=
  (sRet (dOp dGe (dCall sp_law_value (dCons (dVar 0) (dCons (dVar 1) dNil))) (dCall sp_law_value (dCons (dVar 0) (dCons (dVar 2) dNil)))))

theorem pure_law_good : ∀ as L Q E, sp_law_good as L Q E → d__law_good (fnEnds Q E) (dstart 3 as) L := by
  rintro as L Q E ⟨p, x, y, rfl, p1, p2, x1, x2, y1, y2, q⟩
  simp only [d__law_good, sp_law_value, dVar, dC, dOp, dUn, dNil, dCons, dTup, dLst, dCB, dTest, dAnd, dOr, dNot, dAndV, dOrV, dNotV, dIfE, dChain, sNext, sSeq, sBreak, sCont, sDrop, sRet, sRetN, sIf, gdName, gdNil, gdCons, gdTup, gdSub, sAsg, dCall, xOf, sFor, dSeq, dRng1, dRng2, dI, dI0, dB0, dAdd, dIsN, dNotN, isNon, dIx, dSetL, dNeg, one, two, dLen1, dListOf1, dTupOf1, dAbs1, dIntOf1, dII, marg, dAppend1, dExtend1, dIsi, isA, dSl, dPart, dNoPart, dCut, dLc, dYes, sRaise, sTry, exBy, sPar2, sPar3, dIsBl, dNotBl, dBM, dBM0, dEq, dNe, dIn, dstart, fnE_nx, fnE_rt, fnE_ex, Nat.zero_le, Nat.reduceLeDiff, decide_true, decide_false, true_or, or_true, false_or, or_false, decide_eq_true_eq, exists_eq_left', exists_eq_left, exists_eq_right, exists_eq_right', Option.some.injEq, List.cons.injEq, D.int.injEq, D.bl.injEq, D.str.injEq, D.tup.injEq, D.lro.injEq, D.ref.injEq, DO.lst.injEq, and_true, true_and, and_false, false_and, exists_false, exists_const, List.getElem?_cons_zero, List.getElem?_cons_succ, List.map_cons, List.map_nil, List.length_cons, List.length_nil, List.replicate_zero, List.replicate_succ, List.append_nil, List.cons_append, List.nil_append, List.set_cons_zero, List.set_cons_succ, Nat.reduceAdd, Nat.reduceSub, Nat.zero_add, reduceIte, Bool.false_eq_true, reduceCtorEq, if_true, if_false, Bool.not_true, Bool.not_false, exists_and_left]
  exact ⟨p, x, ⟨rfl, rfl⟩, p1, p2, x1, x2, p, y, ⟨rfl, rfl⟩, p1, p2, y1, y2, endOf q⟩
theorem ok__law_good {P : Program} {w : World} {K : PySem.W.Frag} {mg : Str → Option Value} {base : Heap} (D : DefAt K mg "_law_good" s__law_good) (o__law_value : Ok P w K mg base "_law_value" (1) ["player", "mark"] sp_law_value) : Ok P w K mg base "_law_good" (2) ["player", "one", "other"] sp_law_good := by
  obtain ⟨f, fd, gm, F⟩ := D.ex
  refine ⟨f, fd, Fun.okD (k := 2 - 1) F sc__law_good (len_law_good ) (pure_law_good ) (fun cdv A outer s H E hr => ?_), gm, F.kp, F.binds (ps := ["player", "one", "other"]) (fun _ _ _ _ _ _ us hl => match us, hl with | [_, _, _], _ => rfl), F.lk⟩
  have nd := sc__law_good.nd
  have tk : Takes (cxOf (L2.CX P w) P w K mg base ["player", "one", "other"] "_law_good" (defScope s__law_good) f cdv A outer s H E) (wE E) := takes_of rfl rfl rfl rfl
  exact (qss_one (qs_ret (q_cmp op_ge opd_B0 (q_callO o__law_value (hr.mono (by omega)) tk (qa_cons (qv 0) (qa_cons (qv 1) qa_nil))) (q_callO o__law_value (hr.mono (by omega)) tk (qa_cons (qv 0) (qa_cons (qv 2) qa_nil))) (nomark _))))

def subT (n c : Str) : Option Bool :=
  if n = ("BadPlayer" : Str) ∧ c = ("BadPlayer" : Str) then some true else
  if n = ("BadPlayer" : Str) ∧ c = ("BadMark" : Str) then some false else
  if n = ("BadPlayer" : Str) ∧ c = ("GameError" : Str) then some true else
  if n = ("BadMark" : Str) ∧ c = ("BadPlayer" : Str) then some false else
  if n = ("BadMark" : Str) ∧ c = ("BadMark" : Str) then some true else
  if n = ("BadMark" : Str) ∧ c = ("GameError" : Str) then some true else
  none
theorem subT_BadPlayer_BadPlayer : subT "BadPlayer" "BadPlayer" = some true := by decide +kernel
theorem subT_BadPlayer_BadMark : subT "BadPlayer" "BadMark" = some false := by decide +kernel
theorem subT_BadPlayer_GameError : subT "BadPlayer" "GameError" = some true := by decide +kernel
theorem subT_BadMark_BadPlayer : subT "BadMark" "BadPlayer" = some false := by decide +kernel
theorem subT_BadMark_BadMark : subT "BadMark" "BadMark" = some true := by decide +kernel
theorem subT_BadMark_GameError : subT "BadMark" "GameError" = some true := by decide +kernel

def sp_law_refusal : SpD := fun ds L Q _ => ∃ d a b, ds = [d, a, b] ∧ Known L d ∧ Known L a ∧ Known L b ∧
  Q (if wthn d 0 1 = false then .str "player" else if wthn a 0 9 = false ∨ wthn b 0 9 = false then .str "mark" else .non) L
theorem len_law_refusal : ∀ as L Q E, sp_law_refusal as L Q E → as.length = 3 := by rintro _ L Q E ⟨p, x, y, rfl, _⟩; rfl
def d__law_refusal_t2 : DS :=
  (sRet (dVar 3))
def d__law_refusal_t1 : DS :=
  (sSeq (sTry subT (sDrop (dCall sp_better (dCons (dVar 0) (dCons (dVar 1) (dCons (dVar 2) dNil))))) [("BadPlayer", (sAsg (dC (.str "player")) (gdName 3))), ("BadMark", (sAsg (dC (.str "mark")) (gdName 3))), ("GameError", (sAsg (dC (.str "other")) (gdName 3)))]) d__law_refusal_t2)
def d__law_refusal : DS :=
  (sSeq (sAsg (dC .non) (gdName 3)) d__law_refusal_t1)

theorem pure_law_refusal : ∀ as L Q E, sp_law_refusal as L Q E → d__law_refusal (fnEnds Q E) (dstart 4 as) L := by
  rintro as L Q E ⟨d, a, b, rfl, hd, ha, hb, q⟩
  simp only [d__law_refusal, d__law_refusal_t2, d__law_refusal_t1, sp_better, dVar, dC, dOp, dUn, dNil, dCons, dTup, dLst, dCB, dTest, dAnd, dOr, dNot, dAndV, dOrV, dNotV, dIfE, dChain, sNext, sSeq, sBreak, sCont, sDrop, sRet, sRetN, sIf, gdName, gdNil, gdCons, gdTup, gdSub, sAsg, dCall, xOf, sFor, dSeq, dRng1, dRng2, dI, dI0, dB0, dAdd, dIsN, dNotN, isNon, dIx, dSetL, dNeg, one, two, dLen1, dListOf1, dTupOf1, dAbs1, dIntOf1, dII, marg, dAppend1, dExtend1, dIsi, isA, dSl, dPart, dNoPart, dCut, dLc, dYes, sRaise, sTry, exBy, sPar2, sPar3, dIsBl, dNotBl, dBM, dBM0, dEq, dNe, dIn, dstart, fnE_nx, fnE_rt, fnE_ex, Nat.zero_le, Nat.reduceLeDiff, decide_true, decide_false, true_or, or_true, false_or, or_false, decide_eq_true_eq, exists_eq_left', exists_eq_left, exists_eq_right, exists_eq_right', Option.some.injEq, List.cons.injEq, D.int.injEq, D.bl.injEq, D.str.injEq, D.tup.injEq, D.lro.injEq, D.ref.injEq, DO.lst.injEq, and_true, true_and, and_false, false_and, exists_false, exists_const, List.getElem?_cons_zero, List.getElem?_cons_succ, List.map_cons, List.map_nil, List.length_cons, List.length_nil, List.replicate_zero, List.replicate_succ, List.append_nil, List.cons_append, List.nil_append, List.set_cons_zero, List.set_cons_succ, Nat.reduceAdd, Nat.reduceSub, Nat.zero_add, reduceIte, Bool.false_eq_true, reduceCtorEq, if_true, if_false, Bool.not_true, Bool.not_false, exists_and_left]
  refine ⟨d, a, b, ⟨rfl, rfl, rfl⟩, hd, ha, hb, fun h => ?_, fun h => ⟨fun h2 => ?_, fun p x y e1 e2 e3 p1 p2 x1 x2 y1 y2 => ?_⟩⟩
  · rw [if_pos h] at q
    exact ⟨true, subT_BadPlayer_BadPlayer, (fun _ => endOf q), (fun z => nomatch z)⟩
  · rw [if_neg (by simp [h]), if_pos h2] at q
    exact ⟨false, subT_BadMark_BadPlayer, (fun z => nomatch z), fun _ => ⟨true, subT_BadMark_BadMark, (fun _ => endOf q), (fun z => nomatch z)⟩⟩
  · subst e1 e2 e3
    rw [if_neg (by simp [h]), if_neg (by simp [wthn]; omega)] at q
    exact endOf q
theorem ok__law_refusal {P : Program} {w : World} {K : PySem.W.Frag} {mg : Str → Option Value} {base : Heap} (D : DefAt K mg "_law_refusal" s__law_refusal) (o_better : Ok P w K mg base "better" (4) ["player", "a", "b"] sp_better) (m_BadPlayer : ClsAt mg "BadPlayer") (m_BadMark : ClsAt mg "BadMark") (m_GameError : ClsAt mg "GameError") (so : SubOk K mg subT) : Ok P w K mg base "_law_refusal" (5) ["player", "one", "other"] sp_law_refusal := by
  obtain ⟨f, fd, gm, F⟩ := D.ex
  refine ⟨f, fd, Fun.okD (k := 5 - 1) F sc__law_refusal (len_law_refusal ) (pure_law_refusal ) (fun cdv A outer s H E hr => ?_), gm, F.kp, F.binds (ps := ["player", "one", "other"]) (fun _ _ _ _ _ _ us hl => match us, hl with | [_, _, _], _ => rfl), F.lk⟩
  have nd := sc__law_refusal.nd
  have tk : Takes (cxOf (L2.CX P w) P w K mg base ["player", "one", "other", "found"] "_law_refusal" (defScope s__law_refusal) f cdv A outer s H E) (wE E) := takes_of rfl rfl rfl rfl
  exact (qss_cons (qs_set (i := 3) nd q_non)
  (qss_cons (qs_try rfl rfl tk so (fun _ _ _ tk2 hp2 => (qss_one (qs_expr (q_callO o_better (hr.mono (by omega)) tk2 (qa_cons (qv 0) (qa_cons (qv 1) (qa_cons (qv 2) qa_nil)))))))
  (.cons m_BadPlayer.choose_spec (fun _ _ _ => (qss_one (qs_set (i := 3) nd q_str))) (.cons m_BadMark.choose_spec (fun _ _ _ => (qss_one (qs_set (i := 3) nd q_str))) (.cons m_GameError.choose_spec (fun _ _ _ => (qss_one (qs_set (i := 3) nd q_str))) QHds.nil))))
  (qss_one (qs_ret (qv 3)))))

/-! mathematics of marks -/
theorem scr_val {p x y : Int} (p1 : 0 ≤ p) (p2 : p ≤ 1) (x1 : 0 ≤ x) (x2 : x ≤ 9) (y1 : 0 ≤ y) (y2 : y ≤ 9) : (scr p y ≤ scr p x) ↔ (val p y ≤ val p x) := by
  have hp : p = 0 ∨ p = 1 := by omega
  unfold scr val
  rcases hp with rfl | rfl
  · simp only [show ¬ ((0 : Int) = 1) by decide, if_false]
    split <;> split <;> omega
  · simp only [if_true]
    split <;> split <;> omega
theorem scr_max {p x y t : Int} (p1 : 0 ≤ p) (p2 : p ≤ 1) (x1 : 0 ≤ x) (y1 : 0 ≤ y) (t1 : 0 ≤ t) (h : scr p y ≤ scr p x) : scr p (if t > y then t else y) ≤ scr p (if t > x then t else x) := by
  unfold scr at *
  by_cases a1 : t > y <;> by_cases a2 : t > x <;> by_cases a3 : t % 2 = p <;> by_cases a4 : x % 2 = p <;> by_cases a5 : y % 2 = p <;> (try simp only [a1, a2, a3, a4, a5, if_true, if_false] at h) <;> (try simp only [a1, a2, a3, a4, a5, if_true, if_false]) <;> omega
def sp_law_pairs_right : SpD := fun ds L Q _ => ∃ p t : Int, ds = [.int p, .int t] ∧ 0 ≤ p ∧ p ≤ 1 ∧ 0 ≤ t ∧ t ≤ 9 ∧ Q (.bl true) L
theorem len_law_pairs_right : ∀ as L Q E, sp_law_pairs_right as L Q E → as.length = 2 := by rintro _ L Q E ⟨p, m, rfl, _⟩; rfl
def d__law_pairs_right_t0b0b2 : DS :=
  (sIf (dAnd (dTest (dVar 4)) (dTest (dOp dNotBl (dCall sp_better (dCons (dVar 0) (dCons (dCB dMax2 (dCons (dVar 2) (dCons (dVar 1) dNil))) (dCons (dCB dMax2 (dCons (dVar 3) (dCons (dVar 1) dNil))) dNil)))) (dC (.bl true))))) (sRet (dC (.bl false))) sNext)
def d__law_pairs_right_t0b0b1 : DS :=
  (sSeq (sIf (dNot (dTest (dCall sp_law_is (dCons (dVar 4) (dCons (dCall sp_law_good (dCons (dVar 0) (dCons (dVar 2) (dCons (dVar 3) dNil)))) dNil))))) (sRet (dC (.bl false))) sNext) d__law_pairs_right_t0b0b2)
def d__law_pairs_right_b0b0 : DS :=
  (sSeq (sAsg (dCall sp_better (dCons (dVar 0) (dCons (dVar 2) (dCons (dVar 3) dNil)))) (gdName 4)) d__law_pairs_right_t0b0b1)
def d__law_pairs_right_b0 : DS :=
  (sFor (dRng1 (dCons (dC (.int 10)) dNil)) (gdName 3)
  d__law_pairs_right_b0b0)
def d__law_pairs_right_t1 : DS :=
  (sRet (dC (.bl true)))
def d__law_pairs_right : DS :=
  (sSeq (sFor (dRng1 (dCons (dC (.int 10)) dNil)) (gdName 2)
  d__law_pairs_right_b0) d__law_pairs_right_t1)

theorem pure_law_pairs_right : ∀ as L Q E, sp_law_pairs_right as L Q E → d__law_pairs_right (fnEnds Q E) (dstart 5 as) L := by
  rintro as L Q E ⟨p, t, rfl, p1, p2, t1, t2, q⟩
  simp only [d__law_pairs_right, d__law_pairs_right_t0b0b2, d__law_pairs_right_t0b0b1, d__law_pairs_right_b0b0, d__law_pairs_right_b0, d__law_pairs_right_t1, dVar, dC, dOp, dUn, dNil, dCons, dTup, dLst, dCB, dTest, dAnd, dOr, dNot, dAndV, dOrV, dNotV, dIfE, dChain, sNext, sSeq, sBreak, sCont, sDrop, sRet, sRetN, sIf, gdName, gdNil, gdCons, gdTup, gdSub, sAsg, dCall, xOf, sFor, dSeq, dRng1, dRng2, dI, dI0, dB0, dAdd, dIsN, dNotN, isNon, dIx, dSetL, dNeg, one, two, dLen1, dListOf1, dTupOf1, dAbs1, dIntOf1, dII, marg, dAppend1, dExtend1, dIsi, isA, dSl, dPart, dNoPart, dCut, dLc, dYes, sRaise, sTry, exBy, sPar2, sPar3, dIsBl, dNotBl, dBM, dBM0, dEq, dNe, dIn, dstart, fnE_nx, fnE_rt, fnE_ex, Nat.zero_le, Nat.reduceLeDiff, decide_true, decide_false, true_or, or_true, false_or, or_false, decide_eq_true_eq, exists_eq_left', exists_eq_left, exists_eq_right, exists_eq_right', Option.some.injEq, List.cons.injEq, D.int.injEq, D.bl.injEq, D.str.injEq, D.tup.injEq, D.lro.injEq, D.ref.injEq, DO.lst.injEq, and_true, true_and, and_false, false_and, exists_false, exists_const, List.getElem?_cons_zero, List.getElem?_cons_succ, List.map_cons, List.map_nil, List.length_cons, List.length_nil, List.replicate_zero, List.replicate_succ, List.append_nil, List.cons_append, List.nil_append, List.set_cons_zero, List.set_cons_succ, Nat.reduceAdd, Nat.reduceSub, Nat.zero_add, reduceIte, Bool.false_eq_true, reduceCtorEq, if_true, if_false, Bool.not_true, Bool.not_false, exists_and_left]
  refine ⟨by decide, ?_⟩
  refine forD_mem (fun s L' => L' = L ∧ ∃ o1 o2 o3, s = [some (.int p), some (.int t), o1, o2, o3]) _ (fun d hd s L' P hP hI => ?_) (fun s L' hI => ?_) _ _ ⟨rfl, _, _, _, rfl⟩
  · obtain ⟨rfl, o1, o2, o3, rfl⟩ := hI
    obtain ⟨x, rfl, x1, x2⟩ := mem_rngD hd
    have x2 : x ≤ 9 := by simp at x2; omega
    simp only [dVar, dC, dOp, dUn, dNil, dCons, dTup, dLst, dCB, dTest, dAnd, dOr, dNot, dAndV, dOrV, dNotV, dIfE, dChain, sNext, sSeq, sBreak, sCont, sDrop, sRet, sRetN, sIf, gdName, gdNil, gdCons, gdTup, gdSub, sAsg, dCall, xOf, sFor, dSeq, dRng1, dRng2, dI, dI0, dB0, dAdd, dIsN, dNotN, isNon, dIx, dSetL, dNeg, one, two, dLen1, dListOf1, dTupOf1, dAbs1, dIntOf1, dII, marg, dAppend1, dExtend1, dIsi, isA, dSl, dPart, dNoPart, dCut, dLc, dYes, sRaise, sTry, exBy, sPar2, sPar3, dIsBl, dNotBl, dBM, dBM0, dEq, dNe, dIn, dstart, fnE_nx, fnE_rt, fnE_ex, Nat.zero_le, Nat.reduceLeDiff, decide_true, decide_false, true_or, or_true, false_or, or_false, decide_eq_true_eq, exists_eq_left', exists_eq_left, exists_eq_right, exists_eq_right', Option.some.injEq, List.cons.injEq, D.int.injEq, D.bl.injEq, D.str.injEq, D.tup.injEq, D.lro.injEq, D.ref.injEq, DO.lst.injEq, and_true, true_and, and_false, false_and, exists_false, exists_const, List.getElem?_cons_zero, List.getElem?_cons_succ, List.map_cons, List.map_nil, List.length_cons, List.length_nil, List.replicate_zero, List.replicate_succ, List.append_nil, List.cons_append, List.nil_append, List.set_cons_zero, List.set_cons_succ, Nat.reduceAdd, Nat.reduceSub, Nat.zero_add, reduceIte, Bool.false_eq_true, reduceCtorEq, if_true, if_false, Bool.not_true, Bool.not_false, exists_and_left]
    refine ⟨by decide, ?_⟩
    refine forD_mem (fun s L2 => L2 = L' ∧ ∃ o2 o3, s = [some (.int p), some (.int t), some (.int x), o2, o3]) _ (fun d hd s L2 P2 hP2 hI => ?_) (fun s L2 hI => ?_) _ _ ⟨rfl, _, _, rfl⟩
    · obtain ⟨rfl, o2, o3, rfl⟩ := hI
      obtain ⟨y, rfl, y1, y2⟩ := mem_rngD hd
      have y2 : y ≤ 9 := by simp at y2; omega
      simp only [dVar, dC, dOp, dUn, dNil, dCons, dTup, dLst, dCB, dTest, dAnd, dOr, dNot, dAndV, dOrV, dNotV, dIfE, dChain, sNext, sSeq, sBreak, sCont, sDrop, sRet, sRetN, sIf, gdName, gdNil, gdCons, gdTup, gdSub, sAsg, dCall, xOf, sFor, dSeq, dRng1, dRng2, dI, dI0, dB0, dAdd, dIsN, dNotN, isNon, dIx, dSetL, dNeg, one, two, dLen1, dListOf1, dTupOf1, dAbs1, dIntOf1, dII, marg, dAppend1, dExtend1, dIsi, isA, dSl, dPart, dNoPart, dCut, dLc, dYes, sRaise, sTry, exBy, sPar2, sPar3, dIsBl, dNotBl, dBM, dBM0, dEq, dNe, dIn, dstart, fnE_nx, fnE_rt, fnE_ex, Nat.zero_le, Nat.reduceLeDiff, decide_true, decide_false, true_or, or_true, false_or, or_false, decide_eq_true_eq, exists_eq_left', exists_eq_left, exists_eq_right, exists_eq_right', Option.some.injEq, List.cons.injEq, D.int.injEq, D.bl.injEq, D.str.injEq, D.tup.injEq, D.lro.injEq, D.ref.injEq, DO.lst.injEq, and_true, true_and, and_false, false_and, exists_false, exists_const, List.getElem?_cons_zero, List.getElem?_cons_succ, List.map_cons, List.map_nil, List.length_cons, List.length_nil, List.replicate_zero, List.replicate_succ, List.append_nil, List.cons_append, List.nil_append, List.set_cons_zero, List.set_cons_succ, Nat.reduceAdd, Nat.reduceSub, Nat.zero_add, reduceIte, Bool.false_eq_true, reduceCtorEq, if_true, if_false, Bool.not_true, Bool.not_false, exists_and_left, sp_better, sp_law_is, sp_law_good, wthn]
      refine ⟨.int p, .int x, .int y, ⟨rfl, rfl, rfl⟩, trivial, trivial, trivial, fun h => absurd h (by simp; omega), fun _ => ⟨fun h => absurd h (by simp; omega), fun p' x' y' e1 e2 e3 _ _ _ _ _ _ => ?_⟩⟩
      cases e1
      cases e2
      cases e3
      refine ⟨p, x, y, ⟨rfl, rfl, rfl⟩, p1, p2, x1, x2, y1, y2, _, _, ⟨rfl, rfl⟩, ?_⟩
      by_cases h : scr p y ≤ scr p x
      · have h' := (scr_val p1 p2 x1 x2 y1 y2).mp h
        simp only [h, h', dVar, dC, dOp, dUn, dNil, dCons, dTup, dLst, dCB, dTest, dAnd, dOr, dNot, dAndV, dOrV, dNotV, dIfE, dChain, sNext, sSeq, sBreak, sCont, sDrop, sRet, sRetN, sIf, gdName, gdNil, gdCons, gdTup, gdSub, sAsg, dCall, xOf, sFor, dSeq, dRng1, dRng2, dI, dI0, dB0, dAdd, dIsN, dNotN, isNon, dIx, dSetL, dNeg, one, two, dLen1, dListOf1, dTupOf1, dAbs1, dIntOf1, dII, marg, dAppend1, dExtend1, dIsi, isA, dSl, dPart, dNoPart, dCut, dLc, dYes, sRaise, sTry, exBy, sPar2, sPar3, dIsBl, dNotBl, dBM, dBM0, dEq, dNe, dIn, dstart, fnE_nx, fnE_rt, fnE_ex, Nat.zero_le, Nat.reduceLeDiff, decide_true, decide_false, true_or, or_true, false_or, or_false, decide_eq_true_eq, exists_eq_left', exists_eq_left, exists_eq_right, exists_eq_right', Option.some.injEq, List.cons.injEq, D.int.injEq, D.bl.injEq, D.str.injEq, D.tup.injEq, D.lro.injEq, D.ref.injEq, DO.lst.injEq, and_true, true_and, and_false, false_and, exists_false, exists_const, List.getElem?_cons_zero, List.getElem?_cons_succ, List.map_cons, List.map_nil, List.length_cons, List.length_nil, List.replicate_zero, List.replicate_succ, List.append_nil, List.cons_append, List.nil_append, List.set_cons_zero, List.set_cons_succ, Nat.reduceAdd, Nat.reduceSub, Nat.zero_add, reduceIte, Bool.false_eq_true, reduceCtorEq, if_true, if_false, Bool.not_true, Bool.not_false, exists_and_left]
        refine ⟨.int p, .int _, .int _, ⟨rfl, rfl, rfl⟩, trivial, trivial, trivial, fun h => absurd h (by simp; omega), fun _ => ⟨fun h => absurd h (by simp; split <;> split <;> omega), fun p' x' y' e1 e2 e3 _ _ _ _ _ _ => ?_⟩⟩
        cases e1
        cases e2
        cases e3
        simp only [scr_max p1 p2 x1 y1 t1 h, dVar, dC, dOp, dUn, dNil, dCons, dTup, dLst, dCB, dTest, dAnd, dOr, dNot, dAndV, dOrV, dNotV, dIfE, dChain, sNext, sSeq, sBreak, sCont, sDrop, sRet, sRetN, sIf, gdName, gdNil, gdCons, gdTup, gdSub, sAsg, dCall, xOf, sFor, dSeq, dRng1, dRng2, dI, dI0, dB0, dAdd, dIsN, dNotN, isNon, dIx, dSetL, dNeg, one, two, dLen1, dListOf1, dTupOf1, dAbs1, dIntOf1, dII, marg, dAppend1, dExtend1, dIsi, isA, dSl, dPart, dNoPart, dCut, dLc, dYes, sRaise, sTry, exBy, sPar2, sPar3, dIsBl, dNotBl, dBM, dBM0, dEq, dNe, dIn, dstart, fnE_nx, fnE_rt, fnE_ex, Nat.zero_le, Nat.reduceLeDiff, decide_true, decide_false, true_or, or_true, false_or, or_false, decide_eq_true_eq, exists_eq_left', exists_eq_left, exists_eq_right, exists_eq_right', Option.some.injEq, List.cons.injEq, D.int.injEq, D.bl.injEq, D.str.injEq, D.tup.injEq, D.lro.injEq, D.ref.injEq, DO.lst.injEq, and_true, true_and, and_false, false_and, exists_false, exists_const, List.getElem?_cons_zero, List.getElem?_cons_succ, List.map_cons, List.map_nil, List.length_cons, List.length_nil, List.replicate_zero, List.replicate_succ, List.append_nil, List.cons_append, List.nil_append, List.set_cons_zero, List.set_cons_succ, Nat.reduceAdd, Nat.reduceSub, Nat.zero_add, reduceIte, Bool.false_eq_true, reduceCtorEq, if_true, if_false, Bool.not_true, Bool.not_false, exists_and_left]
        exact hP2 _ _ ⟨rfl, _, _, rfl⟩
      · have h' : ¬ val p y ≤ val p x := fun z => h ((scr_val p1 p2 x1 x2 y1 y2).mpr z)
        simp only [h, h', dVar, dC, dOp, dUn, dNil, dCons, dTup, dLst, dCB, dTest, dAnd, dOr, dNot, dAndV, dOrV, dNotV, dIfE, dChain, sNext, sSeq, sBreak, sCont, sDrop, sRet, sRetN, sIf, gdName, gdNil, gdCons, gdTup, gdSub, sAsg, dCall, xOf, sFor, dSeq, dRng1, dRng2, dI, dI0, dB0, dAdd, dIsN, dNotN, isNon, dIx, dSetL, dNeg, one, two, dLen1, dListOf1, dTupOf1, dAbs1, dIntOf1, dII, marg, dAppend1, dExtend1, dIsi, isA, dSl, dPart, dNoPart, dCut, dLc, dYes, sRaise, sTry, exBy, sPar2, sPar3, dIsBl, dNotBl, dBM, dBM0, dEq, dNe, dIn, dstart, fnE_nx, fnE_rt, fnE_ex, Nat.zero_le, Nat.reduceLeDiff, decide_true, decide_false, true_or, or_true, false_or, or_false, decide_eq_true_eq, exists_eq_left', exists_eq_left, exists_eq_right, exists_eq_right', Option.some.injEq, List.cons.injEq, D.int.injEq, D.bl.injEq, D.str.injEq, D.tup.injEq, D.lro.injEq, D.ref.injEq, DO.lst.injEq, and_true, true_and, and_false, false_and, exists_false, exists_const, List.getElem?_cons_zero, List.getElem?_cons_succ, List.map_cons, List.map_nil, List.length_cons, List.length_nil, List.replicate_zero, List.replicate_succ, List.append_nil, List.cons_append, List.nil_append, List.set_cons_zero, List.set_cons_succ, Nat.reduceAdd, Nat.reduceSub, Nat.zero_add, reduceIte, Bool.false_eq_true, reduceCtorEq, if_true, if_false, Bool.not_true, Bool.not_false, exists_and_left]
        exact hP2 _ _ ⟨rfl, _, _, rfl⟩
    · obtain ⟨rfl, o2, o3, rfl⟩ := hI
      exact ⟨trivial, hP _ _ ⟨rfl, _, _, _, rfl⟩⟩
  · obtain ⟨rfl, o1, o2, o3, rfl⟩ := hI
    exact ⟨trivial, endOf q⟩
theorem ok__law_pairs_right {P : Program} {w : World} {K : PySem.W.Frag} {mg : Str → Option Value} {base : Heap} (D : DefAt K mg "_law_pairs_right" s__law_pairs_right) (z_range : mg "range" = none) (o_better : Ok P w K mg base "better" (4) ["player", "a", "b"] sp_better) (o__law_good : Ok P w K mg base "_law_good" (2) ["player", "one", "other"] sp_law_good) (o__law_is : Ok P w K mg base "_law_is" (1) ["told", "due"] sp_law_is) (z_max : mg "max" = none) : Ok P w K mg base "_law_pairs_right" (5) ["player", "third"] sp_law_pairs_right := by
  obtain ⟨f, fd, gm, F⟩ := D.ex
  refine ⟨f, fd, Fun.okD (k := 5 - 1) F sc__law_pairs_right (len_law_pairs_right ) (pure_law_pairs_right ) (fun cdv A outer s H E hr => ?_), gm, F.kp, F.binds (ps := ["player", "third"]) (fun _ _ _ _ _ _ us hl => match us, hl with | [_, _], _ => rfl), F.lk⟩
  have nd := sc__law_pairs_right.nd
  have tk : Takes (cxOf (L2.CX P w) P w K mg base ["player", "third", "one", "other", "told"] "_law_pairs_right" (defScope s__law_pairs_right) f cdv A outer s H E) (wE E) := takes_of rfl rfl rfl rfl
  exact (qss_cons (qs_for (passes_of rfl) rfl (qi_rng1 z_range (qa_cons q_int qa_nil)) (qg_name 2 nd)
  (qss_one (qs_for (passes_of rfl) rfl (qi_rng1 z_range (qa_cons q_int qa_nil)) (qg_name 3 nd)
  (qss_cons (qs_set (i := 4) nd (q_callO o_better (hr.mono (by omega)) tk (qa_cons (qv 0) (qa_cons (qv 2) (qa_cons (qv 3) qa_nil)))))
  (qss_cons (qs_if (qt_not (qt_val (q_callO o__law_is (hr.mono (by omega)) tk (qa_cons (qv 4) (qa_cons (q_callO o__law_good (hr.mono (by omega)) tk (qa_cons (qv 0) (qa_cons (qv 2) (qa_cons (qv 3) qa_nil)))) qa_nil))))) (qss_one (qs_ret q_bl)) qss_nil)
  (qss_one (qs_if (QW.qt (qw_and (qt_val (qv 4)) (qw_and1 (qt_cmp op_notBl opd_notBl (q_callO o_better (hr.mono (by omega)) tk (qa_cons (qv 0) (qa_cons (q_callB (call_max2 rfl) cd_max2 rfl z_max (by decide +kernel) (qa_cons (qv 2) (qa_cons (qv 1) qa_nil))) (qa_cons (q_callB (call_max2 rfl) cd_max2 rfl z_max (by decide +kernel) (qa_cons (qv 3) (qa_cons (qv 1) qa_nil))) qa_nil)))) q_bl (nomark _))))) (qss_one (qs_ret q_bl)) qss_nil)))))))
  (qss_one (qs_ret q_bl)))

/-! the ring -/
theorem out_new {L : DH} {a p : Addr} {b : Addr} {x y : Int} (ha : L a = some (.lst [.ref b, .int x, .int y])) (hb : ∃ o, L b = some o) (hp : L p = none) (o : DO) : Out (upd L p o) a p := by
  have hap := fresh_ne ha hp
  obtain ⟨ob, hb⟩ := hb
  refine ⟨hap.symm, fun xs e d hd => ?_⟩
  rw [updD_ne hap, ha] at e
  cases e
  have := fresh_ne hb hp
  simp at hd
  rcases hd with rfl | rfl | rfl
  · simpa using this
  · simp
  · simp
theorem Well.new {L : DH} {a p : Addr} (w : Well L a) (hp : L p = none) (o : DO) : Well (upd L p o) a ∧ Out (upd L p o) a p := by
  obtain ⟨b, cells, x, y, ha, hb, hba, hx, hy, hy2⟩ := w
  exact ⟨⟨b, cells, x, y, by rw [updD_ne (fresh_ne ha hp)]; exact ha, by rw [updD_ne (fresh_ne hb hp)]; exact hb, hba, hx, hy, hy2⟩, out_new ha ⟨_, hb⟩ hp o⟩
theorem Well.ne {L : DH} {a p : Addr} (w : Well L a) (hp : L p = none) : a ≠ p := by
  obtain ⟨b, cells, x, y, ha, _⟩ := w
  exact fresh_ne ha hp
theorem Well.some {L : DH} {a : Addr} (w : Well L a) : ∃ u, L a = some u := by
  obtain ⟨b, cells, x, y, ha, _⟩ := w
  exact ⟨_, ha⟩
/-- a list beside the well written -/
theorem Well.beside {L : DH} {a c : Addr} (w : Well L a) (h : Out L a c) (o : DO) : Well (upd L c o) a ∧ (∀ e, Out L a e → Out (upd L c o) a e) := by
  obtain ⟨b, cells, x, y, ha, hb, hba, hx, hy, hy2⟩ := w
  have hac : a ≠ c := fun e => h.1 e.symm
  have hbc : b ≠ c := fun e => h.2 _ ha (.ref b) (by simp) (by rw [e])
  refine ⟨⟨b, cells, x, y, by rw [updD_ne hac]; exact ha, by rw [updD_ne hbc]; exact hb, hba, hx, hy, hy2⟩, fun e he => ⟨he.1, fun xs q d hd => ?_⟩⟩
  rw [updD_ne hac] at q
  exact he.2 xs q d hd
theorem max_ring {p : Int} {r o : List Int} (hl : o.length = r.length) (hr : ∀ x, x ∈ r → 0 ≤ x) (ho : ∀ x, x ∈ o → 0 ≤ x) (h : ∀ (i : Nat) x y, r[i]? = some x → o[i]? = some y → scr p x ≤ scr p y)
    {M N : Int} (hM : M ∈ r) (hM2 : ∀ x, x ∈ r → x ≤ M) (hN : N ∈ o) (hN2 : ∀ x, x ∈ o → x ≤ N) (e : M % 2 = p) : N % 2 = p := by
  obtain ⟨i, hi, ei⟩ := List.getElem_of_mem hM
  obtain ⟨j, hj, ej⟩ := List.getElem_of_mem hN
  have g1 : r[i]? = some M := by rw [List.getElem?_eq_getElem hi, ei]
  have g2 : o[j]? = some N := by rw [List.getElem?_eq_getElem hj, ej]
  have hi' : i < o.length := by omega
  have hj' : j < r.length := by omega
  have s1 := h i M o[i] g1 (List.getElem?_eq_getElem hi')
  have s2 := h j r[j] N (List.getElem?_eq_getElem hj') g2
  have b1 := hN2 o[i] (List.getElem_mem hi')
  have b2 := hM2 r[j] (List.getElem_mem hj')
  have c1 := hr M hM
  have c2 := ho o[i] (List.getElem_mem hi')
  have c3 := hr r[j] (List.getElem_mem hj')
  have c4 := ho N hN
  generalize o[i] = u at *
  generalize r[j] = v at *
  unfold scr at s1 s2
  rw [if_pos e] at s1
  by_cases a1 : u % 2 = p
  · rw [if_pos a1] at s1
    by_cases a2 : N % 2 = p
    · exact a2
    · rw [if_neg a2] at s2
      by_cases a3 : v % 2 = p
      · rw [if_pos a3] at s2; omega
      · rw [if_neg a3] at s2; omega
  · rw [if_neg a1] at s1; omega
def sp_law_ring_right : SpD := fun ds L Q _ => ∃ (a : Addr) (p : Int), ds = [.ref a, .int p] ∧ Well L a ∧ 0 ≤ p ∧ p ≤ 1 ∧ ∀ L', Well L' a → Q (.bl true) L'
theorem len_law_ring_right : ∀ as L Q E, sp_law_ring_right as L Q E → as.length = 2 := by rintro _ L Q E ⟨p, m, rfl, _⟩; rfl
def d__law_ring_right_t2b2 : DS :=
  (sDrop (dBM chkL (marg dAppend1) (dVar 3) (dCons (dOp dIx (dVar 5) (dCall sp_law_draw (dCons (dVar 0) (dCons (dCB dLen (dCons (dVar 5) dNil)) dNil)))) dNil)))
def d__law_ring_right_t2b1 : DS :=
  (sSeq (sIf (dTest (dOp dEq (dVar 5) (dLst dNil))) (sRet (dC (.bl false))) sNext) d__law_ring_right_t2b2)
def d__law_ring_right_b2 : DS :=
  (sSeq (sAsg (dLc (dRng1 (dCons (dC (.int 10)) dNil)) (gdName 7) (dTest (dOp dIsBl (dCall sp_better (dCons (dVar 1) (dCons (dVar 7) (dCons (dVar 4) dNil)))) (dC (.bl true)))) (dVar 7) [7]) (gdName 5)) d__law_ring_right_t2b1)
def d__law_ring_right_t3 : DS :=
  (sRet (dOrV (dOp dNe (dOp dMod (dCB dMaxL (dCons (dVar 2) dNil)) (dC (.int 2))) (dVar 1)) (dOp dEq (dOp dMod (dCB dMaxL (dCons (dVar 3) dNil)) (dC (.int 2))) (dVar 1))))
def d__law_ring_right_t2 : DS :=
  (sSeq (sFor (dSeq (dVar 2)) (gdName 4)
  d__law_ring_right_b2) d__law_ring_right_t3)
def d__law_ring_right_t1 : DS :=
  (sSeq (sAsg (dLst dNil) (gdName 3)) d__law_ring_right_t2)
def d__law_ring_right : DS :=
  (sSeq (sAsg (dLc (dRng1 (dCons (dOp dAdd (dC (.int 1)) (dCall sp_law_draw (dCons (dVar 0) (dCons (dC (.int 12)) dNil)))) dNil)) (gdName 6) dYes (dCall sp_law_draw (dCons (dVar 0) (dCons (dC (.int 10)) dNil))) [6]) (gdName 2)) d__law_ring_right_t1)

theorem Out.new {L : DH} {a c q : Addr} {o : DO} (h : Out L a c) (w : Well L a) (hq : L q = none) : Out (upd L q o) a c := by
  refine ⟨h.1, fun xs e => ?_⟩
  rw [updD_ne (w.ne hq)] at e
  exact h.2 xs e
theorem lstOf_ref {L : DH} {a : Addr} {xs : List D} (h : L a = some (.lst xs)) : lstOf L (.ref a) = some xs := by
  show (match L a with | some (.lst xs) => some xs | none => none) = _
  rw [h]
theorem isSeq_ref {L : DH} {a : Addr} {xs : List D} (h : L a = some (.lst xs)) : isSeq L (.ref a) = some (xs, fun L' => L' a = some (DO.lst xs)) := by
  show (match L a with | some (DO.lst ds) => some (ds, fun L' : DH => L' a = some (DO.lst ds)) | none => none) = _
  rw [h]
def betters (p x : Int) : List Int := ((List.range 10).map fun (i : Nat) => (0 + (i : Int))).filter fun m => decide (scr p x ≤ scr p m)
def keepB (p x : Int) : D → Bool
  | .int m => decide (scr p x ≤ scr p m)
  | _ => false
theorem betters_eq (p x : Int) : ((rngD 0 10).filter (keepB p x)).map id = (betters p x).map .int := by
  unfold betters rngD
  rw [List.map_id, List.filter_map, List.filter_map, List.map_map]
  rfl
theorem betters_mem {p x m : Int} : m ∈ betters p x ↔ (0 ≤ m ∧ m ≤ 9) ∧ scr p x ≤ scr p m := by
  unfold betters
  rw [List.mem_filter]
  constructor
  · rintro ⟨h, h2⟩
    obtain ⟨i, hi, e⟩ := List.mem_map.mp h
    have := List.mem_range.mp hi
    exact ⟨by omega, of_decide_eq_true h2⟩
  · rintro ⟨h, h2⟩
    exact ⟨List.mem_map.mpr ⟨m.toNat, List.mem_range.mpr (by omega), by omega⟩, decide_eq_true h2⟩
structure RingI (a : Addr) (p : Int) (ra oa : Addr) (xs : List Int) (i : Nat) (s : DSt) (L : DH) : Prop where
  s : ∃ o4 o5 o6 o7, s = [some (.ref a), some (.int p), some (.ref ra), some (.ref oa), o4, o5, o6, o7]
  w : Well L a
  r : L ra = some (.lst (xs.map .int))
  ro : Out L a ra
  ne : ra ≠ oa
  oo : Out L a oa
  o : ∃ ys : List Int, L oa = some (.lst (ys.map .int)) ∧ ys.length = i ∧ (∀ y, y ∈ ys → 0 ≤ y ∧ y ≤ 9) ∧ ∀ (j : Nat) x y, xs[j]? = some x → ys[j]? = some y → scr p x ≤ scr p y
theorem pure_law_ring_right : ∀ as L Q E, sp_law_ring_right as L Q E → d__law_ring_right (fnEnds Q E) (dstart 8 as) L := by
  rintro as L Q E ⟨a, p, rfl, w, p1, p2, q⟩
  simp only [d__law_ring_right, dVar, dC, dOp, dUn, dNil, dCons, dTup, dLst, dCB, dTest, dAnd, dOr, dNot, dAndV, dOrV, dNotV, dIfE, dChain, sNext, sSeq, sBreak, sCont, sDrop, sRet, sRetN, sIf, gdName, gdNil, gdCons, gdTup, gdSub, sAsg, dCall, xOf, sFor, dSeq, dRng1, dRng2, dI, dI0, dB0, dAdd, dIsN, dNotN, isNon, dIx, dSetL, dNeg, one, two, dLen1, dListOf1, dTupOf1, dAbs1, dIntOf1, dII, marg, dAppend1, dExtend1, dIsi, isA, dSl, dPart, dNoPart, dCut, dLc, dYes, sRaise, sTry, exBy, sPar2, sPar3, dIsBl, dNotBl, dBM, dBM0, dEq, dNe, dIn, dstart, fnE_nx, fnE_rt, fnE_ex, Nat.zero_le, Nat.reduceLeDiff, decide_true, decide_false, true_or, or_true, false_or, or_false, decide_eq_true_eq, exists_eq_left', exists_eq_left, exists_eq_right, exists_eq_right', Option.some.injEq, List.cons.injEq, D.int.injEq, D.bl.injEq, D.str.injEq, D.tup.injEq, D.lro.injEq, D.ref.injEq, DO.lst.injEq, and_true, true_and, and_false, false_and, exists_false, exists_const, List.getElem?_cons_zero, List.getElem?_cons_succ, List.map_cons, List.map_nil, List.length_cons, List.length_nil, List.replicate_zero, List.replicate_succ, List.append_nil, List.cons_append, List.nil_append, List.set_cons_zero, List.set_cons_succ, Nat.reduceAdd, Nat.reduceSub, Nat.zero_add, reduceIte, Bool.false_eq_true, reduceCtorEq, if_true, if_false, Bool.not_true, Bool.not_false, exists_and_left, sp_law_draw]
  refine ⟨a, 12, ⟨rfl, rfl⟩, w, by decide, by decide, fun r L1 r1 r2 w1 _ => ?_⟩
  simp only [dVar, dC, dOp, dUn, dNil, dCons, dTup, dLst, dCB, dTest, dAnd, dOr, dNot, dAndV, dOrV, dNotV, dIfE, dChain, sNext, sSeq, sBreak, sCont, sDrop, sRet, sRetN, sIf, gdName, gdNil, gdCons, gdTup, gdSub, sAsg, dCall, xOf, sFor, dSeq, dRng1, dRng2, dI, dI0, dB0, dAdd, dIsN, dNotN, isNon, dIx, dSetL, dNeg, one, two, dLen1, dListOf1, dTupOf1, dAbs1, dIntOf1, dII, marg, dAppend1, dExtend1, dIsi, isA, dSl, dPart, dNoPart, dCut, dLc, dYes, sRaise, sTry, exBy, sPar2, sPar3, dIsBl, dNotBl, dBM, dBM0, dEq, dNe, dIn, dstart, fnE_nx, fnE_rt, fnE_ex, Nat.zero_le, Nat.reduceLeDiff, decide_true, decide_false, true_or, or_true, false_or, or_false, decide_eq_true_eq, exists_eq_left', exists_eq_left, exists_eq_right, exists_eq_right', Option.some.injEq, List.cons.injEq, D.int.injEq, D.bl.injEq, D.str.injEq, D.tup.injEq, D.lro.injEq, D.ref.injEq, DO.lst.injEq, and_true, true_and, and_false, false_and, exists_false, exists_const, List.getElem?_cons_zero, List.getElem?_cons_succ, List.map_cons, List.map_nil, List.length_cons, List.length_nil, List.replicate_zero, List.replicate_succ, List.append_nil, List.cons_append, List.nil_append, List.set_cons_zero, List.set_cons_succ, Nat.reduceAdd, Nat.reduceSub, Nat.zero_add, reduceIte, Bool.false_eq_true, reduceCtorEq, if_true, if_false, Bool.not_true, Bool.not_false, exists_and_left, dwipe]
  refine ⟨by omega, ?_⟩
  have hlen : (rngD 0 (1 + r).toNat).length ≤ 12 := by rw [rngD_length]; omega
  have hpos : 0 < (rngD 0 (1 + r).toNat).length := by rw [rngD_length]; omega
  generalize rngD 0 (1 + r).toNat = turns at hlen hpos
  refine lcD_ind (fun rest acc L' => Well L' a ∧ acc.length + rest.length = turns.length ∧ ∃ xs : List Int, acc = xs.map .int ∧ ∀ x, x ∈ xs → 0 ≤ x ∧ x ≤ 9) ?_ ?_ turns [] L1 ⟨w1, by simp, [], rfl, by simp⟩
  · rintro d rest acc L2 P hP ⟨w2, hl, xs, rfl, hx⟩
    simp only [dVar, dC, dOp, dUn, dNil, dCons, dTup, dLst, dCB, dTest, dAnd, dOr, dNot, dAndV, dOrV, dNotV, dIfE, dChain, sNext, sSeq, sBreak, sCont, sDrop, sRet, sRetN, sIf, gdName, gdNil, gdCons, gdTup, gdSub, sAsg, dCall, xOf, sFor, dSeq, dRng1, dRng2, dI, dI0, dB0, dAdd, dIsN, dNotN, isNon, dIx, dSetL, dNeg, one, two, dLen1, dListOf1, dTupOf1, dAbs1, dIntOf1, dII, marg, dAppend1, dExtend1, dIsi, isA, dSl, dPart, dNoPart, dCut, dLc, dYes, sRaise, sTry, exBy, sPar2, sPar3, dIsBl, dNotBl, dBM, dBM0, dEq, dNe, dIn, dstart, fnE_nx, fnE_rt, fnE_ex, Nat.zero_le, Nat.reduceLeDiff, decide_true, decide_false, true_or, or_true, false_or, or_false, decide_eq_true_eq, exists_eq_left', exists_eq_left, exists_eq_right, exists_eq_right', Option.some.injEq, List.cons.injEq, D.int.injEq, D.bl.injEq, D.str.injEq, D.tup.injEq, D.lro.injEq, D.ref.injEq, DO.lst.injEq, and_true, true_and, and_false, false_and, exists_false, exists_const, List.getElem?_cons_zero, List.getElem?_cons_succ, List.map_cons, List.map_nil, List.length_cons, List.length_nil, List.replicate_zero, List.replicate_succ, List.append_nil, List.cons_append, List.nil_append, List.set_cons_zero, List.set_cons_succ, Nat.reduceAdd, Nat.reduceSub, Nat.zero_add, reduceIte, Bool.false_eq_true, reduceCtorEq, if_true, if_false, Bool.not_true, Bool.not_false, exists_and_left]
    refine ⟨a, 10, rfl, w2, by decide, by decide, fun x L3 x1 x2 w3 _ => ⟨by simp at hl ⊢; omega, hP _ _ ⟨w3, by simp at hl ⊢; omega, xs ++ [x], by simp, fun y hy => ?_⟩⟩⟩
    rcases List.mem_append.mp hy with h | h
    · exact hx y h
    · have : y = x := by simpa using h
      omega
  rintro acc L2 ⟨w2, hl, xs, rfl, hx⟩
  refine ⟨trivial, fun ra hra => ?_⟩
  have hxl : 0 < xs.length := by simp at hl; omega
  simp only [d__law_ring_right_t1, d__law_ring_right_t2, dVar, dC, dOp, dUn, dNil, dCons, dTup, dLst, dCB, dTest, dAnd, dOr, dNot, dAndV, dOrV, dNotV, dIfE, dChain, sNext, sSeq, sBreak, sCont, sDrop, sRet, sRetN, sIf, gdName, gdNil, gdCons, gdTup, gdSub, sAsg, dCall, xOf, sFor, dSeq, dRng1, dRng2, dI, dI0, dB0, dAdd, dIsN, dNotN, isNon, dIx, dSetL, dNeg, one, two, dLen1, dListOf1, dTupOf1, dAbs1, dIntOf1, dII, marg, dAppend1, dExtend1, dIsi, isA, dSl, dPart, dNoPart, dCut, dLc, dYes, sRaise, sTry, exBy, sPar2, sPar3, dIsBl, dNotBl, dBM, dBM0, dEq, dNe, dIn, dstart, fnE_nx, fnE_rt, fnE_ex, Nat.zero_le, Nat.reduceLeDiff, decide_true, decide_false, true_or, or_true, false_or, or_false, decide_eq_true_eq, exists_eq_left', exists_eq_left, exists_eq_right, exists_eq_right', Option.some.injEq, List.cons.injEq, D.int.injEq, D.bl.injEq, D.str.injEq, D.tup.injEq, D.lro.injEq, D.ref.injEq, DO.lst.injEq, and_true, true_and, and_false, false_and, exists_false, exists_const, List.getElem?_cons_zero, List.getElem?_cons_succ, List.map_cons, List.map_nil, List.length_cons, List.length_nil, List.replicate_zero, List.replicate_succ, List.append_nil, List.cons_append, List.nil_append, List.set_cons_zero, List.set_cons_succ, Nat.reduceAdd, Nat.reduceSub, Nat.zero_add, reduceIte, Bool.false_eq_true, reduceCtorEq, if_true, if_false, Bool.not_true, Bool.not_false, exists_and_left]
  intro oa hoa
  obtain ⟨w3, ro3⟩ := w2.new hra (.lst (xs.map .int))
  obtain ⟨w4, oo4⟩ := w3.new hoa (.lst [])
  have hro : ra ≠ oa := fresh_ne updD_same hoa
  have hr4 : upd (upd L2 ra (.lst (xs.map .int))) oa (.lst []) ra = some (.lst (xs.map .int)) := by rw [updD_ne hro, updD_same]
  refine ⟨_, _, isSeq_ref hr4, ?_⟩
  refine forD_ix (RingI a p ra oa xs) _ ?_ ?_ _ _ ⟨⟨_, _, _, _, rfl⟩, w4, hr4, ro3.new w3 hoa, hro, oo4, [], updD_same, rfl, by simp, by simp⟩
  · rintro i d hd s L5 P hP ⟨⟨o4, o5, o6, o7, rfl⟩, w5, hr5, ro5, _, oo5, ys, ho5, hyl, hy, hsc⟩
    rw [List.getElem?_map] at hd
    obtain ⟨x, hxi, rfl⟩ := Option.map_eq_some_iff.mp hd
    have hxr := hx x (List.mem_of_getElem? hxi)
    refine ⟨hr5, ?_⟩
    simp only [d__law_ring_right_b2, dVar, dC, dOp, dUn, dNil, dCons, dTup, dLst, dCB, dTest, dAnd, dOr, dNot, dAndV, dOrV, dNotV, dIfE, dChain, sNext, sSeq, sBreak, sCont, sDrop, sRet, sRetN, sIf, gdName, gdNil, gdCons, gdTup, gdSub, sAsg, dCall, xOf, sFor, dSeq, dRng1, dRng2, dI, dI0, dB0, dAdd, dIsN, dNotN, isNon, dIx, dSetL, dNeg, one, two, dLen1, dListOf1, dTupOf1, dAbs1, dIntOf1, dII, marg, dAppend1, dExtend1, dIsi, isA, dSl, dPart, dNoPart, dCut, dLc, dYes, sRaise, sTry, exBy, sPar2, sPar3, dIsBl, dNotBl, dBM, dBM0, dEq, dNe, dIn, dstart, fnE_nx, fnE_rt, fnE_ex, Nat.zero_le, Nat.reduceLeDiff, decide_true, decide_false, true_or, or_true, false_or, or_false, decide_eq_true_eq, exists_eq_left', exists_eq_left, exists_eq_right, exists_eq_right', Option.some.injEq, List.cons.injEq, D.int.injEq, D.bl.injEq, D.str.injEq, D.tup.injEq, D.lro.injEq, D.ref.injEq, DO.lst.injEq, and_true, true_and, and_false, false_and, exists_false, exists_const, List.getElem?_cons_zero, List.getElem?_cons_succ, List.map_cons, List.map_nil, List.length_cons, List.length_nil, List.replicate_zero, List.replicate_succ, List.append_nil, List.cons_append, List.nil_append, List.set_cons_zero, List.set_cons_succ, Nat.reduceAdd, Nat.reduceSub, Nat.zero_add, reduceIte, Bool.false_eq_true, reduceCtorEq, if_true, if_false, Bool.not_true, Bool.not_false, exists_and_left, dwipe]
    refine ⟨by decide, ?_⟩
    refine lcD_pure (keepB p x) id L5 trivial _ (fun d hd Kt Kf h1 h2 => ?_) [] (by simp [rngD_length]) ?_
    · obtain ⟨m, rfl, m1, m2⟩ := mem_rngD hd
      have m2 : m ≤ 9 := by simp at m2; omega
      simp only [dVar, dC, dOp, dUn, dNil, dCons, dTup, dLst, dCB, dTest, dAnd, dOr, dNot, dAndV, dOrV, dNotV, dIfE, dChain, sNext, sSeq, sBreak, sCont, sDrop, sRet, sRetN, sIf, gdName, gdNil, gdCons, gdTup, gdSub, sAsg, dCall, xOf, sFor, dSeq, dRng1, dRng2, dI, dI0, dB0, dAdd, dIsN, dNotN, isNon, dIx, dSetL, dNeg, one, two, dLen1, dListOf1, dTupOf1, dAbs1, dIntOf1, dII, marg, dAppend1, dExtend1, dIsi, isA, dSl, dPart, dNoPart, dCut, dLc, dYes, sRaise, sTry, exBy, sPar2, sPar3, dIsBl, dNotBl, dBM, dBM0, dEq, dNe, dIn, dstart, fnE_nx, fnE_rt, fnE_ex, Nat.zero_le, Nat.reduceLeDiff, decide_true, decide_false, true_or, or_true, false_or, or_false, decide_eq_true_eq, exists_eq_left', exists_eq_left, exists_eq_right, exists_eq_right', Option.some.injEq, List.cons.injEq, D.int.injEq, D.bl.injEq, D.str.injEq, D.tup.injEq, D.lro.injEq, D.ref.injEq, DO.lst.injEq, and_true, true_and, and_false, false_and, exists_false, exists_const, List.getElem?_cons_zero, List.getElem?_cons_succ, List.map_cons, List.map_nil, List.length_cons, List.length_nil, List.replicate_zero, List.replicate_succ, List.append_nil, List.cons_append, List.nil_append, List.set_cons_zero, List.set_cons_succ, Nat.reduceAdd, Nat.reduceSub, Nat.zero_add, reduceIte, Bool.false_eq_true, reduceCtorEq, if_true, if_false, Bool.not_true, Bool.not_false, exists_and_left, sp_better, wthn]
      refine ⟨.int p, .int m, .int x, ⟨rfl, rfl, rfl⟩, trivial, trivial, trivial, fun h => absurd h (by simp; omega), fun _ => ⟨fun h => absurd h (by simp; omega), fun p' x' y' e1 e2 e3 _ _ _ _ _ _ => ?_⟩⟩
      cases e1
      cases e2
      cases e3
      by_cases h : scr p x ≤ scr p m
      · simp only [h, dVar, dC, dOp, dUn, dNil, dCons, dTup, dLst, dCB, dTest, dAnd, dOr, dNot, dAndV, dOrV, dNotV, dIfE, dChain, sNext, sSeq, sBreak, sCont, sDrop, sRet, sRetN, sIf, gdName, gdNil, gdCons, gdTup, gdSub, sAsg, dCall, xOf, sFor, dSeq, dRng1, dRng2, dI, dI0, dB0, dAdd, dIsN, dNotN, isNon, dIx, dSetL, dNeg, one, two, dLen1, dListOf1, dTupOf1, dAbs1, dIntOf1, dII, marg, dAppend1, dExtend1, dIsi, isA, dSl, dPart, dNoPart, dCut, dLc, dYes, sRaise, sTry, exBy, sPar2, sPar3, dIsBl, dNotBl, dBM, dBM0, dEq, dNe, dIn, dstart, fnE_nx, fnE_rt, fnE_ex, Nat.zero_le, Nat.reduceLeDiff, decide_true, decide_false, true_or, or_true, false_or, or_false, decide_eq_true_eq, exists_eq_left', exists_eq_left, exists_eq_right, exists_eq_right', Option.some.injEq, List.cons.injEq, D.int.injEq, D.bl.injEq, D.str.injEq, D.tup.injEq, D.lro.injEq, D.ref.injEq, DO.lst.injEq, and_true, true_and, and_false, false_and, exists_false, exists_const, List.getElem?_cons_zero, List.getElem?_cons_succ, List.map_cons, List.map_nil, List.length_cons, List.length_nil, List.replicate_zero, List.replicate_succ, List.append_nil, List.cons_append, List.nil_append, List.set_cons_zero, List.set_cons_succ, Nat.reduceAdd, Nat.reduceSub, Nat.zero_add, reduceIte, Bool.false_eq_true, reduceCtorEq, if_true, if_false, Bool.not_true, Bool.not_false, exists_and_left]
        exact h1 (decide_eq_true h)
      · simp only [h, dVar, dC, dOp, dUn, dNil, dCons, dTup, dLst, dCB, dTest, dAnd, dOr, dNot, dAndV, dOrV, dNotV, dIfE, dChain, sNext, sSeq, sBreak, sCont, sDrop, sRet, sRetN, sIf, gdName, gdNil, gdCons, gdTup, gdSub, sAsg, dCall, xOf, sFor, dSeq, dRng1, dRng2, dI, dI0, dB0, dAdd, dIsN, dNotN, isNon, dIx, dSetL, dNeg, one, two, dLen1, dListOf1, dTupOf1, dAbs1, dIntOf1, dII, marg, dAppend1, dExtend1, dIsi, isA, dSl, dPart, dNoPart, dCut, dLc, dYes, sRaise, sTry, exBy, sPar2, sPar3, dIsBl, dNotBl, dBM, dBM0, dEq, dNe, dIn, dstart, fnE_nx, fnE_rt, fnE_ex, Nat.zero_le, Nat.reduceLeDiff, decide_true, decide_false, true_or, or_true, false_or, or_false, decide_eq_true_eq, exists_eq_left', exists_eq_left, exists_eq_right, exists_eq_right', Option.some.injEq, List.cons.injEq, D.int.injEq, D.bl.injEq, D.str.injEq, D.tup.injEq, D.lro.injEq, D.ref.injEq, DO.lst.injEq, and_true, true_and, and_false, false_and, exists_false, exists_const, List.getElem?_cons_zero, List.getElem?_cons_succ, List.map_cons, List.map_nil, List.length_cons, List.length_nil, List.replicate_zero, List.replicate_succ, List.append_nil, List.cons_append, List.nil_append, List.set_cons_zero, List.set_cons_succ, Nat.reduceAdd, Nat.reduceSub, Nat.zero_add, reduceIte, Bool.false_eq_true, reduceCtorEq, if_true, if_false, Bool.not_true, Bool.not_false, exists_and_left]
        exact h2 (decide_eq_false h)
    · rw [List.nil_append, show ((10 : Int).toNat) = 10 from rfl, betters_eq]
      intro qa hqa
      obtain ⟨w6, oq6⟩ := w5.new hqa (.lst ((betters p x).map .int))
      simp only [d__law_ring_right_t2b1, dVar, dC, dOp, dUn, dNil, dCons, dTup, dLst, dCB, dTest, dAnd, dOr, dNot, dAndV, dOrV, dNotV, dIfE, dChain, sNext, sSeq, sBreak, sCont, sDrop, sRet, sRetN, sIf, gdName, gdNil, gdCons, gdTup, gdSub, sAsg, dCall, xOf, sFor, dSeq, dRng1, dRng2, dI, dI0, dB0, dAdd, dIsN, dNotN, isNon, dIx, dSetL, dNeg, one, two, dLen1, dListOf1, dTupOf1, dAbs1, dIntOf1, dII, marg, dAppend1, dExtend1, dIsi, isA, dSl, dPart, dNoPart, dCut, dLc, dYes, sRaise, sTry, exBy, sPar2, sPar3, dIsBl, dNotBl, dBM, dBM0, dEq, dNe, dIn, dstart, fnE_nx, fnE_rt, fnE_ex, Nat.zero_le, Nat.reduceLeDiff, decide_true, decide_false, true_or, or_true, false_or, or_false, decide_eq_true_eq, exists_eq_left', exists_eq_left, exists_eq_right, exists_eq_right', Option.some.injEq, List.cons.injEq, D.int.injEq, D.bl.injEq, D.str.injEq, D.tup.injEq, D.lro.injEq, D.ref.injEq, DO.lst.injEq, and_true, true_and, and_false, false_and, exists_false, exists_const, List.getElem?_cons_zero, List.getElem?_cons_succ, List.map_cons, List.map_nil, List.length_cons, List.length_nil, List.replicate_zero, List.replicate_succ, List.append_nil, List.cons_append, List.nil_append, List.set_cons_zero, List.set_cons_succ, Nat.reduceAdd, Nat.reduceSub, Nat.zero_add, reduceIte, Bool.false_eq_true, reduceCtorEq, if_true, if_false, Bool.not_true, Bool.not_false, exists_and_left]
      intro na hna
      obtain ⟨w7, _⟩ := w6.new hna (.lst [])
      have hqn : qa ≠ na := fresh_ne updD_same hna
      have e7 : upd (upd L5 qa (.lst ((betters p x).map .int))) na (.lst []) qa = some (.lst ((betters p x).map .int)) := by rw [updD_ne hqn, updD_same]
      have hxm : x ∈ betters p x := betters_mem.mpr ⟨hxr, Int.le_refl _⟩
      have hne : decide (betters p x = []) = false := decide_eq_false fun e => by rw [e] at hxm; cases hxm
      rw [eq_nil_ints e7 updD_same, hne]
      simp only [d__law_ring_right_t2b2, dVar, dC, dOp, dUn, dNil, dCons, dTup, dLst, dCB, dTest, dAnd, dOr, dNot, dAndV, dOrV, dNotV, dIfE, dChain, sNext, sSeq, sBreak, sCont, sDrop, sRet, sRetN, sIf, gdName, gdNil, gdCons, gdTup, gdSub, sAsg, dCall, xOf, sFor, dSeq, dRng1, dRng2, dI, dI0, dB0, dAdd, dIsN, dNotN, isNon, dIx, dSetL, dNeg, one, two, dLen1, dListOf1, dTupOf1, dAbs1, dIntOf1, dII, marg, dAppend1, dExtend1, dIsi, isA, dSl, dPart, dNoPart, dCut, dLc, dYes, sRaise, sTry, exBy, sPar2, sPar3, dIsBl, dNotBl, dBM, dBM0, dEq, dNe, dIn, dstart, fnE_nx, fnE_rt, fnE_ex, Nat.zero_le, Nat.reduceLeDiff, decide_true, decide_false, true_or, or_true, false_or, or_false, decide_eq_true_eq, exists_eq_left', exists_eq_left, exists_eq_right, exists_eq_right', Option.some.injEq, List.cons.injEq, D.int.injEq, D.bl.injEq, D.str.injEq, D.tup.injEq, D.lro.injEq, D.ref.injEq, DO.lst.injEq, and_true, true_and, and_false, false_and, exists_false, exists_const, List.getElem?_cons_zero, List.getElem?_cons_succ, List.map_cons, List.map_nil, List.length_cons, List.length_nil, List.replicate_zero, List.replicate_succ, List.append_nil, List.cons_append, List.nil_append, List.set_cons_zero, List.set_cons_succ, Nat.reduceAdd, Nat.reduceSub, Nat.zero_add, reduceIte, Bool.false_eq_true, reduceCtorEq, if_true, if_false, Bool.not_true, Bool.not_false, exists_and_left]
      have oo7 := (oo5.new w5 hqa (o := .lst ((betters p x).map .int))).new w6 hna (o := .lst [])
      have ro7 := (ro5.new w5 hqa (o := .lst ((betters p x).map .int))).new w6 hna (o := .lst [])
      have oq7 := oq6.new w6 hna (o := .lst [])
      have hoq : oa ≠ qa := fresh_ne ho5 hqa
      have hrq : ra ≠ qa := fresh_ne hr5 hqa
      have hon : oa ≠ na := fresh_ne (by rw [updD_ne hoq]; exact ho5) hna
      have hrn : ra ≠ na := fresh_ne (by rw [updD_ne hrq]; exact hr5) hna
      have ho7 : upd (upd L5 qa (.lst ((betters p x).map .int))) na (.lst []) oa = some (.lst (ys.map .int)) := by rw [updD_ne hon, updD_ne hoq]; exact ho5
      have hr7 : upd (upd L5 qa (.lst ((betters p x).map .int))) na (.lst []) ra = some (.lst (xs.map .int)) := by rw [updD_ne hrn, updD_ne hrq]; exact hr5
      refine ⟨⟨_, lstOf_ref ho7⟩, _, e7, ?_⟩
      have hbl : (0 : Int) < (betters p x).length := by
        have := List.length_pos_of_mem hxm
        omega
      have hbl2 : (betters p x).length ≤ 10 := by
        have := List.length_filter_le (fun m => decide (scr p x ≤ scr p m)) ((List.range 10).map fun (i : Nat) => (0 + (i : Int)))
        simpa [betters] using this
      refine ⟨a, _, rfl, w7, by rw [List.length_map]; omega, by rw [List.length_map]; omega, fun r L8 r1 r2 w8 f8 => ?_⟩
      obtain ⟨h8q, _⟩ := f8 _ _ e7 oq7
      obtain ⟨h8o, oo8⟩ := f8 _ _ ho7 oo7
      obtain ⟨h8r, ro8⟩ := f8 _ _ hr7 ro7
      obtain ⟨m, hm, hmm⟩ := atI_ints (ns := betters p x) r1 (by simpa using r2)
      have hm2 := betters_mem.mp hmm
      refine ⟨_, h8q, _, hm, ?_⟩
      simp only [dVar, dC, dOp, dUn, dNil, dCons, dTup, dLst, dCB, dTest, dAnd, dOr, dNot, dAndV, dOrV, dNotV, dIfE, dChain, sNext, sSeq, sBreak, sCont, sDrop, sRet, sRetN, sIf, gdName, gdNil, gdCons, gdTup, gdSub, sAsg, dCall, xOf, sFor, dSeq, dRng1, dRng2, dI, dI0, dB0, dAdd, dIsN, dNotN, isNon, dIx, dSetL, dNeg, one, two, dLen1, dListOf1, dTupOf1, dAbs1, dIntOf1, dII, marg, dAppend1, dExtend1, dIsi, isA, dSl, dPart, dNoPart, dCut, dLc, dYes, sRaise, sTry, exBy, sPar2, sPar3, dIsBl, dNotBl, dBM, dBM0, dEq, dNe, dIn, dstart, fnE_nx, fnE_rt, fnE_ex, Nat.zero_le, Nat.reduceLeDiff, decide_true, decide_false, true_or, or_true, false_or, or_false, decide_eq_true_eq, exists_eq_left', exists_eq_left, exists_eq_right, exists_eq_right', Option.some.injEq, List.cons.injEq, D.int.injEq, D.bl.injEq, D.str.injEq, D.tup.injEq, D.lro.injEq, D.ref.injEq, DO.lst.injEq, and_true, true_and, and_false, false_and, exists_false, exists_const, List.getElem?_cons_zero, List.getElem?_cons_succ, List.map_cons, List.map_nil, List.length_cons, List.length_nil, List.replicate_zero, List.replicate_succ, List.append_nil, List.cons_append, List.nil_append, List.set_cons_zero, List.set_cons_succ, Nat.reduceAdd, Nat.reduceSub, Nat.zero_add, reduceIte, Bool.false_eq_true, reduceCtorEq, if_true, if_false, Bool.not_true, Bool.not_false, exists_and_left, h8o]
      have hyl' : ys.length ≤ 12 := by
        have := (List.getElem?_eq_some_iff.mp hxi).1
        simp at hl
        omega
      refine ⟨by simp; omega, hP _ _ ?_⟩
      obtain ⟨w9, o9⟩ := w8.beside oo8 (.lst (ys.map D.int ++ [.int m]))
      refine ⟨⟨_, _, _, _, rfl⟩, w9, by rw [updD_ne hro]; exact h8r, o9 _ ro8, hro, o9 _ oo8, ys ++ [m], by rw [updD_same]; simp, by simp; omega, fun y hy' => ?_, fun j x' y' e1 e2 => ?_⟩
      · rcases List.mem_append.mp hy' with h | h
        · exact hy y h
        · have : y = m := by simpa using h
          subst this
          exact hm2.1
      · by_cases hj : j < ys.length
        · rw [List.getElem?_append_left hj] at e2
          exact hsc j x' y' e1 e2
        · rw [List.getElem?_append_right (by omega)] at e2
          have hj0 : j - ys.length = 0 := by
            have := (List.getElem?_eq_some_iff.mp e2).1
            simp at this
            omega
          rw [hj0] at e2
          have em : m = y' := by simpa using e2
          have ej : j = i := by omega
          subst ej em
          rw [hxi] at e1
          cases e1
          exact hm2.2
  · rintro s L5 ⟨⟨o4, o5, o6, o7, rfl⟩, w5, hr5, ro5, _, oo5, ys, ho5, hyl, hy, hsc⟩
    refine ⟨hr5, ?_⟩
    simp only [d__law_ring_right_t3, dVar, dC, dOp, dUn, dNil, dCons, dTup, dLst, dCB, dTest, dAnd, dOr, dNot, dAndV, dOrV, dNotV, dIfE, dChain, sNext, sSeq, sBreak, sCont, sDrop, sRet, sRetN, sIf, gdName, gdNil, gdCons, gdTup, gdSub, sAsg, dCall, xOf, sFor, dSeq, dRng1, dRng2, dI, dI0, dB0, dAdd, dIsN, dNotN, isNon, dIx, dSetL, dNeg, one, two, dLen1, dListOf1, dTupOf1, dAbs1, dIntOf1, dII, marg, dAppend1, dExtend1, dIsi, isA, dSl, dPart, dNoPart, dCut, dLc, dYes, sRaise, sTry, exBy, sPar2, sPar3, dIsBl, dNotBl, dBM, dBM0, dEq, dNe, dIn, dstart, fnE_nx, fnE_rt, fnE_ex, Nat.zero_le, Nat.reduceLeDiff, decide_true, decide_false, true_or, or_true, false_or, or_false, decide_eq_true_eq, exists_eq_left', exists_eq_left, exists_eq_right, exists_eq_right', Option.some.injEq, List.cons.injEq, D.int.injEq, D.bl.injEq, D.str.injEq, D.tup.injEq, D.lro.injEq, D.ref.injEq, DO.lst.injEq, and_true, true_and, and_false, false_and, exists_false, exists_const, List.getElem?_cons_zero, List.getElem?_cons_succ, List.map_cons, List.map_nil, List.length_cons, List.length_nil, List.replicate_zero, List.replicate_succ, List.append_nil, List.cons_append, List.nil_append, List.set_cons_zero, List.set_cons_succ, Nat.reduceAdd, Nat.reduceSub, Nat.zero_add, reduceIte, Bool.false_eq_true, reduceCtorEq, if_true, if_false, Bool.not_true, Bool.not_false, exists_and_left]
    refine ⟨.ref ra, xs, rfl, lstOf_ref hr5, hxl, fun M hM hM2 => ?_⟩
    simp only [dVar, dC, dOp, dUn, dNil, dCons, dTup, dLst, dCB, dTest, dAnd, dOr, dNot, dAndV, dOrV, dNotV, dIfE, dChain, sNext, sSeq, sBreak, sCont, sDrop, sRet, sRetN, sIf, gdName, gdNil, gdCons, gdTup, gdSub, sAsg, dCall, xOf, sFor, dSeq, dRng1, dRng2, dI, dI0, dB0, dAdd, dIsN, dNotN, isNon, dIx, dSetL, dNeg, one, two, dLen1, dListOf1, dTupOf1, dAbs1, dIntOf1, dII, marg, dAppend1, dExtend1, dIsi, isA, dSl, dPart, dNoPart, dCut, dLc, dYes, sRaise, sTry, exBy, sPar2, sPar3, dIsBl, dNotBl, dBM, dBM0, dEq, dNe, dIn, dstart, fnE_nx, fnE_rt, fnE_ex, Nat.zero_le, Nat.reduceLeDiff, decide_true, decide_false, true_or, or_true, false_or, or_false, decide_eq_true_eq, exists_eq_left', exists_eq_left, exists_eq_right, exists_eq_right', Option.some.injEq, List.cons.injEq, D.int.injEq, D.bl.injEq, D.str.injEq, D.tup.injEq, D.lro.injEq, D.ref.injEq, DO.lst.injEq, and_true, true_and, and_false, false_and, exists_false, exists_const, List.getElem?_cons_zero, List.getElem?_cons_succ, List.map_cons, List.map_nil, List.length_cons, List.length_nil, List.replicate_zero, List.replicate_succ, List.append_nil, List.cons_append, List.nil_append, List.set_cons_zero, List.set_cons_succ, Nat.reduceAdd, Nat.reduceSub, Nat.zero_add, reduceIte, Bool.false_eq_true, reduceCtorEq, if_true, if_false, Bool.not_true, Bool.not_false, exists_and_left, eqD_int]
    refine ⟨by decide, ?_⟩
    have qq := endOf (q L5 w5)
    have eyl : ys.length = xs.length := by rw [hyl]; simp
    by_cases e : M % 2 = p
    · simp only [e, dVar, dC, dOp, dUn, dNil, dCons, dTup, dLst, dCB, dTest, dAnd, dOr, dNot, dAndV, dOrV, dNotV, dIfE, dChain, sNext, sSeq, sBreak, sCont, sDrop, sRet, sRetN, sIf, gdName, gdNil, gdCons, gdTup, gdSub, sAsg, dCall, xOf, sFor, dSeq, dRng1, dRng2, dI, dI0, dB0, dAdd, dIsN, dNotN, isNon, dIx, dSetL, dNeg, one, two, dLen1, dListOf1, dTupOf1, dAbs1, dIntOf1, dII, marg, dAppend1, dExtend1, dIsi, isA, dSl, dPart, dNoPart, dCut, dLc, dYes, sRaise, sTry, exBy, sPar2, sPar3, dIsBl, dNotBl, dBM, dBM0, dEq, dNe, dIn, dstart, fnE_nx, fnE_rt, fnE_ex, Nat.zero_le, Nat.reduceLeDiff, decide_true, decide_false, true_or, or_true, false_or, or_false, decide_eq_true_eq, exists_eq_left', exists_eq_left, exists_eq_right, exists_eq_right', Option.some.injEq, List.cons.injEq, D.int.injEq, D.bl.injEq, D.str.injEq, D.tup.injEq, D.lro.injEq, D.ref.injEq, DO.lst.injEq, and_true, true_and, and_false, false_and, exists_false, exists_const, List.getElem?_cons_zero, List.getElem?_cons_succ, List.map_cons, List.map_nil, List.length_cons, List.length_nil, List.replicate_zero, List.replicate_succ, List.append_nil, List.cons_append, List.nil_append, List.set_cons_zero, List.set_cons_succ, Nat.reduceAdd, Nat.reduceSub, Nat.zero_add, reduceIte, Bool.false_eq_true, reduceCtorEq, if_true, if_false, Bool.not_true, Bool.not_false, exists_and_left, bne_self_eq_false, beq_self_eq_true]
      refine ⟨.ref oa, ys, rfl, lstOf_ref ho5, by omega, fun N hN hN2 => ?_⟩
      simp only [dVar, dC, dOp, dUn, dNil, dCons, dTup, dLst, dCB, dTest, dAnd, dOr, dNot, dAndV, dOrV, dNotV, dIfE, dChain, sNext, sSeq, sBreak, sCont, sDrop, sRet, sRetN, sIf, gdName, gdNil, gdCons, gdTup, gdSub, sAsg, dCall, xOf, sFor, dSeq, dRng1, dRng2, dI, dI0, dB0, dAdd, dIsN, dNotN, isNon, dIx, dSetL, dNeg, one, two, dLen1, dListOf1, dTupOf1, dAbs1, dIntOf1, dII, marg, dAppend1, dExtend1, dIsi, isA, dSl, dPart, dNoPart, dCut, dLc, dYes, sRaise, sTry, exBy, sPar2, sPar3, dIsBl, dNotBl, dBM, dBM0, dEq, dNe, dIn, dstart, fnE_nx, fnE_rt, fnE_ex, Nat.zero_le, Nat.reduceLeDiff, decide_true, decide_false, true_or, or_true, false_or, or_false, decide_eq_true_eq, exists_eq_left', exists_eq_left, exists_eq_right, exists_eq_right', Option.some.injEq, List.cons.injEq, D.int.injEq, D.bl.injEq, D.str.injEq, D.tup.injEq, D.lro.injEq, D.ref.injEq, DO.lst.injEq, and_true, true_and, and_false, false_and, exists_false, exists_const, List.getElem?_cons_zero, List.getElem?_cons_succ, List.map_cons, List.map_nil, List.length_cons, List.length_nil, List.replicate_zero, List.replicate_succ, List.append_nil, List.cons_append, List.nil_append, List.set_cons_zero, List.set_cons_succ, Nat.reduceAdd, Nat.reduceSub, Nat.zero_add, reduceIte, Bool.false_eq_true, reduceCtorEq, if_true, if_false, Bool.not_true, Bool.not_false, exists_and_left, eqD_int]
      refine ⟨by decide, ?_⟩
      rw [max_ring eyl (fun x h => (hx x h).1) (fun x h => (hy x h).1) hsc hM hM2 hN hN2 e]
      simpa using qq
    · have : (M % 2 == p) = false := beq_eq_false_iff_ne.mpr e
      simp only [this, dVar, dC, dOp, dUn, dNil, dCons, dTup, dLst, dCB, dTest, dAnd, dOr, dNot, dAndV, dOrV, dNotV, dIfE, dChain, sNext, sSeq, sBreak, sCont, sDrop, sRet, sRetN, sIf, gdName, gdNil, gdCons, gdTup, gdSub, sAsg, dCall, xOf, sFor, dSeq, dRng1, dRng2, dI, dI0, dB0, dAdd, dIsN, dNotN, isNon, dIx, dSetL, dNeg, one, two, dLen1, dListOf1, dTupOf1, dAbs1, dIntOf1, dII, marg, dAppend1, dExtend1, dIsi, isA, dSl, dPart, dNoPart, dCut, dLc, dYes, sRaise, sTry, exBy, sPar2, sPar3, dIsBl, dNotBl, dBM, dBM0, dEq, dNe, dIn, dstart, fnE_nx, fnE_rt, fnE_ex, Nat.zero_le, Nat.reduceLeDiff, decide_true, decide_false, true_or, or_true, false_or, or_false, decide_eq_true_eq, exists_eq_left', exists_eq_left, exists_eq_right, exists_eq_right', Option.some.injEq, List.cons.injEq, D.int.injEq, D.bl.injEq, D.str.injEq, D.tup.injEq, D.lro.injEq, D.ref.injEq, DO.lst.injEq, and_true, true_and, and_false, false_and, exists_false, exists_const, List.getElem?_cons_zero, List.getElem?_cons_succ, List.map_cons, List.map_nil, List.length_cons, List.length_nil, List.replicate_zero, List.replicate_succ, List.append_nil, List.cons_append, List.nil_append, List.set_cons_zero, List.set_cons_succ, Nat.reduceAdd, Nat.reduceSub, Nat.zero_add, reduceIte, Bool.false_eq_true, reduceCtorEq, if_true, if_false, Bool.not_true, Bool.not_false, exists_and_left]
      exact qq
theorem ok__law_ring_right {P : Program} {w : World} {K : PySem.W.Frag} {mg : Str → Option Value} {base : Heap} (D : DefAt K mg "_law_ring_right" s__law_ring_right) (z_range : mg "range" = none) (o__law_draw : Ok P w K mg base "_law_draw" (1) ["well", "many"] sp_law_draw) (o_better : Ok P w K mg base "better" (4) ["player", "a", "b"] sp_better) (z_len : mg "len" = none) (z_max : mg "max" = none) : Ok P w K mg base "_law_ring_right" (5) ["well", "player"] sp_law_ring_right := by
  obtain ⟨f, fd, gm, F⟩ := D.ex
  refine ⟨f, fd, Fun.okD (k := 5 - 1) F sc__law_ring_right (len_law_ring_right ) (pure_law_ring_right ) (fun cdv A outer s H E hr => ?_), gm, F.kp, F.binds (ps := ["well", "player"]) (fun _ _ _ _ _ _ us hl => match us, hl with | [_, _], _ => rfl), F.lk⟩
  have nd := sc__law_ring_right.nd
  have hu := hr.units
  have tk : Takes (cxOf (L2.CX P w) P w K mg base ["well", "player", "ring", "other", "mark", "better_ones", "k", "m"] "_law_ring_right" (defScope s__law_ring_right) f cdv A outer s H E) (wE E) := takes_of rfl rfl rfl rfl
  exact (qss_cons (qs_setLc (i := 2) (own := [("k", 6)]) rfl nd (qi_rng1 z_range (qa_cons (q_op op_addAll opd_add q_int (q_callO o__law_draw (hr.mono (by omega)) tk (qa_cons (qv 0) (qa_cons q_int qa_nil)))) qa_nil)) (blkOk_by (N := ["well", "player", "ring", "other", "mark", "better_ones", "k", "m"]) (sc := defScope s__law_ring_right) (by decide +kernel)) (fun _ _ _ _ _ => (pg_name (i := 6) nd rfl (by first | exact Or.inl rfl | exact Or.inr rfl))) (lgo_name 6) (fun _ _ _ _ _ => qts_nil) (fun _ _ _ _ _ => (q_callO o__law_draw (hr.mono (by omega)) takes0 (qa_cons (qv 0) (qa_cons q_int qa_nil)))) (sw_true rfl rfl rfl (by decide +kernel)))
  (qss_cons (qs_set (i := 3) nd (q_lst qa_nil))
  (qss_cons (qs_for (passes_of rfl) rfl (qi_seq (qv 2)) (qg_name 4 nd)
  (qss_cons (qs_setLc (i := 5) (own := [("m", 7)]) rfl nd (qi_rng1 z_range (qa_cons q_int qa_nil)) (blkOk_by (N := ["well", "player", "ring", "other", "mark", "better_ones", "k", "m"]) (sc := defScope s__law_ring_right) (by decide +kernel)) (fun _ _ _ _ _ => (pg_name (i := 7) nd rfl (by first | exact Or.inl rfl | exact Or.inr rfl))) (lgo_name 7) (fun _ _ _ _ _ => (qts_one (qt_cmp op_isBl opd_isBl (q_callO o_better (hr.mono (by omega)) takes0 (qa_cons (qv 1) (qa_cons (qv 7) (qa_cons (qv 4) qa_nil)))) q_bl (nomark _)))) (fun _ _ _ _ _ => (qv 7)) (sw_true rfl rfl rfl (by decide +kernel)))
  (qss_cons (qs_if (qt_cmp (op_eqD hu) opd_eq (qv 5) (q_lst qa_nil) (nomark _)) (qss_one (qs_ret q_bl)) qss_nil)
  (qss_one (qs_expr (q_bm PySem.F.plainAttrs_list PySem.F.slot_list_append PySem.F.type_list_append mt_append chkL_ok md_append (qv 3) (qa_cons (q_ix ix_seq opd_ix (qv 5) (q_callO o__law_draw (hr.mono (by omega)) tk (qa_cons (qv 0) (qa_cons (q_callB call_len cd_len rfl z_len (by decide +kernel) (qa_cons (qv 5) qa_nil)) qa_nil))) (fun _ _ => rfl)) qa_nil)))))))
  (qss_one (qs_ret (qe_or (q_cmp (op_neD hu) opd_ne (q_op op_mod opd_I (q_callB (cr_max rfl) cd_maxL rfl z_max (by decide +kernel) (qa_cons (qv 2) qa_nil)) q_int) (qv 1) (nomark _)) (qe_one (q_cmp (op_eqD hu) opd_eq (q_op op_mod opd_I (q_callB (cr_max rfl) cd_maxL rfl z_max (by decide +kernel) (qa_cons (qv 3) qa_nil)) q_int) (qv 1) (nomark _)))))))))

/-! the law -/
theorem atI_tab {n : Nat} {xs : List D} (hn : xs.length = n) {r : Int} (h0 : 0 ≤ r) (h1 : r < n) : ∃ d, atI xs r = some d ∧ d ∈ xs := by
  obtain ⟨d, e, _, hd⟩ := atI_in (xs := xs) h0 (by omega)
  exact ⟨d, e, hd⟩
def badP : List D := [.int 2, .int (-1), .bl true, .non, .str "0", .int (10 ^ (30 : Int).toNat), .tup [.int 0]]
def badM : List D := [.int 10, .int (-1), .bl false, .non, .str "3", .int (10 ^ (40 : Int).toNat), .tup [.int 3]]
theorem badP_ok {L : DH} {d : D} (h : d ∈ badP) : Known L d ∧ wthn d 0 1 = false := by
  simp only [badP, List.mem_cons, List.not_mem_nil, or_false] at h
  rcases h with rfl | rfl | rfl | rfl | rfl | rfl | rfl
  · exact ⟨trivial, by decide⟩
  · exact ⟨trivial, by decide⟩
  · exact ⟨trivial, rfl⟩
  · exact ⟨trivial, rfl⟩
  · exact ⟨trivial, rfl⟩
  · exact ⟨trivial, by decide⟩
  · exact ⟨trivial, rfl⟩
theorem badM_ok {L : DH} {d : D} (h : d ∈ badM) : Known L d ∧ wthn d 0 9 = false := by
  simp only [badM, List.mem_cons, List.not_mem_nil, or_false] at h
  rcases h with rfl | rfl | rfl | rfl | rfl | rfl | rfl
  · exact ⟨trivial, by decide⟩
  · exact ⟨trivial, by decide⟩
  · exact ⟨trivial, rfl⟩
  · exact ⟨trivial, rfl⟩
  · exact ⟨trivial, rfl⟩
  · exact ⟨trivial, by decide⟩
  · exact ⟨trivial, rfl⟩
def sp_law : SpD := fun ds L Q _ => ∃ ns : List Int, ds = [.lro (ns.map .int)] ∧ ns.length ≤ 63 ∧ ∀ L', Q (.bl true) L'
theorem len_law : ∀ as L Q E, sp_law as L Q E → as.length = 1 := by rintro _ L Q E ⟨p, rfl, _⟩; rfl
def d_law_t8 : DS :=
  (sRet (dOp dIsN (dCall sp_law_refusal (dCons (dVar 2) (dCons (dVar 5) (dCons (dOp dSub (dC (.int 9)) (dVar 5)) dNil)))) (dC .non)))
def d_law_t7 : DS :=
  (sSeq (sIf (dOr (dTest (dOp dNe (dCall sp_law_refusal (dCons (dVar 2) (dCons (dVar 4) (dCons (dVar 5) dNil)))) (dC (.str "mark")))) (dTest (dOp dNe (dCall sp_law_refusal (dCons (dVar 2) (dCons (dVar 5) (dCons (dVar 4) dNil)))) (dC (.str "mark"))))) (sRet (dC (.bl false))) sNext) d_law_t8)
def d_law_t6 : DS :=
  (sSeq (sIf (dOr (dTest (dOp dNe (dCall sp_law_refusal (dCons (dVar 3) (dCons (dVar 5) (dCons (dVar 5) dNil)))) (dC (.str "player")))) (dTest (dOp dNe (dCall sp_law_refusal (dCons (dVar 3) (dCons (dVar 4) (dCons (dVar 5) dNil)))) (dC (.str "player"))))) (sRet (dC (.bl false))) sNext) d_law_t7)
def d_law_t5 : DS :=
  (sSeq (sAsg (dCall sp_law_draw (dCons (dVar 1) (dCons (dC (.int 10)) dNil))) (gdName 5)) d_law_t6)
def d_law_t4 : DS :=
  (sSeq (sAsg (dOp dIx (dLst (dCons (dC (.int 10)) (dCons (dUn dNeg (dC (.int 1))) (dCons (dC (.bl false)) (dCons (dC .non) (dCons (dC (.str "3")) (dCons (dOp dPow (dC (.int 10)) (dC (.int 40))) (dCons (dTup (dCons (dC (.int 3)) dNil)) dNil)))))))) (dCall sp_law_draw (dCons (dVar 1) (dCons (dC (.int 7)) dNil)))) (gdName 4)) d_law_t5)
def d_law_t3 : DS :=
  (sSeq (sAsg (dOp dIx (dLst (dCons (dC (.int 2)) (dCons (dUn dNeg (dC (.int 1))) (dCons (dC (.bl true)) (dCons (dC .non) (dCons (dC (.str "0")) (dCons (dOp dPow (dC (.int 10)) (dC (.int 30))) (dCons (dTup (dCons (dC (.int 0)) dNil)) dNil)))))))) (dCall sp_law_draw (dCons (dVar 1) (dCons (dC (.int 7)) dNil)))) (gdName 3)) d_law_t4)
def d_law_t2 : DS :=
  (sSeq (sIf (dOr (dNot (dTest (dCall sp_law_pairs_right (dCons (dVar 2) (dCons (dCall sp_law_draw (dCons (dVar 1) (dCons (dC (.int 10)) dNil))) dNil))))) (dNot (dTest (dCall sp_law_ring_right (dCons (dVar 1) (dCons (dVar 2) dNil)))))) (sRet (dC (.bl false))) sNext) d_law_t3)
def d_law_t1 : DS :=
  (sSeq (sAsg (dCall sp_law_draw (dCons (dVar 1) (dCons (dC (.int 2)) dNil))) (gdName 2)) d_law_t2)
def d_law : DS :=
  (sSeq (sAsg (dCall sp_law_well (dCons (dVar 0) dNil)) (gdName 1)) d_law_t1)

theorem dx_known {L : DH} {i : Int} : Known L (.int i) := trivial
theorem law_t7 {Q : DK} {E : XD} {a : Addr} {p m : Int} {bp bm : D} (q : ∀ L', Q (.bl true) L') (p1 : 0 ≤ p) (p2 : p ≤ 1) (m1 : 0 ≤ m) (m2 : m ≤ 9) (hp : bp ∈ badP) (hm : bm ∈ badM) {s0 : Option D} (L : DH) :
    d_law_t6 (fnEnds Q E) [s0, some (.ref a), some (.int p), some bp, some bm, some (.int m)] L := by
  obtain ⟨kp, wp⟩ := badP_ok (L := L) hp
  obtain ⟨km, wm⟩ := badM_ok (L := L) hm
  have wi : wthn (.int p) 0 1 = true := decide_eq_true ⟨p1, p2⟩
  have wj : wthn (.int m) 0 9 = true := decide_eq_true ⟨m1, m2⟩
  have wk : wthn (.int (9 - m)) 0 9 = true := decide_eq_true (by omega)
  simp only [d_law_t6, d_law_t7, d_law_t8, sp_law_refusal, dVar, dC, dOp, dUn, dNil, dCons, dTup, dLst, dCB, dTest, dAnd, dOr, dNot, dAndV, dOrV, dNotV, dIfE, dChain, sNext, sSeq, sBreak, sCont, sDrop, sRet, sRetN, sIf, gdName, gdNil, gdCons, gdTup, gdSub, sAsg, dCall, xOf, sFor, dSeq, dRng1, dRng2, dI, dI0, dB0, dAdd, dIsN, dNotN, isNon, dIx, dSetL, dNeg, one, two, dLen1, dListOf1, dTupOf1, dAbs1, dIntOf1, dII, marg, dAppend1, dExtend1, dIsi, isA, dSl, dPart, dNoPart, dCut, dLc, dYes, sRaise, sTry, exBy, sPar2, sPar3, dIsBl, dNotBl, dBM, dBM0, dEq, dNe, dIn, dstart, fnE_nx, fnE_rt, fnE_ex, Nat.zero_le, Nat.reduceLeDiff, decide_true, decide_false, true_or, or_true, false_or, or_false, decide_eq_true_eq, exists_eq_left', exists_eq_left, exists_eq_right, exists_eq_right', Option.some.injEq, List.cons.injEq, D.int.injEq, D.bl.injEq, D.str.injEq, D.tup.injEq, D.lro.injEq, D.ref.injEq, DO.lst.injEq, and_true, true_and, and_false, false_and, exists_false, exists_const, List.getElem?_cons_zero, List.getElem?_cons_succ, List.map_cons, List.map_nil, List.length_cons, List.length_nil, List.replicate_zero, List.replicate_succ, List.append_nil, List.cons_append, List.nil_append, List.set_cons_zero, List.set_cons_succ, Nat.reduceAdd, Nat.reduceSub, Nat.zero_add, reduceIte, Bool.false_eq_true, reduceCtorEq, if_true, if_false, Bool.not_true, Bool.not_false, exists_and_left]
  refine ⟨bp, _, _, ⟨rfl, rfl, rfl⟩, kp, trivial, trivial, ?_⟩
  simp only [wp, dVar, dC, dOp, dUn, dNil, dCons, dTup, dLst, dCB, dTest, dAnd, dOr, dNot, dAndV, dOrV, dNotV, dIfE, dChain, sNext, sSeq, sBreak, sCont, sDrop, sRet, sRetN, sIf, gdName, gdNil, gdCons, gdTup, gdSub, sAsg, dCall, xOf, sFor, dSeq, dRng1, dRng2, dI, dI0, dB0, dAdd, dIsN, dNotN, isNon, dIx, dSetL, dNeg, one, two, dLen1, dListOf1, dTupOf1, dAbs1, dIntOf1, dII, marg, dAppend1, dExtend1, dIsi, isA, dSl, dPart, dNoPart, dCut, dLc, dYes, sRaise, sTry, exBy, sPar2, sPar3, dIsBl, dNotBl, dBM, dBM0, dEq, dNe, dIn, dstart, fnE_nx, fnE_rt, fnE_ex, Nat.zero_le, Nat.reduceLeDiff, decide_true, decide_false, true_or, or_true, false_or, or_false, decide_eq_true_eq, exists_eq_left', exists_eq_left, exists_eq_right, exists_eq_right', Option.some.injEq, List.cons.injEq, D.int.injEq, D.bl.injEq, D.str.injEq, D.tup.injEq, D.lro.injEq, D.ref.injEq, DO.lst.injEq, and_true, true_and, and_false, false_and, exists_false, exists_const, List.getElem?_cons_zero, List.getElem?_cons_succ, List.map_cons, List.map_nil, List.length_cons, List.length_nil, List.replicate_zero, List.replicate_succ, List.append_nil, List.cons_append, List.nil_append, List.set_cons_zero, List.set_cons_succ, Nat.reduceAdd, Nat.reduceSub, Nat.zero_add, reduceIte, Bool.false_eq_true, reduceCtorEq, if_true, if_false, Bool.not_true, Bool.not_false, exists_and_left, eqD_str, bne_self_eq_false, beq_self_eq_true]
  refine ⟨bp, bm, _, ⟨rfl, rfl, rfl⟩, kp, km, trivial, ?_⟩
  simp only [wp, dVar, dC, dOp, dUn, dNil, dCons, dTup, dLst, dCB, dTest, dAnd, dOr, dNot, dAndV, dOrV, dNotV, dIfE, dChain, sNext, sSeq, sBreak, sCont, sDrop, sRet, sRetN, sIf, gdName, gdNil, gdCons, gdTup, gdSub, sAsg, dCall, xOf, sFor, dSeq, dRng1, dRng2, dI, dI0, dB0, dAdd, dIsN, dNotN, isNon, dIx, dSetL, dNeg, one, two, dLen1, dListOf1, dTupOf1, dAbs1, dIntOf1, dII, marg, dAppend1, dExtend1, dIsi, isA, dSl, dPart, dNoPart, dCut, dLc, dYes, sRaise, sTry, exBy, sPar2, sPar3, dIsBl, dNotBl, dBM, dBM0, dEq, dNe, dIn, dstart, fnE_nx, fnE_rt, fnE_ex, Nat.zero_le, Nat.reduceLeDiff, decide_true, decide_false, true_or, or_true, false_or, or_false, decide_eq_true_eq, exists_eq_left', exists_eq_left, exists_eq_right, exists_eq_right', Option.some.injEq, List.cons.injEq, D.int.injEq, D.bl.injEq, D.str.injEq, D.tup.injEq, D.lro.injEq, D.ref.injEq, DO.lst.injEq, and_true, true_and, and_false, false_and, exists_false, exists_const, List.getElem?_cons_zero, List.getElem?_cons_succ, List.map_cons, List.map_nil, List.length_cons, List.length_nil, List.replicate_zero, List.replicate_succ, List.append_nil, List.cons_append, List.nil_append, List.set_cons_zero, List.set_cons_succ, Nat.reduceAdd, Nat.reduceSub, Nat.zero_add, reduceIte, Bool.false_eq_true, reduceCtorEq, if_true, if_false, Bool.not_true, Bool.not_false, exists_and_left, eqD_str, bne_self_eq_false, beq_self_eq_true]
  refine ⟨_, bm, _, ⟨rfl, rfl, rfl⟩, trivial, km, trivial, ?_⟩
  simp only [wi, wm, dVar, dC, dOp, dUn, dNil, dCons, dTup, dLst, dCB, dTest, dAnd, dOr, dNot, dAndV, dOrV, dNotV, dIfE, dChain, sNext, sSeq, sBreak, sCont, sDrop, sRet, sRetN, sIf, gdName, gdNil, gdCons, gdTup, gdSub, sAsg, dCall, xOf, sFor, dSeq, dRng1, dRng2, dI, dI0, dB0, dAdd, dIsN, dNotN, isNon, dIx, dSetL, dNeg, one, two, dLen1, dListOf1, dTupOf1, dAbs1, dIntOf1, dII, marg, dAppend1, dExtend1, dIsi, isA, dSl, dPart, dNoPart, dCut, dLc, dYes, sRaise, sTry, exBy, sPar2, sPar3, dIsBl, dNotBl, dBM, dBM0, dEq, dNe, dIn, dstart, fnE_nx, fnE_rt, fnE_ex, Nat.zero_le, Nat.reduceLeDiff, decide_true, decide_false, true_or, or_true, false_or, or_false, decide_eq_true_eq, exists_eq_left', exists_eq_left, exists_eq_right, exists_eq_right', Option.some.injEq, List.cons.injEq, D.int.injEq, D.bl.injEq, D.str.injEq, D.tup.injEq, D.lro.injEq, D.ref.injEq, DO.lst.injEq, and_true, true_and, and_false, false_and, exists_false, exists_const, List.getElem?_cons_zero, List.getElem?_cons_succ, List.map_cons, List.map_nil, List.length_cons, List.length_nil, List.replicate_zero, List.replicate_succ, List.append_nil, List.cons_append, List.nil_append, List.set_cons_zero, List.set_cons_succ, Nat.reduceAdd, Nat.reduceSub, Nat.zero_add, reduceIte, Bool.false_eq_true, reduceCtorEq, if_true, if_false, Bool.not_true, Bool.not_false, exists_and_left, eqD_str, bne_self_eq_false, beq_self_eq_true]
  refine ⟨_, _, bm, ⟨rfl, rfl, rfl⟩, trivial, trivial, km, ?_⟩
  simp only [wi, wj, wm, dVar, dC, dOp, dUn, dNil, dCons, dTup, dLst, dCB, dTest, dAnd, dOr, dNot, dAndV, dOrV, dNotV, dIfE, dChain, sNext, sSeq, sBreak, sCont, sDrop, sRet, sRetN, sIf, gdName, gdNil, gdCons, gdTup, gdSub, sAsg, dCall, xOf, sFor, dSeq, dRng1, dRng2, dI, dI0, dB0, dAdd, dIsN, dNotN, isNon, dIx, dSetL, dNeg, one, two, dLen1, dListOf1, dTupOf1, dAbs1, dIntOf1, dII, marg, dAppend1, dExtend1, dIsi, isA, dSl, dPart, dNoPart, dCut, dLc, dYes, sRaise, sTry, exBy, sPar2, sPar3, dIsBl, dNotBl, dBM, dBM0, dEq, dNe, dIn, dstart, fnE_nx, fnE_rt, fnE_ex, Nat.zero_le, Nat.reduceLeDiff, decide_true, decide_false, true_or, or_true, false_or, or_false, decide_eq_true_eq, exists_eq_left', exists_eq_left, exists_eq_right, exists_eq_right', Option.some.injEq, List.cons.injEq, D.int.injEq, D.bl.injEq, D.str.injEq, D.tup.injEq, D.lro.injEq, D.ref.injEq, DO.lst.injEq, and_true, true_and, and_false, false_and, exists_false, exists_const, List.getElem?_cons_zero, List.getElem?_cons_succ, List.map_cons, List.map_nil, List.length_cons, List.length_nil, List.replicate_zero, List.replicate_succ, List.append_nil, List.cons_append, List.nil_append, List.set_cons_zero, List.set_cons_succ, Nat.reduceAdd, Nat.reduceSub, Nat.zero_add, reduceIte, Bool.false_eq_true, reduceCtorEq, if_true, if_false, Bool.not_true, Bool.not_false, exists_and_left, eqD_str, bne_self_eq_false, beq_self_eq_true]
  refine ⟨_, _, _, ⟨rfl, rfl, rfl⟩, trivial, trivial, trivial, ?_⟩
  simp only [wi, wj, wk, dVar, dC, dOp, dUn, dNil, dCons, dTup, dLst, dCB, dTest, dAnd, dOr, dNot, dAndV, dOrV, dNotV, dIfE, dChain, sNext, sSeq, sBreak, sCont, sDrop, sRet, sRetN, sIf, gdName, gdNil, gdCons, gdTup, gdSub, sAsg, dCall, xOf, sFor, dSeq, dRng1, dRng2, dI, dI0, dB0, dAdd, dIsN, dNotN, isNon, dIx, dSetL, dNeg, one, two, dLen1, dListOf1, dTupOf1, dAbs1, dIntOf1, dII, marg, dAppend1, dExtend1, dIsi, isA, dSl, dPart, dNoPart, dCut, dLc, dYes, sRaise, sTry, exBy, sPar2, sPar3, dIsBl, dNotBl, dBM, dBM0, dEq, dNe, dIn, dstart, fnE_nx, fnE_rt, fnE_ex, Nat.zero_le, Nat.reduceLeDiff, decide_true, decide_false, true_or, or_true, false_or, or_false, decide_eq_true_eq, exists_eq_left', exists_eq_left, exists_eq_right, exists_eq_right', Option.some.injEq, List.cons.injEq, D.int.injEq, D.bl.injEq, D.str.injEq, D.tup.injEq, D.lro.injEq, D.ref.injEq, DO.lst.injEq, and_true, true_and, and_false, false_and, exists_false, exists_const, List.getElem?_cons_zero, List.getElem?_cons_succ, List.map_cons, List.map_nil, List.length_cons, List.length_nil, List.replicate_zero, List.replicate_succ, List.append_nil, List.cons_append, List.nil_append, List.set_cons_zero, List.set_cons_succ, Nat.reduceAdd, Nat.reduceSub, Nat.zero_add, reduceIte, Bool.false_eq_true, reduceCtorEq, if_true, if_false, Bool.not_true, Bool.not_false, exists_and_left]
  exact endOf (q L)
theorem pure_law : ∀ as L Q E, sp_law as L Q E → d_law (fnEnds Q E) (dstart 6 as) L := by
  rintro as L Q E ⟨ns, rfl, hl, q⟩
  simp only [d_law, sp_law_well, dVar, dC, dOp, dUn, dNil, dCons, dTup, dLst, dCB, dTest, dAnd, dOr, dNot, dAndV, dOrV, dNotV, dIfE, dChain, sNext, sSeq, sBreak, sCont, sDrop, sRet, sRetN, sIf, gdName, gdNil, gdCons, gdTup, gdSub, sAsg, dCall, xOf, sFor, dSeq, dRng1, dRng2, dI, dI0, dB0, dAdd, dIsN, dNotN, isNon, dIx, dSetL, dNeg, one, two, dLen1, dListOf1, dTupOf1, dAbs1, dIntOf1, dII, marg, dAppend1, dExtend1, dIsi, isA, dSl, dPart, dNoPart, dCut, dLc, dYes, sRaise, sTry, exBy, sPar2, sPar3, dIsBl, dNotBl, dBM, dBM0, dEq, dNe, dIn, dstart, fnE_nx, fnE_rt, fnE_ex, Nat.zero_le, Nat.reduceLeDiff, decide_true, decide_false, true_or, or_true, false_or, or_false, decide_eq_true_eq, exists_eq_left', exists_eq_left, exists_eq_right, exists_eq_right', Option.some.injEq, List.cons.injEq, D.int.injEq, D.bl.injEq, D.str.injEq, D.tup.injEq, D.lro.injEq, D.ref.injEq, DO.lst.injEq, and_true, true_and, and_false, false_and, exists_false, exists_const, List.getElem?_cons_zero, List.getElem?_cons_succ, List.map_cons, List.map_nil, List.length_cons, List.length_nil, List.replicate_zero, List.replicate_succ, List.append_nil, List.cons_append, List.nil_append, List.set_cons_zero, List.set_cons_succ, Nat.reduceAdd, Nat.reduceSub, Nat.zero_add, reduceIte, Bool.false_eq_true, reduceCtorEq, if_true, if_false, Bool.not_true, Bool.not_false, exists_and_left]
  refine ⟨ns, rfl, by omega, fun a L1 w1 => ?_⟩
  simp only [d_law_t1, sp_law_draw, dVar, dC, dOp, dUn, dNil, dCons, dTup, dLst, dCB, dTest, dAnd, dOr, dNot, dAndV, dOrV, dNotV, dIfE, dChain, sNext, sSeq, sBreak, sCont, sDrop, sRet, sRetN, sIf, gdName, gdNil, gdCons, gdTup, gdSub, sAsg, dCall, xOf, sFor, dSeq, dRng1, dRng2, dI, dI0, dB0, dAdd, dIsN, dNotN, isNon, dIx, dSetL, dNeg, one, two, dLen1, dListOf1, dTupOf1, dAbs1, dIntOf1, dII, marg, dAppend1, dExtend1, dIsi, isA, dSl, dPart, dNoPart, dCut, dLc, dYes, sRaise, sTry, exBy, sPar2, sPar3, dIsBl, dNotBl, dBM, dBM0, dEq, dNe, dIn, dstart, fnE_nx, fnE_rt, fnE_ex, Nat.zero_le, Nat.reduceLeDiff, decide_true, decide_false, true_or, or_true, false_or, or_false, decide_eq_true_eq, exists_eq_left', exists_eq_left, exists_eq_right, exists_eq_right', Option.some.injEq, List.cons.injEq, D.int.injEq, D.bl.injEq, D.str.injEq, D.tup.injEq, D.lro.injEq, D.ref.injEq, DO.lst.injEq, and_true, true_and, and_false, false_and, exists_false, exists_const, List.getElem?_cons_zero, List.getElem?_cons_succ, List.map_cons, List.map_nil, List.length_cons, List.length_nil, List.replicate_zero, List.replicate_succ, List.append_nil, List.cons_append, List.nil_append, List.set_cons_zero, List.set_cons_succ, Nat.reduceAdd, Nat.reduceSub, Nat.zero_add, reduceIte, Bool.false_eq_true, reduceCtorEq, if_true, if_false, Bool.not_true, Bool.not_false, exists_and_left]
  refine ⟨a, 2, ⟨rfl, rfl⟩, w1, by decide, by decide, fun p L2 p1 p2 w2 _ => ?_⟩
  simp only [d_law_t2, dVar, dC, dOp, dUn, dNil, dCons, dTup, dLst, dCB, dTest, dAnd, dOr, dNot, dAndV, dOrV, dNotV, dIfE, dChain, sNext, sSeq, sBreak, sCont, sDrop, sRet, sRetN, sIf, gdName, gdNil, gdCons, gdTup, gdSub, sAsg, dCall, xOf, sFor, dSeq, dRng1, dRng2, dI, dI0, dB0, dAdd, dIsN, dNotN, isNon, dIx, dSetL, dNeg, one, two, dLen1, dListOf1, dTupOf1, dAbs1, dIntOf1, dII, marg, dAppend1, dExtend1, dIsi, isA, dSl, dPart, dNoPart, dCut, dLc, dYes, sRaise, sTry, exBy, sPar2, sPar3, dIsBl, dNotBl, dBM, dBM0, dEq, dNe, dIn, dstart, fnE_nx, fnE_rt, fnE_ex, Nat.zero_le, Nat.reduceLeDiff, decide_true, decide_false, true_or, or_true, false_or, or_false, decide_eq_true_eq, exists_eq_left', exists_eq_left, exists_eq_right, exists_eq_right', Option.some.injEq, List.cons.injEq, D.int.injEq, D.bl.injEq, D.str.injEq, D.tup.injEq, D.lro.injEq, D.ref.injEq, DO.lst.injEq, and_true, true_and, and_false, false_and, exists_false, exists_const, List.getElem?_cons_zero, List.getElem?_cons_succ, List.map_cons, List.map_nil, List.length_cons, List.length_nil, List.replicate_zero, List.replicate_succ, List.append_nil, List.cons_append, List.nil_append, List.set_cons_zero, List.set_cons_succ, Nat.reduceAdd, Nat.reduceSub, Nat.zero_add, reduceIte, Bool.false_eq_true, reduceCtorEq, if_true, if_false, Bool.not_true, Bool.not_false, exists_and_left, sp_law_pairs_right, sp_law_ring_right, sp_law_draw]
  refine ⟨a, 10, ⟨rfl, rfl⟩, w2, by decide, by decide, fun t L3 t1 t2 w3 _ => ?_⟩
  refine ⟨p, t, ⟨rfl, rfl⟩, p1, by omega, t1, by omega, ?_⟩
  refine ⟨a, p, ⟨rfl, rfl⟩, w3, p1, by omega, fun L4 w4 => ?_⟩
  have c30 : CPowW 10 30 := ⟨by decide, by decide⟩
  have c40 : CPowW 10 40 := ⟨by decide, by decide⟩
  simp only [d_law_t3, dVar, dC, dOp, dUn, dNil, dCons, dTup, dLst, dCB, dTest, dAnd, dOr, dNot, dAndV, dOrV, dNotV, dIfE, dChain, sNext, sSeq, sBreak, sCont, sDrop, sRet, sRetN, sIf, gdName, gdNil, gdCons, gdTup, gdSub, sAsg, dCall, xOf, sFor, dSeq, dRng1, dRng2, dI, dI0, dB0, dAdd, dIsN, dNotN, isNon, dIx, dSetL, dNeg, one, two, dLen1, dListOf1, dTupOf1, dAbs1, dIntOf1, dII, marg, dAppend1, dExtend1, dIsi, isA, dSl, dPart, dNoPart, dCut, dLc, dYes, sRaise, sTry, exBy, sPar2, sPar3, dIsBl, dNotBl, dBM, dBM0, dEq, dNe, dIn, dstart, fnE_nx, fnE_rt, fnE_ex, Nat.zero_le, Nat.reduceLeDiff, decide_true, decide_false, true_or, or_true, false_or, or_false, decide_eq_true_eq, exists_eq_left', exists_eq_left, exists_eq_right, exists_eq_right', Option.some.injEq, List.cons.injEq, D.int.injEq, D.bl.injEq, D.str.injEq, D.tup.injEq, D.lro.injEq, D.ref.injEq, DO.lst.injEq, and_true, true_and, and_false, false_and, exists_false, exists_const, List.getElem?_cons_zero, List.getElem?_cons_succ, List.map_cons, List.map_nil, List.length_cons, List.length_nil, List.replicate_zero, List.replicate_succ, List.append_nil, List.cons_append, List.nil_append, List.set_cons_zero, List.set_cons_succ, Nat.reduceAdd, Nat.reduceSub, Nat.zero_add, reduceIte, Bool.false_eq_true, reduceCtorEq, if_true, if_false, Bool.not_true, Bool.not_false, exists_and_left, sp_law_draw]
  refine ⟨c30, fun la hla => ?_⟩
  obtain ⟨w5, o5⟩ := w4.new hla (.lst badP)
  refine ⟨a, 7, ⟨rfl, rfl⟩, w5, by decide, by decide, fun r L6 r1 r2 w6 f6 => ?_⟩
  obtain ⟨bp, hbp, hbp2⟩ := atI_tab (n := 7) (xs := badP) rfl r1 r2
  refine ⟨badP, (f6 la _ updD_same o5).1, bp, hbp, ?_⟩
  simp only [d_law_t4, dVar, dC, dOp, dUn, dNil, dCons, dTup, dLst, dCB, dTest, dAnd, dOr, dNot, dAndV, dOrV, dNotV, dIfE, dChain, sNext, sSeq, sBreak, sCont, sDrop, sRet, sRetN, sIf, gdName, gdNil, gdCons, gdTup, gdSub, sAsg, dCall, xOf, sFor, dSeq, dRng1, dRng2, dI, dI0, dB0, dAdd, dIsN, dNotN, isNon, dIx, dSetL, dNeg, one, two, dLen1, dListOf1, dTupOf1, dAbs1, dIntOf1, dII, marg, dAppend1, dExtend1, dIsi, isA, dSl, dPart, dNoPart, dCut, dLc, dYes, sRaise, sTry, exBy, sPar2, sPar3, dIsBl, dNotBl, dBM, dBM0, dEq, dNe, dIn, dstart, fnE_nx, fnE_rt, fnE_ex, Nat.zero_le, Nat.reduceLeDiff, decide_true, decide_false, true_or, or_true, false_or, or_false, decide_eq_true_eq, exists_eq_left', exists_eq_left, exists_eq_right, exists_eq_right', Option.some.injEq, List.cons.injEq, D.int.injEq, D.bl.injEq, D.str.injEq, D.tup.injEq, D.lro.injEq, D.ref.injEq, DO.lst.injEq, and_true, true_and, and_false, false_and, exists_false, exists_const, List.getElem?_cons_zero, List.getElem?_cons_succ, List.map_cons, List.map_nil, List.length_cons, List.length_nil, List.replicate_zero, List.replicate_succ, List.append_nil, List.cons_append, List.nil_append, List.set_cons_zero, List.set_cons_succ, Nat.reduceAdd, Nat.reduceSub, Nat.zero_add, reduceIte, Bool.false_eq_true, reduceCtorEq, if_true, if_false, Bool.not_true, Bool.not_false, exists_and_left, sp_law_draw]
  refine ⟨c40, fun lb hlb => ?_⟩
  obtain ⟨w7, o7⟩ := w6.new hlb (.lst badM)
  refine ⟨a, 7, ⟨rfl, rfl⟩, w7, by decide, by decide, fun r L8 r1 r2 w8 f8 => ?_⟩
  obtain ⟨bm, hbm, hbm2⟩ := atI_tab (n := 7) (xs := badM) rfl r1 r2
  refine ⟨badM, (f8 lb _ updD_same o7).1, bm, hbm, ?_⟩
  simp only [d_law_t5, dVar, dC, dOp, dUn, dNil, dCons, dTup, dLst, dCB, dTest, dAnd, dOr, dNot, dAndV, dOrV, dNotV, dIfE, dChain, sNext, sSeq, sBreak, sCont, sDrop, sRet, sRetN, sIf, gdName, gdNil, gdCons, gdTup, gdSub, sAsg, dCall, xOf, sFor, dSeq, dRng1, dRng2, dI, dI0, dB0, dAdd, dIsN, dNotN, isNon, dIx, dSetL, dNeg, one, two, dLen1, dListOf1, dTupOf1, dAbs1, dIntOf1, dII, marg, dAppend1, dExtend1, dIsi, isA, dSl, dPart, dNoPart, dCut, dLc, dYes, sRaise, sTry, exBy, sPar2, sPar3, dIsBl, dNotBl, dBM, dBM0, dEq, dNe, dIn, dstart, fnE_nx, fnE_rt, fnE_ex, Nat.zero_le, Nat.reduceLeDiff, decide_true, decide_false, true_or, or_true, false_or, or_false, decide_eq_true_eq, exists_eq_left', exists_eq_left, exists_eq_right, exists_eq_right', Option.some.injEq, List.cons.injEq, D.int.injEq, D.bl.injEq, D.str.injEq, D.tup.injEq, D.lro.injEq, D.ref.injEq, DO.lst.injEq, and_true, true_and, and_false, false_and, exists_false, exists_const, List.getElem?_cons_zero, List.getElem?_cons_succ, List.map_cons, List.map_nil, List.length_cons, List.length_nil, List.replicate_zero, List.replicate_succ, List.append_nil, List.cons_append, List.nil_append, List.set_cons_zero, List.set_cons_succ, Nat.reduceAdd, Nat.reduceSub, Nat.zero_add, reduceIte, Bool.false_eq_true, reduceCtorEq, if_true, if_false, Bool.not_true, Bool.not_false, exists_and_left, sp_law_draw]
  refine ⟨a, 10, ⟨rfl, rfl⟩, w8, by decide, by decide, fun m L9 m1 m2 w9 _ => ?_⟩
  exact law_t7 q p1 (by omega) m1 (by omega) hbp2 hbm2 L9
theorem ok_law {P : Program} {w : World} {K : PySem.W.Frag} {mg : Str → Option Value} {base : Heap} (D : DefAt K mg "law" s_law) (o__law_well : Ok P w K mg base "_law_well" (1) ["script"] sp_law_well) (o__law_draw : Ok P w K mg base "_law_draw" (1) ["well", "many"] sp_law_draw) (o__law_pairs_right : Ok P w K mg base "_law_pairs_right" (5) ["player", "third"] sp_law_pairs_right) (o__law_ring_right : Ok P w K mg base "_law_ring_right" (5) ["well", "player"] sp_law_ring_right) (o__law_refusal : Ok P w K mg base "_law_refusal" (5) ["player", "one", "other"] sp_law_refusal) : Ok P w K mg base "law" (6) ["script"] sp_law := by
  obtain ⟨f, fd, gm, F⟩ := D.ex
  refine ⟨f, fd, Fun.okD (k := 6 - 1) F sc_law (len_law ) (pure_law ) (fun cdv A outer s H E hr => ?_), gm, F.kp, F.binds (ps := ["script"]) (fun _ _ _ _ _ _ us hl => match us, hl with | [_], _ => rfl), F.lk⟩
  have nd := sc_law.nd
  have hu := hr.units
  have tk : Takes (cxOf (L2.CX P w) P w K mg base ["script", "well", "player", "bad_player", "bad_mark", "mark"] "law" (defScope s_law) f cdv A outer s H E) (wE E) := takes_of rfl rfl rfl rfl
  exact (qss_cons (qs_set (i := 1) nd (q_callO o__law_well (hr.mono (by omega)) tk (qa_cons (qv 0) qa_nil)))
  (qss_cons (qs_set (i := 2) nd (q_callO o__law_draw (hr.mono (by omega)) tk (qa_cons (qv 1) (qa_cons q_int qa_nil))))
  (qss_cons (qs_if (QW.qt (qw_or (qt_not (qt_val (q_callO o__law_pairs_right (hr.mono (by omega)) tk (qa_cons (qv 2) (qa_cons (q_callO o__law_draw (hr.mono (by omega)) tk (qa_cons (qv 1) (qa_cons q_int qa_nil))) qa_nil))))) (qw_or1 (qt_not (qt_val (q_callO o__law_ring_right (hr.mono (by omega)) tk (qa_cons (qv 1) (qa_cons (qv 2) qa_nil)))))))) (qss_one (qs_ret q_bl)) qss_nil)
  (qss_cons (qs_set (i := 3) nd (q_ix ix_seq opd_ix (q_lst (qa_cons q_int (qa_cons (q_un un_neg und_neg q_int) (qa_cons q_bl (qa_cons q_non (qa_cons q_str (qa_cons (q_op op_powW opd_I q_int q_int) (qa_cons (q_tup (qa_cons q_int qa_nil)) qa_nil)))))))) (q_callO o__law_draw (hr.mono (by omega)) tk (qa_cons (qv 1) (qa_cons q_int qa_nil))) (fun _ _ => rfl)))
  (qss_cons (qs_set (i := 4) nd (q_ix ix_seq opd_ix (q_lst (qa_cons q_int (qa_cons (q_un un_neg und_neg q_int) (qa_cons q_bl (qa_cons q_non (qa_cons q_str (qa_cons (q_op op_powW opd_I q_int q_int) (qa_cons (q_tup (qa_cons q_int qa_nil)) qa_nil)))))))) (q_callO o__law_draw (hr.mono (by omega)) tk (qa_cons (qv 1) (qa_cons q_int qa_nil))) (fun _ _ => rfl)))
  (qss_cons (qs_set (i := 5) nd (q_callO o__law_draw (hr.mono (by omega)) tk (qa_cons (qv 1) (qa_cons q_int qa_nil))))
  (qss_cons (qs_if (QW.qt (qw_or (qt_cmp (op_neD hu) opd_ne (q_callO o__law_refusal (hr.mono (by omega)) tk (qa_cons (qv 3) (qa_cons (qv 5) (qa_cons (qv 5) qa_nil)))) q_str (nomark _)) (qw_or1 (qt_cmp (op_neD hu) opd_ne (q_callO o__law_refusal (hr.mono (by omega)) tk (qa_cons (qv 3) (qa_cons (qv 4) (qa_cons (qv 5) qa_nil)))) q_str (nomark _))))) (qss_one (qs_ret q_bl)) qss_nil)
  (qss_cons (qs_if (QW.qt (qw_or (qt_cmp (op_neD hu) opd_ne (q_callO o__law_refusal (hr.mono (by omega)) tk (qa_cons (qv 2) (qa_cons (qv 4) (qa_cons (qv 5) qa_nil)))) q_str (nomark _)) (qw_or1 (qt_cmp (op_neD hu) opd_ne (q_callO o__law_refusal (hr.mono (by omega)) tk (qa_cons (qv 2) (qa_cons (qv 5) (qa_cons (qv 4) qa_nil)))) q_str (nomark _))))) (qss_one (qs_ret q_bl)) qss_nil)
  (qss_one (qs_ret (q_cmp op_isN opd_isN (q_callO o__law_refusal (hr.mono (by omega)) tk (qa_cons (qv 2) (qa_cons (qv 5) (qa_cons (q_op op_sub opd_I0 q_int (qv 5)) qa_nil)))) q_non (nomark _))))))))))))

theorem law_holds : ∀ (ns : List Int), ns.length ≤ 63 → ∀ L : DH, (∀ b, L b = none) → sp_law [.lro (ns.map .int)] L (fun d _ => d = .bl true) (fun _ _ _ => False) := fun ns hl L _ => ⟨ns, rfl, hl, fun _ => rfl⟩
theorem all_mk {l : PySem.W.OpenLaw} {w : World} {K : PySem.W.Frag} {h : Heap} {mg : Str → Option Value} {fa : Addr} (X : K.In h) (G : h.Ns mainGlobals mg) (hfa : mg "law" = some (.ref fa))
    {fis_int : Addr} {ocis_int kVis_int dcis_int pmis_int cdis_int ctis_int : Value} {odis_int anis_int : Option Addr} {slis_int : Array (Option Value)}
    {fwithin : Addr} {ocwithin kVwithin dcwithin pmwithin cdwithin ctwithin : Value} {odwithin anwithin : Option Addr} {slwithin : Array (Option Value)}
    {fneed_player : Addr} {ocneed_player kVneed_player dcneed_player pmneed_player cdneed_player ctneed_player : Value} {odneed_player anneed_player : Option Addr} {slneed_player : Array (Option Value)}
    {fneed_mark : Addr} {ocneed_mark kVneed_mark dcneed_mark pmneed_mark cdneed_mark ctneed_mark : Value} {odneed_mark anneed_mark : Option Addr} {slneed_mark : Array (Option Value)}
    {fscore : Addr} {ocscore kVscore dcscore pmscore cdscore ctscore : Value} {odscore anscore : Option Addr} {slscore : Array (Option Value)}
    {fbetter : Addr} {ocbetter kVbetter dcbetter pmbetter cdbetter ctbetter : Value} {odbetter anbetter : Option Addr} {slbetter : Array (Option Value)}
    {f_law_is : Addr} {oc_law_is kV_law_is dc_law_is pm_law_is cd_law_is ct_law_is : Value} {od_law_is an_law_is : Option Addr} {sl_law_is : Array (Option Value)}
    {f_law_well : Addr} {oc_law_well kV_law_well dc_law_well pm_law_well cd_law_well ct_law_well : Value} {od_law_well an_law_well : Option Addr} {sl_law_well : Array (Option Value)}
    {f_law_draw : Addr} {oc_law_draw kV_law_draw dc_law_draw pm_law_draw cd_law_draw ct_law_draw : Value} {od_law_draw an_law_draw : Option Addr} {sl_law_draw : Array (Option Value)}
    {f_law_value : Addr} {oc_law_value kV_law_value dc_law_value pm_law_value cd_law_value ct_law_value : Value} {od_law_value an_law_value : Option Addr} {sl_law_value : Array (Option Value)}
    {f_law_good : Addr} {oc_law_good kV_law_good dc_law_good pm_law_good cd_law_good ct_law_good : Value} {od_law_good an_law_good : Option Addr} {sl_law_good : Array (Option Value)}
    {f_law_refusal : Addr} {oc_law_refusal kV_law_refusal dc_law_refusal pm_law_refusal cd_law_refusal ct_law_refusal : Value} {od_law_refusal an_law_refusal : Option Addr} {sl_law_refusal : Array (Option Value)}
    {f_law_pairs_right : Addr} {oc_law_pairs_right kV_law_pairs_right dc_law_pairs_right pm_law_pairs_right cd_law_pairs_right ct_law_pairs_right : Value} {od_law_pairs_right an_law_pairs_right : Option Addr} {sl_law_pairs_right : Array (Option Value)}
    {f_law_ring_right : Addr} {oc_law_ring_right kV_law_ring_right dc_law_ring_right pm_law_ring_right cd_law_ring_right ct_law_ring_right : Value} {od_law_ring_right an_law_ring_right : Option Addr} {sl_law_ring_right : Array (Option Value)}
    {flaw : Addr} {oclaw kVlaw dclaw pmlaw cdlaw ctlaw : Value} {odlaw anlaw : Option Addr} {sllaw : Array (Option Value)}
    {CGameError : Addr}
    {CBadPlayer : Addr}
    {CBadMark : Addr}
    {tGREATEST_MARK : Tok}
    (ais_int : PySem.W.nsIn K mainGlobals "is_int" = some (some (.ref fis_int)))
    (lis_int : K.lookup fis_int = some ⟨ocis_int, odis_int, .func (PySem.W.fnOf "is_int" "is_int" (defArgs s_is_int) (defBody s_is_int) (defScope s_is_int) .none kVis_int dcis_int pmis_int anis_int cdis_int ctis_int), slis_int⟩)
    (cis_int : PySem.W.codeIn K cdis_int "is_int" = true)
    (kis_int : PySem.W.keepIn K (.ref fis_int) = true)
    (awithin : PySem.W.nsIn K mainGlobals "within" = some (some (.ref fwithin)))
    (lwithin : K.lookup fwithin = some ⟨ocwithin, odwithin, .func (PySem.W.fnOf "within" "within" (defArgs s_within) (defBody s_within) (defScope s_within) .none kVwithin dcwithin pmwithin anwithin cdwithin ctwithin), slwithin⟩)
    (cwithin : PySem.W.codeIn K cdwithin "within" = true)
    (kwithin : PySem.W.keepIn K (.ref fwithin) = true)
    (aneed_player : PySem.W.nsIn K mainGlobals "need_player" = some (some (.ref fneed_player)))
    (lneed_player : K.lookup fneed_player = some ⟨ocneed_player, odneed_player, .func (PySem.W.fnOf "need_player" "need_player" (defArgs s_need_player) (defBody s_need_player) (defScope s_need_player) .none kVneed_player dcneed_player pmneed_player anneed_player cdneed_player ctneed_player), slneed_player⟩)
    (cneed_player : PySem.W.codeIn K cdneed_player "need_player" = true)
    (kneed_player : PySem.W.keepIn K (.ref fneed_player) = true)
    (aneed_mark : PySem.W.nsIn K mainGlobals "need_mark" = some (some (.ref fneed_mark)))
    (lneed_mark : K.lookup fneed_mark = some ⟨ocneed_mark, odneed_mark, .func (PySem.W.fnOf "need_mark" "need_mark" (defArgs s_need_mark) (defBody s_need_mark) (defScope s_need_mark) .none kVneed_mark dcneed_mark pmneed_mark anneed_mark cdneed_mark ctneed_mark), slneed_mark⟩)
    (cneed_mark : PySem.W.codeIn K cdneed_mark "need_mark" = true)
    (kneed_mark : PySem.W.keepIn K (.ref fneed_mark) = true)
    (ascore : PySem.W.nsIn K mainGlobals "score" = some (some (.ref fscore)))
    (lscore : K.lookup fscore = some ⟨ocscore, odscore, .func (PySem.W.fnOf "score" "score" (defArgs s_score) (defBody s_score) (defScope s_score) .none kVscore dcscore pmscore anscore cdscore ctscore), slscore⟩)
    (cscore : PySem.W.codeIn K cdscore "score" = true)
    (kscore : PySem.W.keepIn K (.ref fscore) = true)
    (abetter : PySem.W.nsIn K mainGlobals "better" = some (some (.ref fbetter)))
    (lbetter : K.lookup fbetter = some ⟨ocbetter, odbetter, .func (PySem.W.fnOf "better" "better" (defArgs s_better) (defBody s_better) (defScope s_better) .none kVbetter dcbetter pmbetter anbetter cdbetter ctbetter), slbetter⟩)
    (cbetter : PySem.W.codeIn K cdbetter "better" = true)
    (kbetter : PySem.W.keepIn K (.ref fbetter) = true)
    (a_law_is : PySem.W.nsIn K mainGlobals "_law_is" = some (some (.ref f_law_is)))
    (l_law_is : K.lookup f_law_is = some ⟨oc_law_is, od_law_is, .func (PySem.W.fnOf "_law_is" "_law_is" (defArgs s__law_is) (defBody s__law_is) (defScope s__law_is) .none kV_law_is dc_law_is pm_law_is an_law_is cd_law_is ct_law_is), sl_law_is⟩)
    (c_law_is : PySem.W.codeIn K cd_law_is "_law_is" = true)
    (k_law_is : PySem.W.keepIn K (.ref f_law_is) = true)
    (a_law_well : PySem.W.nsIn K mainGlobals "_law_well" = some (some (.ref f_law_well)))
    (l_law_well : K.lookup f_law_well = some ⟨oc_law_well, od_law_well, .func (PySem.W.fnOf "_law_well" "_law_well" (defArgs s__law_well) (defBody s__law_well) (defScope s__law_well) .none kV_law_well dc_law_well pm_law_well an_law_well cd_law_well ct_law_well), sl_law_well⟩)
    (c_law_well : PySem.W.codeIn K cd_law_well "_law_well" = true)
    (k_law_well : PySem.W.keepIn K (.ref f_law_well) = true)
    (a_law_draw : PySem.W.nsIn K mainGlobals "_law_draw" = some (some (.ref f_law_draw)))
    (l_law_draw : K.lookup f_law_draw = some ⟨oc_law_draw, od_law_draw, .func (PySem.W.fnOf "_law_draw" "_law_draw" (defArgs s__law_draw) (defBody s__law_draw) (defScope s__law_draw) .none kV_law_draw dc_law_draw pm_law_draw an_law_draw cd_law_draw ct_law_draw), sl_law_draw⟩)
    (c_law_draw : PySem.W.codeIn K cd_law_draw "_law_draw" = true)
    (k_law_draw : PySem.W.keepIn K (.ref f_law_draw) = true)
    (a_law_value : PySem.W.nsIn K mainGlobals "_law_value" = some (some (.ref f_law_value)))
    (l_law_value : K.lookup f_law_value = some ⟨oc_law_value, od_law_value, .func (PySem.W.fnOf "_law_value" "_law_value" (defArgs s__law_value) (defBody s__law_value) (defScope s__law_value) .none kV_law_value dc_law_value pm_law_value an_law_value cd_law_value ct_law_value), sl_law_value⟩)
    (c_law_value : PySem.W.codeIn K cd_law_value "_law_value" = true)
    (k_law_value : PySem.W.keepIn K (.ref f_law_value) = true)
    (a_law_good : PySem.W.nsIn K mainGlobals "_law_good" = some (some (.ref f_law_good)))
    (l_law_good : K.lookup f_law_good = some ⟨oc_law_good, od_law_good, .func (PySem.W.fnOf "_law_good" "_law_good" (defArgs s__law_good) (defBody s__law_good) (defScope s__law_good) .none kV_law_good dc_law_good pm_law_good an_law_good cd_law_good ct_law_good), sl_law_good⟩)
    (c_law_good : PySem.W.codeIn K cd_law_good "_law_good" = true)
    (k_law_good : PySem.W.keepIn K (.ref f_law_good) = true)
    (a_law_refusal : PySem.W.nsIn K mainGlobals "_law_refusal" = some (some (.ref f_law_refusal)))
    (l_law_refusal : K.lookup f_law_refusal = some ⟨oc_law_refusal, od_law_refusal, .func (PySem.W.fnOf "_law_refusal" "_law_refusal" (defArgs s__law_refusal) (defBody s__law_refusal) (defScope s__law_refusal) .none kV_law_refusal dc_law_refusal pm_law_refusal an_law_refusal cd_law_refusal ct_law_refusal), sl_law_refusal⟩)
    (c_law_refusal : PySem.W.codeIn K cd_law_refusal "_law_refusal" = true)
    (k_law_refusal : PySem.W.keepIn K (.ref f_law_refusal) = true)
    (a_law_pairs_right : PySem.W.nsIn K mainGlobals "_law_pairs_right" = some (some (.ref f_law_pairs_right)))
    (l_law_pairs_right : K.lookup f_law_pairs_right = some ⟨oc_law_pairs_right, od_law_pairs_right, .func (PySem.W.fnOf "_law_pairs_right" "_law_pairs_right" (defArgs s__law_pairs_right) (defBody s__law_pairs_right) (defScope s__law_pairs_right) .none kV_law_pairs_right dc_law_pairs_right pm_law_pairs_right an_law_pairs_right cd_law_pairs_right ct_law_pairs_right), sl_law_pairs_right⟩)
    (c_law_pairs_right : PySem.W.codeIn K cd_law_pairs_right "_law_pairs_right" = true)
    (k_law_pairs_right : PySem.W.keepIn K (.ref f_law_pairs_right) = true)
    (a_law_ring_right : PySem.W.nsIn K mainGlobals "_law_ring_right" = some (some (.ref f_law_ring_right)))
    (l_law_ring_right : K.lookup f_law_ring_right = some ⟨oc_law_ring_right, od_law_ring_right, .func (PySem.W.fnOf "_law_ring_right" "_law_ring_right" (defArgs s__law_ring_right) (defBody s__law_ring_right) (defScope s__law_ring_right) .none kV_law_ring_right dc_law_ring_right pm_law_ring_right an_law_ring_right cd_law_ring_right ct_law_ring_right), sl_law_ring_right⟩)
    (c_law_ring_right : PySem.W.codeIn K cd_law_ring_right "_law_ring_right" = true)
    (k_law_ring_right : PySem.W.keepIn K (.ref f_law_ring_right) = true)
    (alaw : PySem.W.nsIn K mainGlobals "law" = some (some (.ref flaw)))
    (llaw : K.lookup flaw = some ⟨oclaw, odlaw, .func (PySem.W.fnOf "law" "law" (defArgs s_law) (defBody s_law) (defScope s_law) .none kVlaw dclaw pmlaw anlaw cdlaw ctlaw), sllaw⟩)
    (claw : PySem.W.codeIn K cdlaw "law" = true)
    (klaw : PySem.W.keepIn K (.ref flaw) = true)
    (aCGameError : PySem.W.nsIn K mainGlobals "GameError" = some (some (.ref CGameError)))
    (bCGameError : PySem.W.subIn K (.ref CGameError) (.type "BaseException") = some true)
    (tCGameError : PySem.W.typeIn K (.ref CGameError) = some (.type "type"))
    (iCGameError : PySem.W.isClsIn K CGameError = true)
    (aCBadPlayer : PySem.W.nsIn K mainGlobals "BadPlayer" = some (some (.ref CBadPlayer)))
    (eCBadPlayer : PySem.W.excIn K CBadPlayer [.type "ValueError", .type "Exception", .type "BaseException", .type "object"] "ValueError.__new__" = true)
    (kCBadPlayer : PySem.W.keepIn K (.ref CBadPlayer) = true)
    (bCBadPlayer : PySem.W.subIn K (.ref CBadPlayer) (.type "BaseException") = some true)
    (tCBadPlayer : PySem.W.typeIn K (.ref CBadPlayer) = some (.type "type"))
    (iCBadPlayer : PySem.W.isClsIn K CBadPlayer = true)
    (aCBadMark : PySem.W.nsIn K mainGlobals "BadMark" = some (some (.ref CBadMark)))
    (eCBadMark : PySem.W.excIn K CBadMark [.type "ValueError", .type "Exception", .type "BaseException", .type "object"] "ValueError.__new__" = true)
    (kCBadMark : PySem.W.keepIn K (.ref CBadMark) = true)
    (bCBadMark : PySem.W.subIn K (.ref CBadMark) (.type "BaseException") = some true)
    (tCBadMark : PySem.W.typeIn K (.ref CBadMark) = some (.type "type"))
    (iCBadMark : PySem.W.isClsIn K CBadMark = true)
    (yz_isinstance : PySem.W.nsIn K mainGlobals "isinstance" = some none)
    (yz_int : PySem.W.nsIn K mainGlobals "int" = some none)
    (yz_bool : PySem.W.nsIn K mainGlobals "bool" = some none)
    (gc_GREATEST_MARK : PySem.W.nsIn K mainGlobals "GREATEST_MARK" = some (some (.int 9 tGREATEST_MARK)))
    (yz_abs : PySem.W.nsIn K mainGlobals "abs" = some none)
    (s_BadPlayer_BadPlayer : PySem.W.subIn K (.ref CBadPlayer) (.ref CBadPlayer) = some true)
    (s_BadPlayer_BadMark : PySem.W.subIn K (.ref CBadPlayer) (.ref CBadMark) = some false)
    (s_BadPlayer_GameError : PySem.W.subIn K (.ref CBadPlayer) (.ref CGameError) = some true)
    (s_BadMark_BadPlayer : PySem.W.subIn K (.ref CBadMark) (.ref CBadPlayer) = some false)
    (s_BadMark_BadMark : PySem.W.subIn K (.ref CBadMark) (.ref CBadMark) = some true)
    (s_BadMark_GameError : PySem.W.subIn K (.ref CBadMark) (.ref CGameError) = some true)
    (yz_range : PySem.W.nsIn K mainGlobals "range" = some none)
    (yz_max : PySem.W.nsIn K mainGlobals "max" = some none)
    (yz_len : PySem.W.nsIn K mainGlobals "len" = some none) :
    ∃ fd : FuncData, (∀ (s : Shared) (u : Value), BindsTo s fd ⟨[u], []⟩ [("script", u)]) ∧ ∀ base : Heap, K.In base → base.Ns mainGlobals mg → ∃ mgx, FnOk l.prog w K mg base (L2.CX l.prog w) 6 fa fd ["script"] (liftSp ⟨K, mgx⟩ sp_law) := by
  have e := hfa.symm.trans (PySem.W.mg_of X G alaw)
  cases e
  have Dis_int : DefAt K mg "is_int" s_is_int := def_at X G ais_int lis_int cis_int kis_int
  have Dwithin : DefAt K mg "within" s_within := def_at X G awithin lwithin cwithin kwithin
  have Dneed_player : DefAt K mg "need_player" s_need_player := def_at X G aneed_player lneed_player cneed_player kneed_player
  have Dneed_mark : DefAt K mg "need_mark" s_need_mark := def_at X G aneed_mark lneed_mark cneed_mark kneed_mark
  have Dscore : DefAt K mg "score" s_score := def_at X G ascore lscore cscore kscore
  have Dbetter : DefAt K mg "better" s_better := def_at X G abetter lbetter cbetter kbetter
  have D_law_is : DefAt K mg "_law_is" s__law_is := def_at X G a_law_is l_law_is c_law_is k_law_is
  have D_law_well : DefAt K mg "_law_well" s__law_well := def_at X G a_law_well l_law_well c_law_well k_law_well
  have D_law_draw : DefAt K mg "_law_draw" s__law_draw := def_at X G a_law_draw l_law_draw c_law_draw k_law_draw
  have D_law_value : DefAt K mg "_law_value" s__law_value := def_at X G a_law_value l_law_value c_law_value k_law_value
  have D_law_good : DefAt K mg "_law_good" s__law_good := def_at X G a_law_good l_law_good c_law_good k_law_good
  have D_law_refusal : DefAt K mg "_law_refusal" s__law_refusal := def_at X G a_law_refusal l_law_refusal c_law_refusal k_law_refusal
  have D_law_pairs_right : DefAt K mg "_law_pairs_right" s__law_pairs_right := def_at X G a_law_pairs_right l_law_pairs_right c_law_pairs_right k_law_pairs_right
  have D_law_ring_right : DefAt K mg "_law_ring_right" s__law_ring_right := def_at X G a_law_ring_right l_law_ring_right c_law_ring_right k_law_ring_right
  have Dlaw : DefAt K mg "law" s_law := def_at X G alaw llaw claw klaw
  have z_isinstance : mg "isinstance" = none := PySem.W.mg_none_of X G yz_isinstance
  have z_int : mg "int" = none := PySem.W.mg_none_of X G yz_int
  have z_bool : mg "bool" = none := PySem.W.mg_none_of X G yz_bool
  have x_BadPlayer : ExcOk K mg "BadPlayer" := ⟨CBadPlayer, PySem.W.mg_of X G aCBadPlayer, eCBadPlayer, kCBadPlayer, bCBadPlayer, tCBadPlayer⟩
  have c_GREATEST_MARK : ConstOk K mg "GREATEST_MARK" (.int 9) := cst_int X G gc_GREATEST_MARK
  have x_BadMark : ExcOk K mg "BadMark" := ⟨CBadMark, PySem.W.mg_of X G aCBadMark, eCBadMark, kCBadMark, bCBadMark, tCBadMark⟩
  have z_abs : mg "abs" = none := PySem.W.mg_none_of X G yz_abs
  have m_BadPlayer : ClsAt mg "BadPlayer" := ⟨_, PySem.W.mg_of X G aCBadPlayer⟩
  have m_BadMark : ClsAt mg "BadMark" := ⟨_, PySem.W.mg_of X G aCBadMark⟩
  have m_GameError : ClsAt mg "GameError" := ⟨_, PySem.W.mg_of X G aCGameError⟩
  have so : SubOk K mg subT := by
    intro n c b h
    unfold subT at h
    by_cases h_BadPlayer_BadPlayer : n = ("BadPlayer" : Str) ∧ c = ("BadPlayer" : Str)
    · rw [if_pos h_BadPlayer_BadPlayer] at h; cases h; rw [h_BadPlayer_BadPlayer.1, h_BadPlayer_BadPlayer.2]; exact ⟨_, _, PySem.W.mg_of X G aCBadPlayer, PySem.W.mg_of X G aCBadPlayer, exm_pair bCBadPlayer iCBadPlayer tCBadPlayer s_BadPlayer_BadPlayer⟩
    rw [if_neg h_BadPlayer_BadPlayer] at h
    by_cases h_BadPlayer_BadMark : n = ("BadPlayer" : Str) ∧ c = ("BadMark" : Str)
    · rw [if_pos h_BadPlayer_BadMark] at h; cases h; rw [h_BadPlayer_BadMark.1, h_BadPlayer_BadMark.2]; exact ⟨_, _, PySem.W.mg_of X G aCBadPlayer, PySem.W.mg_of X G aCBadMark, exm_pair bCBadMark iCBadMark tCBadMark s_BadPlayer_BadMark⟩
    rw [if_neg h_BadPlayer_BadMark] at h
    by_cases h_BadPlayer_GameError : n = ("BadPlayer" : Str) ∧ c = ("GameError" : Str)
    · rw [if_pos h_BadPlayer_GameError] at h; cases h; rw [h_BadPlayer_GameError.1, h_BadPlayer_GameError.2]; exact ⟨_, _, PySem.W.mg_of X G aCBadPlayer, PySem.W.mg_of X G aCGameError, exm_pair bCGameError iCGameError tCGameError s_BadPlayer_GameError⟩
    rw [if_neg h_BadPlayer_GameError] at h
    by_cases h_BadMark_BadPlayer : n = ("BadMark" : Str) ∧ c = ("BadPlayer" : Str)
    · rw [if_pos h_BadMark_BadPlayer] at h; cases h; rw [h_BadMark_BadPlayer.1, h_BadMark_BadPlayer.2]; exact ⟨_, _, PySem.W.mg_of X G aCBadMark, PySem.W.mg_of X G aCBadPlayer, exm_pair bCBadPlayer iCBadPlayer tCBadPlayer s_BadMark_BadPlayer⟩
    rw [if_neg h_BadMark_BadPlayer] at h
    by_cases h_BadMark_BadMark : n = ("BadMark" : Str) ∧ c = ("BadMark" : Str)
    · rw [if_pos h_BadMark_BadMark] at h; cases h; rw [h_BadMark_BadMark.1, h_BadMark_BadMark.2]; exact ⟨_, _, PySem.W.mg_of X G aCBadMark, PySem.W.mg_of X G aCBadMark, exm_pair bCBadMark iCBadMark tCBadMark s_BadMark_BadMark⟩
    rw [if_neg h_BadMark_BadMark] at h
    by_cases h_BadMark_GameError : n = ("BadMark" : Str) ∧ c = ("GameError" : Str)
    · rw [if_pos h_BadMark_GameError] at h; cases h; rw [h_BadMark_GameError.1, h_BadMark_GameError.2]; exact ⟨_, _, PySem.W.mg_of X G aCBadMark, PySem.W.mg_of X G aCGameError, exm_pair bCGameError iCGameError tCGameError s_BadMark_GameError⟩
    rw [if_neg h_BadMark_GameError] at h
    cases h
  have z_range : mg "range" = none := PySem.W.mg_none_of X G yz_range
  have z_max : mg "max" = none := PySem.W.mg_none_of X G yz_max
  have z_len : mg "len" = none := PySem.W.mg_none_of X G yz_len
  refine ⟨_, fun s u => .of_eq rfl, fun base _ _ => ⟨mg, law_end hfa llaw ?_⟩⟩
  have o_is_int := ok_is_int (P := l.prog) (w := w) (base := base) Dis_int z_isinstance z_int z_bool
  have o_within := ok_within (P := l.prog) (w := w) (base := base) Dwithin o_is_int
  have o_need_player := ok_need_player (P := l.prog) (w := w) (base := base) Dneed_player o_within x_BadPlayer
  have o_need_mark := ok_need_mark (P := l.prog) (w := w) (base := base) Dneed_mark c_GREATEST_MARK o_within x_BadMark
  have o_score := ok_score (P := l.prog) (w := w) (base := base) Dscore 
  have o_better := ok_better (P := l.prog) (w := w) (base := base) Dbetter o_need_player o_need_mark o_score
  have o__law_is := ok__law_is (P := l.prog) (w := w) (base := base) D_law_is 
  have o__law_well := ok__law_well (P := l.prog) (w := w) (base := base) D_law_well z_int
  have o__law_draw := ok__law_draw (P := l.prog) (w := w) (base := base) D_law_draw z_abs z_int
  have o__law_value := ok__law_value (P := l.prog) (w := w) (base := base) D_law_value 
  have o__law_good := ok__law_good (P := l.prog) (w := w) (base := base) D_law_good o__law_value
  have o__law_refusal := ok__law_refusal (P := l.prog) (w := w) (base := base) D_law_refusal o_better m_BadPlayer m_BadMark m_GameError so
  have o__law_pairs_right := ok__law_pairs_right (P := l.prog) (w := w) (base := base) D_law_pairs_right z_range o_better o__law_good o__law_is z_max
  have o__law_ring_right := ok__law_ring_right (P := l.prog) (w := w) (base := base) D_law_ring_right z_range o__law_draw o_better z_len z_max
  have o_law := ok_law (P := l.prog) (w := w) (base := base) Dlaw o__law_well o__law_draw o__law_pairs_right o__law_ring_right o__law_refusal
  exact o_law
end D2
open PySem PySem.W PyProof.Rows
set_option maxRecDepth 100000 in
set_option maxHeartbeats 0 in
theorem PySem.Challenge.cw_callgames_k35_marks_of_a_player_holds : PySem.Challenge.rw_callgames_k35_marks_of_a_player.Holds := by
  w_on; o_law; k_head; (case hw => w_witness2)
  k_fill
  refine D2.walkD (l := PySem.Challenge.rw_callgames_k35_marks_of_a_player) (lv := 6) (sp := D2.sp_law) rfl rfl ⟨rfl, by decide, by decide⟩ (fun w h Y => PySem.W.kIn_of Y) ?F (fun ns hl L hL => D2.law_holds ns hl L hL)
  case F =>
    intro w mg fa h KX G hmg
    refine' D2.all_mk KX G hmg ?ais_int ?lis_int ?cis_int ?kis_int ?awithin ?lwithin ?cwithin ?kwithin ?aneed_player ?lneed_player ?cneed_player ?kneed_player ?aneed_mark ?lneed_mark ?cneed_mark ?kneed_mark ?ascore ?lscore ?cscore ?kscore ?abetter ?lbetter ?cbetter ?kbetter ?a_law_is ?l_law_is ?c_law_is ?k_law_is ?a_law_well ?l_law_well ?c_law_well ?k_law_well ?a_law_draw ?l_law_draw ?c_law_draw ?k_law_draw ?a_law_value ?l_law_value ?c_law_value ?k_law_value ?a_law_good ?l_law_good ?c_law_good ?k_law_good ?a_law_refusal ?l_law_refusal ?c_law_refusal ?k_law_refusal ?a_law_pairs_right ?l_law_pairs_right ?c_law_pairs_right ?k_law_pairs_right ?a_law_ring_right ?l_law_ring_right ?c_law_ring_right ?k_law_ring_right ?alaw ?llaw ?claw ?klaw ?aCGameError ?bCGameError ?tCGameError ?iCGameError ?aCBadPlayer ?eCBadPlayer ?kCBadPlayer ?bCBadPlayer ?tCBadPlayer ?iCBadPlayer ?aCBadMark ?eCBadMark ?kCBadMark ?bCBadMark ?tCBadMark ?iCBadMark ?yz_isinstance ?yz_int ?yz_bool ?gc_GREATEST_MARK ?yz_abs ?s_BadPlayer_BadPlayer ?s_BadPlayer_BadMark ?s_BadPlayer_GameError ?s_BadMark_BadPlayer ?s_BadMark_BadMark ?s_BadMark_GameError ?yz_range ?yz_max ?yz_len
    (case ais_int => first | k_is | k_exc | rfl); (case lis_int => first | k_is | k_exc | rfl); (case cis_int => first | k_is | k_exc | rfl); (case kis_int => first | k_is | k_exc | rfl); (case awithin => first | k_is | k_exc | rfl); (case lwithin => first | k_is | k_exc | rfl)
    (case cwithin => first | k_is | k_exc | rfl); (case kwithin => first | k_is | k_exc | rfl); (case aneed_player => first | k_is | k_exc | rfl); (case lneed_player => first | k_is | k_exc | rfl); (case cneed_player => first | k_is | k_exc | rfl); (case kneed_player => first | k_is | k_exc | rfl)
    (case aneed_mark => first | k_is | k_exc | rfl); (case lneed_mark => first | k_is | k_exc | rfl); (case cneed_mark => first | k_is | k_exc | rfl); (case kneed_mark => first | k_is | k_exc | rfl); (case ascore => first | k_is | k_exc | rfl); (case lscore => first | k_is | k_exc | rfl)
    (case cscore => first | k_is | k_exc | rfl); (case kscore => first | k_is | k_exc | rfl); (case abetter => first | k_is | k_exc | rfl); (case lbetter => first | k_is | k_exc | rfl); (case cbetter => first | k_is | k_exc | rfl); (case kbetter => first | k_is | k_exc | rfl)
    (case a_law_is => first | k_is | k_exc | rfl); (case l_law_is => first | k_is | k_exc | rfl); (case c_law_is => first | k_is | k_exc | rfl); (case k_law_is => first | k_is | k_exc | rfl); (case a_law_well => first | k_is | k_exc | rfl); (case l_law_well => first | k_is | k_exc | rfl)
    (case c_law_well => first | k_is | k_exc | rfl); (case k_law_well => first | k_is | k_exc | rfl); (case a_law_draw => first | k_is | k_exc | rfl); (case l_law_draw => first | k_is | k_exc | rfl); (case c_law_draw => first | k_is | k_exc | rfl); (case k_law_draw => first | k_is | k_exc | rfl)
    (case a_law_value => first | k_is | k_exc | rfl); (case l_law_value => first | k_is | k_exc | rfl); (case c_law_value => first | k_is | k_exc | rfl); (case k_law_value => first | k_is | k_exc | rfl); (case a_law_good => first | k_is | k_exc | rfl); (case l_law_good => first | k_is | k_exc | rfl)
    (case c_law_good => first | k_is | k_exc | rfl); (case k_law_good => first | k_is | k_exc | rfl); (case a_law_refusal => first | k_is | k_exc | rfl); (case l_law_refusal => first | k_is | k_exc | rfl); (case c_law_refusal => first | k_is | k_exc | rfl); (case k_law_refusal => first | k_is | k_exc | rfl)
    (case a_law_pairs_right => first | k_is | k_exc | rfl); (case l_law_pairs_right => first | k_is | k_exc | rfl); (case c_law_pairs_right => first | k_is | k_exc | rfl); (case k_law_pairs_right => first | k_is | k_exc | rfl); (case a_law_ring_right => first | k_is | k_exc | rfl); (case l_law_ring_right => first | k_is | k_exc | rfl)
    (case c_law_ring_right => first | k_is | k_exc | rfl); (case k_law_ring_right => first | k_is | k_exc | rfl); (case alaw => first | k_is | k_exc | rfl); (case llaw => first | k_is | k_exc | rfl); (case claw => first | k_is | k_exc | rfl); (case klaw => first | k_is | k_exc | rfl)
    (case aCGameError => first | k_is | k_exc | rfl); (case bCGameError => first | k_is | k_exc | rfl); (case tCGameError => first | k_is | k_exc | rfl); (case iCGameError => first | k_is | k_exc | rfl); (case aCBadPlayer => first | k_is | k_exc | rfl); (case eCBadPlayer => first | k_is | k_exc | rfl)
    (case kCBadPlayer => first | k_is | k_exc | rfl); (case bCBadPlayer => first | k_is | k_exc | rfl); (case tCBadPlayer => first | k_is | k_exc | rfl); (case iCBadPlayer => first | k_is | k_exc | rfl); (case aCBadMark => first | k_is | k_exc | rfl); (case eCBadMark => first | k_is | k_exc | rfl)
    (case kCBadMark => first | k_is | k_exc | rfl); (case bCBadMark => first | k_is | k_exc | rfl); (case tCBadMark => first | k_is | k_exc | rfl); (case iCBadMark => first | k_is | k_exc | rfl); (case yz_isinstance => first | k_is | k_exc | rfl); (case yz_int => first | k_is | k_exc | rfl)
    (case yz_bool => first | k_is | k_exc | rfl); (case gc_GREATEST_MARK => first | k_is | k_exc | rfl); (case yz_abs => first | k_is | k_exc | rfl); (case s_BadPlayer_BadPlayer => first | k_is | k_exc | rfl); (case s_BadPlayer_BadMark => first | k_is | k_exc | rfl); (case s_BadPlayer_GameError => first | k_is | k_exc | rfl)
    (case s_BadMark_BadPlayer => first | k_is | k_exc | rfl); (case s_BadMark_BadMark => first | k_is | k_exc | rfl); (case s_BadMark_GameError => first | k_is | k_exc | rfl); (case yz_range => first | k_is | k_exc | rfl); (case yz_max => first | k_is | k_exc | rfl); (case yz_len => first | k_is | k_exc | rfl)

