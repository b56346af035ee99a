import PyProof.Rows.All
import Wide.All
import OpenK.AllK
import Wide.FinOn
import HandS.ForMost
import HandS.Exc
import HandS.Walk
import HandS.Zip
import HandS.Wide
import HandS.IsInst
import HandS.SortInts
import HandS.Conv
import HandS.More
import HandS.Style
import HandS.Flow
import HandS.TryMany
import HandS.ExcInit
import HandS.CallSlots
import HandS.ExcInitHot
import HandS.RaiseFrom
import HandS.SuiteRaise
import HandS.ExcField
import HandS.Strs
import HandS.FStr
import HandS.StrMore
import HandS.SortRule
import HandS.TupAny
import HandS.ClsMeth
import KE.GoesEnum
import HandS.RaiseMore
import HandS.WideMore
import HandS.Words
import HandS.WordsExc
import HandS.Ends
import PySem.Challenge.RW_ebbmark_k06_holding_along
set_option Elab.async false
set_option linter.all false
set_option maxRecDepth 100000
/-! V1: data trees, owned trees, how they stand in the abstract heap. -/
namespace Vm
open PySem PySem.Spec PyProof.Rows L2

/-- a value with all that it reaches, never changed any more -/
inductive D where
  | non
  | bl (b : Bool)
  | int (i : Int)
  | str (x : String)
  | tup (xs : List D)
  | lst (xs : List D)
  | dct (kvs : List (D × D))
  /-- the script -/
  | scr (ns : List Int)

/-- what a slot holds: data, or a box that nobody else has -/
inductive O where
  | d (x : D)
  | lst (xs : List D)
  | dct (kvs : List (D × D))

def O.toD : O → D
  | .d x => x
  | .lst xs => .lst xs
  | .dct kvs => .dct kvs

def ownOf : D → O
  | .lst xs => .lst xs
  | .dct kvs => .dct kvs
  | x => .d x
def isBox : D → Bool
  | .lst _ => true
  | .dct _ => true
  | _ => false
theorem toD_ownOf (x : D) : (ownOf x).toD = x := by cases x <;> rfl

abbrev DK := Sum Int String
def toK : DK → Key
  | .inl i => .inl i
  | .inr x => .inr (Str.ofString x)
def keyD : D → Option DK
  | .int i => some (.inl i)
  | .str x => some (.inr x)
  | _ => none
theorem nat_inj {a b : Char} (h : a.toNat = b.toNat) : a = b := by
  apply Char.ext
  exact UInt32.toNat_inj.mp h
theorem chars_inj : ∀ {xs ys : List Char}, xs.map Char.toNat = ys.map Char.toNat → xs = ys
  | [], [], _ => rfl
  | [], _ :: _, h => by simp at h
  | _ :: _, [], h => by simp at h
  | a :: xs, b :: ys, h => by
    simp only [List.map_cons, List.cons.injEq] at h
    rw [nat_inj h.1, chars_inj h.2]
theorem str_cps (s : String) : (Str.ofString s).cps.toList = s.toList.map Char.toNat := by
  rw [Str.ofString_eq_toList]
theorem str_inj {a b : String} (h : Str.ofString a = Str.ofString b) : a = b := by
  have e := congrArg (fun x : Str => x.cps.toList) h
  simp only [str_cps] at e
  have := chars_inj e
  rw [← String.ofList_toList (s := a), this, String.ofList_toList]
theorem str_eq_iff {a b : String} : Str.ofString a = Str.ofString b ↔ a = b := ⟨str_inj, fun h => by rw [h]⟩
theorem toK_inj {a b : DK} (h : toK a = toK b) : a = b := by
  cases a <;> cases b <;> simp only [toK] at h
  · injection h with e; rw [e]
  · cases h
  · cases h
  · injection h with e; rw [str_inj e]
theorem toK_iff {a b : DK} : toK a = toK b ↔ a = b := ⟨toK_inj, fun h => by rw [h]⟩

/-- a list that is never changed: the script's -/
def SqF (K : PySem.W.Frag) (H : Hp) (a : Addr) (xs : List V) : Prop := (∃ o, H a = some (.frz o (.lst xs))) ∨
  ∃ (o : Obj) (its : Array Value) (n : Nat), K.lookup a = some o ∧ o.cls = .type "list" ∧ o.dict = none ∧ o.data = .seq its n ∧ its.size ≤ sizeLine ∧ Vals xs its.toList
theorem SqF.seq {K : PySem.W.Frag} {H : Hp} {a : Addr} {xs : List V} (h : SqF K H a xs) : SqL K H a xs := h.elim (fun z => .inl (.inr z)) .inr
section
variable (K : PySem.W.Frag) (H : Hp) (Z : Addr → Prop)
mutual
def RD : D → V → Prop
  | .non, v => v = .non
  | .bl b, v => v = .bl b
  | .int i, v => v = .int i
  | .str x, v => v = .str (Str.ofString x)
  | .tup xs, v => ∃ a vs, v = .ref a ∧ SqT K H a vs ∧ RDs xs vs
  | .lst xs, v => ∃ a vs, v = .ref a ∧ H a = some (.lst vs) ∧ Z a ∧ RDs xs vs
  | .dct kvs, v => ∃ a ks, v = .ref a ∧ Rd H a (.dK ks) ∧ Z a ∧ RKs kvs ks
  | .scr ns, v => ∃ a, v = .ref a ∧ SqF K H a (ns.map V.int)
def RDs : List D → List V → Prop
  | [], vs => vs = []
  | d :: ds, vs => ∃ v r, vs = v :: r ∧ RD d v ∧ RDs ds r
def RKs : List (D × D) → List (Key × V) → Prop
  | [], ks => ks = []
  | p :: r, ks => ∃ k' v r', ks = (toK k', v) :: r' ∧ keyD p.1 = some k' ∧ RD p.2 v ∧ RKs r r'
end
/-- the top may be a box that is somebody's -/
def RV : D → V → Prop
  | .lst xs, v => ∃ a vs, v = .ref a ∧ H a = some (.lst vs) ∧ RDs K H Z xs vs
  | .dct kvs, v => ∃ a ks, v = .ref a ∧ Rd H a (.dK ks) ∧ RKs K H Z kvs ks
  | x, v => RD K H Z x v
/-- o stands at v, its own boxes at A -/
def RO : O → V → (Addr → Prop) → Prop
  | .d x, v, A => RD K H Z x v ∧ ∀ b, ¬ A b
  | .lst xs, v, A => ∃ a vs, v = .ref a ∧ H a = some (.lst vs) ∧ RDs K H Z xs vs ∧ ∀ b, A b ↔ b = a
  | .dct kvs, v, A => ∃ a ks, v = .ref a ∧ H a = some (.dK ks) ∧ RKs K H Z kvs ks ∧ ∀ b, A b ↔ b = a
end

/-- what is never changed stands as before -/
structure Still (H : Hp) (Z : Addr → Prop) (H' : Hp) (Z' : Addr → Prop) : Prop where
  z : ∀ b o, H b = some o → Z b → H' b = some o
  m : ∀ b o, H b = some o → ¬ Mut (some o) → H' b = some o
  g : ∀ b, Z b → Z' b

section
variable {K : PySem.W.Frag} {H H' : Hp} {Z Z' : Addr → Prop}
theorem Still.sqt (k : Still H Z H' Z') {a : Addr} {vs : List V} (h : SqT K H a vs) : SqT K H' a vs := by
  rcases h with (h | ⟨o, h⟩) | h
  · exact .inl (.inl (k.m _ _ h (fun z => z)))
  · exact .inl (.inr ⟨o, k.m _ _ h (fun z => z)⟩)
  · exact .inr h
theorem Still.rd (k : Still H Z H' Z') {a : Addr} {u : HO} (h : Rd H a u) (z : Z a) : Rd H' a u := by
  rcases h with h | ⟨o, h⟩
  · exact .inl (k.z _ _ h z)
  · exact .inr ⟨o, k.m _ _ h (fun z => z)⟩
mutual
theorem RD.still (k : Still H Z H' Z') : ∀ {d : D} {v : V}, RD K H Z d v → RD K H' Z' d v
  | .non, _, h => h
  | .bl _, _, h => h
  | .int _, _, h => h
  | .str _, _, h => h
  | .tup xs, v, h => by
    unfold RD at h ⊢
    obtain ⟨a, vs, e, s, r⟩ := h
    exact ⟨a, vs, e, k.sqt s, RDs.still k r⟩
  | .lst xs, v, h => by
    unfold RD at h ⊢
    obtain ⟨a, vs, e, s, z, r⟩ := h
    exact ⟨a, vs, e, k.z _ _ s z, k.g _ z, RDs.still k r⟩
  | .dct kvs, v, h => by
    unfold RD at h ⊢
    obtain ⟨a, ks, e, s, z, r⟩ := h
    exact ⟨a, ks, e, k.rd s z, k.g _ z, RKs.still k r⟩
  | .scr ns, v, h => by
    unfold RD at h ⊢
    obtain ⟨a, e, s⟩ := h
    exact ⟨a, e, s.elim (fun ⟨o, s⟩ => .inl ⟨o, k.m _ _ s fun z => z⟩) .inr⟩
theorem RDs.still (k : Still H Z H' Z') : ∀ {ds : List D} {vs : List V}, RDs K H Z ds vs → RDs K H' Z' ds vs
  | [], _, h => by unfold RDs at h ⊢; exact h
  | d :: ds, vs, h => by
    unfold RDs at h ⊢
    obtain ⟨v, r, e, a, b⟩ := h
    exact ⟨v, r, e, RD.still k a, RDs.still k b⟩
theorem RKs.still (k : Still H Z H' Z') : ∀ {ds : List (D × D)} {vs : List (Key × V)}, RKs K H Z ds vs → RKs K H' Z' ds vs
  | [], _, h => by unfold RKs at h ⊢; exact h
  | p :: ds, vs, h => by
    unfold RKs at h ⊢
    obtain ⟨k', v, r, e, f, a, b⟩ := h
    exact ⟨k', v, r, e, f, RD.still k a, RKs.still k b⟩
end
theorem RDs.nil_iff {vs : List V} : RDs K H Z [] vs ↔ vs = [] := by unfold RDs; exact Iff.rfl
theorem RDs.cons_iff {d : D} {ds : List D} {vs : List V} : RDs K H Z (d :: ds) vs ↔ ∃ v r, vs = v :: r ∧ RD K H Z d v ∧ RDs K H Z ds r := by
  constructor
  · intro h; unfold RDs at h; exact h
  · intro h; unfold RDs; exact h
theorem RDs.mk {d : D} {ds : List D} {v : V} {r : List V} (a : RD K H Z d v) (b : RDs K H Z ds r) : RDs K H Z (d :: ds) (v :: r) := RDs.cons_iff.mpr ⟨v, r, rfl, a, b⟩
theorem RDs.length : ∀ {ds : List D} {vs : List V}, RDs K H Z ds vs → ds.length = vs.length
  | [], vs, h => by rw [RDs.nil_iff.mp h]; rfl
  | d :: ds, vs, h => by
    obtain ⟨v, r, e, a, b⟩ := RDs.cons_iff.mp h
    rw [e, List.length_cons, List.length_cons, RDs.length b]
theorem RDs.get : ∀ {ds : List D} {vs : List V}, RDs K H Z ds vs → ∀ {i : Nat} {d : D}, ds[i]? = some d → ∃ v, vs[i]? = some v ∧ RD K H Z d v
  | [], vs, h, i, d, e => by simp at e
  | x :: ds, vs, h, 0, d, e => by
    obtain ⟨v, r, e', a, b⟩ := RDs.cons_iff.mp h
    simp at e
    subst e
    exact ⟨v, by rw [e']; rfl, a⟩
  | x :: ds, vs, h, i + 1, d, e => by
    obtain ⟨v, r, e', a, b⟩ := RDs.cons_iff.mp h
    obtain ⟨w, h1, h2⟩ := RDs.get b (i := i) (d := d) (by simpa using e)
    exact ⟨w, by rw [e']; simpa using h1, h2⟩
theorem RDs.app : ∀ {ds : List D} {vs : List V} {es : List D} {ws : List V}, RDs K H Z ds vs → RDs K H Z es ws → RDs K H Z (ds ++ es) (vs ++ ws)
  | [], vs, es, ws, h, g => by rw [RDs.nil_iff.mp h]; exact g
  | d :: ds, vs, es, ws, h, g => by
    obtain ⟨v, r, e, a, b⟩ := RDs.cons_iff.mp h
    rw [e]
    exact RDs.mk a (RDs.app b g)
theorem RDs.take : ∀ {ds : List D} {vs : List V} (n : Nat), RDs K H Z ds vs → RDs K H Z (ds.take n) (vs.take n)
  | ds, vs, 0, _ => by simp [RDs.nil_iff]
  | [], vs, n + 1, h => by rw [RDs.nil_iff.mp h]; simp [RDs.nil_iff]
  | d :: ds, vs, n + 1, h => by
    obtain ⟨v, r, e, a, b⟩ := RDs.cons_iff.mp h
    rw [e]
    exact RDs.mk a (RDs.take n b)
theorem RDs.drop : ∀ {ds : List D} {vs : List V} (n : Nat), RDs K H Z ds vs → RDs K H Z (ds.drop n) (vs.drop n)
  | ds, vs, 0, h => by simpa using h
  | [], vs, n + 1, h => by rw [RDs.nil_iff.mp h]; simp [RDs.nil_iff]
  | d :: ds, vs, n + 1, h => by
    obtain ⟨v, r, e, a, b⟩ := RDs.cons_iff.mp h
    rw [e]
    exact RDs.drop n b
theorem RDs.rev : ∀ {ds : List D} {vs : List V}, RDs K H Z ds vs → RDs K H Z ds.reverse vs.reverse
  | [], vs, h => by rw [RDs.nil_iff.mp h]; simp [RDs.nil_iff]
  | d :: ds, vs, h => by
    obtain ⟨v, r, e, a, b⟩ := RDs.cons_iff.mp h
    rw [e, List.reverse_cons, List.reverse_cons]
    exact RDs.app (RDs.rev b) (RDs.mk a (RDs.nil_iff.mpr rfl))
theorem RDs.set : ∀ {ds : List D} {vs : List V} (i : Nat) {d : D} {v : V}, RDs K H Z ds vs → RD K H Z d v → RDs K H Z (ds.set i d) (vs.set i v)
  | [], vs, i, d, v, h, g => by rw [RDs.nil_iff.mp h]; simp [RDs.nil_iff]
  | x :: ds, vs, 0, d, v, h, g => by
    obtain ⟨w, r, e, a, b⟩ := RDs.cons_iff.mp h
    rw [e]
    exact RDs.mk g b
  | x :: ds, vs, i + 1, d, v, h, g => by
    obtain ⟨w, r, e, a, b⟩ := RDs.cons_iff.mp h
    rw [e]
    exact RDs.mk a (RDs.set i b g)

theorem RO.toRV {o : O} {v : V} {A : Addr → Prop} (h : RO K H Z o v A) : RV K H Z o.toD v := by
  cases o with
  | d x =>
    obtain ⟨h, _⟩ := h
    cases x with
    | lst xs => unfold RD at h; obtain ⟨a, vs, e, s, z, r⟩ := h; exact ⟨a, vs, e, s, r⟩
    | dct kvs => unfold RD at h; obtain ⟨a, vs, e, s, z, r⟩ := h; exact ⟨a, vs, e, s, r⟩
    | non => exact h
    | bl _ => exact h
    | int _ => exact h
    | str _ => exact h
    | tup _ => exact h
    | scr _ => exact h
  | lst xs => obtain ⟨a, vs, e, s, r, _⟩ := h; exact ⟨a, vs, e, s, r⟩
  | dct xs => obtain ⟨a, vs, e, s, r, _⟩ := h; exact ⟨a, vs, e, .inl s, r⟩
theorem RD.toRV {x : D} {v : V} (h : RD K H Z x v) : RV K H Z x v := RO.toRV (o := .d x) (A := fun _ => False) ⟨h, fun _ z => z⟩
theorem RV.toRD {x : D} {v : V} (h : RV K H Z x v) (hb : isBox x = false) : RD K H Z x v := by
  cases x <;> first | exact h | cases hb
theorem Still.of_z (g : ∀ b, Z b → Z' b) : Still H Z H Z' := ⟨fun _ _ h _ => h, fun _ _ h _ => h, g⟩
/-- frozen -/
theorem RO.toRD {o : O} {v : V} {A : Addr → Prop} (h : RO K H Z o v A) : RD K H (fun b => Z b ∨ A b) o.toD v := by
  have k : Still H Z H (fun b => Z b ∨ A b) := Still.of_z fun b z => .inl z
  cases o with
  | d x => exact RD.still k h.1
  | lst xs => obtain ⟨a, vs, e, s, r, q⟩ := h; show RD _ _ _ (.lst xs) v; unfold RD; exact ⟨a, vs, e, s, .inr ((q a).mpr rfl), RDs.still k r⟩
  | dct xs => obtain ⟨a, vs, e, s, r, q⟩ := h; show RD _ _ _ (.dct xs) v; unfold RD; exact ⟨a, vs, e, .inl s, .inr ((q a).mpr rfl), RKs.still k r⟩
theorem RO.still {o : O} {v : V} {A : Addr → Prop} (h : RO K H Z o v A) (k : Still H Z H' Z') (ka : ∀ b u, A b → H b = some u → H' b = some u) : RO K H' Z' o v A := by
  cases o with
  | d x => exact ⟨RD.still k h.1, h.2⟩
  | lst xs => obtain ⟨a, vs, e, s, r, q⟩ := h; exact ⟨a, vs, e, ka _ _ ((q a).mpr rfl) s, RDs.still k r, q⟩
  | dct xs => obtain ⟨a, vs, e, s, r, q⟩ := h; exact ⟨a, vs, e, ka _ _ ((q a).mpr rfl) s, RKs.still k r, q⟩
theorem RO.mut {o : O} {v : V} {A : Addr → Prop} (h : RO K H Z o v A) {b : Addr} (a : A b) : Mut (H b) := by
  cases o with
  | d x => exact absurd a (h.2 b)
  | lst xs => obtain ⟨p, vs, e, s, r, q⟩ := h; rw [(q b).mp a, s]; trivial
  | dct xs => obtain ⟨p, vs, e, s, r, q⟩ := h; rw [(q b).mp a, s]; trivial
theorem RO.iff {o : O} {v : V} {A B : Addr → Prop} (h : RO K H Z o v A) (e : ∀ b, A b ↔ B b) : RO K H Z o v B := by
  have : A = B := funext fun b => propext (e b)
  exact this ▸ h
end

/-! ### the slots -/
abbrev Env := List (Option O)
def W (A : Nat → Addr → Prop) : Addr → Prop := fun b => ∃ i, A i b
def uA (A : Nat → Addr → Prop) (i : Nat) (B : Addr → Prop) : Nat → Addr → Prop := fun j => if j = i then B else A j
theorem uA_same {A : Nat → Addr → Prop} {i : Nat} {B : Addr → Prop} : uA A i B i = B := if_pos rfl
theorem uA_ne {A : Nat → Addr → Prop} {i j : Nat} {B : Addr → Prop} (h : j ≠ i) : uA A i B j = A j := if_neg h
abbrev noA : Addr → Prop := fun _ => False

structure ER (K : PySem.W.Frag) (H : Hp) (Z : Addr → Prop) (σ : L2.St) (e : Env) (A : Nat → Addr → Prop) : Prop where
  len : e.length = σ.length
  rep : ∀ i o, e[i]? = some (some o) → ∃ v, σ[i]? = some (some v) ∧ RO K H Z o v (A i)
  emp : ∀ i, (∀ o, e[i]? ≠ some (some o)) → ∀ b, ¬ A i b
  dj : ∀ i j b, A i b → A j b → i = j
  nz : ∀ i b, A i b → ¬ Z b
  zd : ∀ b, Z b → H b ≠ none

/-- from one state to a later one: what is not owned stays -/
structure Stp (H : Hp) (Z Wo : Addr → Prop) (H' : Hp) (Z' Wo' : Addr → Prop) : Prop where
  keep : ∀ b o, H b = some o → ¬ Wo b → H' b = some o
  dom : ∀ b, H b ≠ none → H' b ≠ none
  zm : ∀ b, Z b → Z' b
  zn : ∀ b, Z' b → Z b ∨ Wo b ∨ H b = none
  wn : ∀ b, Wo' b → Wo b ∨ H b = none

section
variable {K : PySem.W.Frag} {H H' H1 H2 : Hp} {Z Z' Z1 Z2 : Addr → Prop} {σ : L2.St} {e e' : Env} {A A' : Nat → Addr → Prop} {W0 W1 W2 : Addr → Prop}
theorem Stp.refl : Stp H Z W0 H Z W0 := ⟨fun _ _ h _ => h, fun _ h => h, fun _ h => h, fun _ h => .inl h, fun _ h => .inl h⟩
theorem Stp.none (s : Stp H Z W0 H1 Z1 W1) {b : Addr} (h : H1 b = none) : H b = none := by
  cases q : H b with
  | none => rfl
  | some o => exact absurd h (s.dom b (by rw [q]; exact fun z => nomatch z))
theorem Stp.trans (a : Stp H Z W0 H1 Z1 W1) (b : Stp H1 Z1 W1 H2 Z2 W2) : Stp H Z W0 H2 Z2 W2 where
  keep := fun c o h n => by
    refine b.keep c o (a.keep c o h n) fun w => ?_
    rcases a.wn c w with z | z
    · exact n z
    · rw [h] at z; cases z
  dom := fun c h => b.dom c (a.dom c h)
  zm := fun c h => b.zm c (a.zm c h)
  zn := fun c h => by
    rcases b.zn c h with z | z | z
    · exact a.zn c z
    · rcases a.wn c z with y | y
      · exact .inr (.inl y)
      · exact .inr (.inr y)
    · exact .inr (.inr (a.none z))
  wn := fun c h => by
    rcases b.wn c h with z | z
    · exact a.wn c z
    · exact .inr (a.none z)
theorem Stp.less (a : Stp H Z W0 H1 Z1 W1) (h : ∀ b, W2 b → W1 b) : Stp H Z W0 H1 Z1 W2 := ⟨a.keep, a.dom, a.zm, a.zn, fun b w => a.wn b (h b w)⟩
theorem Stp.frz (a : Stp H Z W0 H1 Z1 W1) (h : ∀ b, Z2 b → Z1 b ∨ W1 b) (g : ∀ b, Z1 b → Z2 b) (w : ∀ b, W2 b → W1 b) : Stp H Z W0 H1 Z2 W2 :=
  ⟨a.keep, a.dom, fun b z => g b (a.zm b z), fun b z => (h b z).elim (a.zn b) fun y => (a.wn b y).elim (fun x => .inr (.inl x)) fun x => .inr (.inr x), fun b y => a.wn b (w b y)⟩
/-- only new things -/
structure Grow (H : Hp) (Z : Addr → Prop) (H' : Hp) (Z' : Addr → Prop) : Prop where
  same : Same H H'
  zm : ∀ b, Z b → Z' b
  zn : ∀ b, Z' b → Z b ∨ H b = none
theorem Grow.refl : Grow H Z H Z := ⟨Same.refl H, fun _ z => z, fun _ z => .inl z⟩
theorem Grow.trans (a : Grow H Z H1 Z1) (b : Grow H1 Z1 H2 Z2) : Grow H Z H2 Z2 :=
  ⟨a.same.trans b.same, fun c z => b.zm c (a.zm c z), fun c z => (b.zn c z).elim (a.zn c) fun y => .inr (a.same.free y)⟩
theorem Grow.still (a : Grow H Z H1 Z1) : Still H Z H1 Z1 := ⟨fun b o h _ => a.same b o h, fun b o h _ => a.same b o h, a.zm⟩
theorem Grow.stp (a : Grow H Z H1 Z1) : Stp H Z W0 H1 Z1 W0 where
  keep := fun b o h _ => a.same b o h
  dom := fun b h q => by
    cases r : H b with
    | none => exact h r
    | some o => rw [a.same b o r] at q; cases q
  zm := a.zm
  zn := fun b z => (a.zn b z).elim .inl fun y => .inr (.inr y)
  wn := fun _ w => .inl w
theorem ER.mut (E : ER K H Z σ e A) {i : Nat} {b : Addr} (a : A i b) : Mut (H b) := by
  cases q : e[i]? with
  | none => exact absurd a (E.emp i (fun o => by rw [q]; exact fun z => nomatch z) b)
  | some x =>
    cases x with
    | none => exact absurd a (E.emp i (fun o => by rw [q]; exact fun z => nomatch z) b)
    | some o =>
      obtain ⟨v, _, r⟩ := E.rep i o q
      exact r.mut a
theorem ER.ad (E : ER K H Z σ e A) {i : Nat} {b : Addr} (a : A i b) : H b ≠ none := fun z => by
  have m := E.mut a
  rw [z] at m
  exact m
theorem ER.notW (E : ER K H Z σ e A) {b : Addr} (z : Z b) : ¬ W A b := fun ⟨i, a⟩ => E.nz i b a z
theorem ER.still (E : ER K H Z σ e A) (s : Stp H Z (W A) H' Z' W1) : Still H Z H' Z' where
  z := fun b o h z => s.keep b o h (E.notW z)
  m := fun b o h n => s.keep b o h fun ⟨i, a⟩ => n (h ▸ E.mut a)
  g := s.zm
theorem ER.zd' (E : ER K H Z σ e A) (s : Stp H Z (W A) H' Z' W1) (zd : ∀ b, Z' b → H b = none → H' b ≠ none) : ∀ b, Z' b → H' b ≠ none := fun b z => by
  by_cases q : H b = none
  · exact zd b z q
  · exact s.dom b q
/-- only new things were laid -/
theorem ER.grow (E : ER K H Z σ e A) (g : Grow H Z H' Z') (zd : ∀ b, Z' b → H' b ≠ none) : ER K H' Z' σ e A where
  len := E.len
  rep := fun i o h => by
    obtain ⟨v, hv, r⟩ := E.rep i o h
    exact ⟨v, hv, r.still g.still fun b u _ q => g.same b u q⟩
  emp := E.emp
  dj := E.dj
  nz := fun i b a z => (g.zn b z).elim (E.nz i b a) fun y => E.ad a y
  zd := zd
/-- slot i: something new -/
theorem ER.set (E : ER K H Z σ e A) {i : Nat} {o : O} {v : V} {B : Addr → Prop} (r : RO K H Z o v B) (dj : ∀ j b, A j b → ¬ B b) (nz : ∀ b, B b → ¬ Z b) (hi : i < e.length) :
    ER K H Z (σ.set i (some v)) (e.set i (some o)) (uA A i B) where
  len := by rw [List.length_set, List.length_set, E.len]
  rep := fun j u h => by
    by_cases hj : j = i
    · subst hj
      rw [List.getElem?_set_self hi] at h
      cases h
      exact ⟨v, by rw [List.getElem?_set_self (by rw [← E.len]; exact hi)], by rw [uA_same]; exact r⟩
    · rw [List.getElem?_set_ne (Ne.symm hj)] at h
      obtain ⟨w, hw, q⟩ := E.rep j u h
      exact ⟨w, by rw [List.getElem?_set_ne (Ne.symm hj)]; exact hw, by rw [uA_ne hj]; exact q⟩
  emp := fun j h b a => by
    by_cases hj : j = i
    · subst hj
      exact h o (List.getElem?_set_self hi)
    · rw [uA_ne hj] at a
      refine E.emp j (fun u q => h u ?_) b a
      rw [List.getElem?_set_ne (Ne.symm hj)]
      exact q
  dj := fun j k b a c => by
    by_cases hj : j = i
    · by_cases hk : k = i
      · rw [hj, hk]
      · subst hj
        rw [uA_same] at a
        rw [uA_ne hk] at c
        exact absurd a (dj k b c)
    · by_cases hk : k = i
      · subst hk
        rw [uA_same] at c
        rw [uA_ne hj] at a
        exact absurd c (dj j b a)
      · rw [uA_ne hj] at a
        rw [uA_ne hk] at c
        exact E.dj j k b a c
  nz := fun j b a => by
    by_cases hj : j = i
    · subst hj
      rw [uA_same] at a
      exact nz b a
    · rw [uA_ne hj] at a
      exact E.nz j b a
  zd := E.zd
/-- slot i is forgotten -/
theorem ER.forget (E : ER K H Z σ e A) (i : Nat) : ER K H Z σ (e.set i none) (uA A i noA) where
  len := by rw [List.length_set, E.len]
  rep := fun j u h => by
    by_cases hj : j = i
    · subst hj
      by_cases hl : j < e.length
      · rw [List.getElem?_set_self hl] at h; cases h
      · rw [List.getElem?_eq_none (by simpa using hl)] at h; cases h
    · rw [List.getElem?_set_ne (Ne.symm hj)] at h
      obtain ⟨w, hw, q⟩ := E.rep j u h
      exact ⟨w, hw, by rw [uA_ne hj]; exact q⟩
  emp := fun j h b a => by
    by_cases hj : j = i
    · subst hj
      rw [uA_same] at a
      exact a
    · rw [uA_ne hj] at a
      refine E.emp j (fun u q => h u ?_) b a
      rw [List.getElem?_set_ne (Ne.symm hj)]
      exact q
  dj := fun j k b a c => by
    by_cases hj : j = i
    · subst hj; rw [uA_same] at a; exact a.elim
    · by_cases hk : k = i
      · subst hk; rw [uA_same] at c; exact c.elim
      · rw [uA_ne hj] at a
        rw [uA_ne hk] at c
        exact E.dj j k b a c
  nz := fun j b a => by
    by_cases hj : j = i
    · subst hj; rw [uA_same] at a; exact a.elim
    · rw [uA_ne hj] at a
      exact E.nz j b a
  zd := E.zd
/-- the slots' values may be other ones where nothing is known -/
theorem ER.vals (E : ER K H Z σ e A) {σ' : L2.St} (hl : σ'.length = σ.length) (h : ∀ (i : Nat) (o : O) (v : V), e[i]? = some (some o) → σ[i]? = some (some v) → σ'[i]? = some (some v)) : ER K H Z σ' e A :=
  ⟨E.len.trans hl.symm, fun i o q => let ⟨v, hv, r⟩ := E.rep i o q; ⟨v, h i o v q hv, r⟩, E.emp, E.dj, E.nz, E.zd⟩
/-- slot i's boxes have changed (the rest of the heap stands) -/
theorem ER.chg (E : ER K H Z σ e A) {i : Nat} {o o' : O} {v : V} {B : Addr → Prop} (hv : σ[i]? = some (some v)) (ho : e[i]? = some (some o)) (s : Stp H Z (A i) H' Z' B)
    (r : RO K H' Z' o' v B) (nz : ∀ b, B b → ¬ Z' b) (zd : ∀ b, Z' b → H' b ≠ none) : ER K H' Z' σ (e.set i (some o')) (uA A i B) where
  len := by rw [List.length_set, E.len]
  rep := fun j u h => by
    by_cases hj : j = i
    · subst hj
      rw [List.getElem?_set_self (List.getElem?_eq_some_iff.mp ho).1] at h
      cases h
      exact ⟨v, hv, by rw [uA_same]; exact r⟩
    · rw [List.getElem?_set_ne (Ne.symm hj)] at h
      obtain ⟨w, hw, q⟩ := E.rep j u h
      have st : Still H Z H' Z' := ⟨fun b o h z => s.keep b o h fun a => E.nz i b a z, fun b o h n => s.keep b o h fun a => n (h ▸ E.mut a), s.zm⟩
      exact ⟨w, hw, by rw [uA_ne hj]; exact q.still st fun b u a hb => s.keep b u hb fun c => hj (E.dj j i b a c)⟩
  emp := fun j h b a => by
    by_cases hj : j = i
    · subst hj
      exact h o' (List.getElem?_set_self (List.getElem?_eq_some_iff.mp ho).1)
    · rw [uA_ne hj] at a
      refine E.emp j (fun u q => h u ?_) b a
      rw [List.getElem?_set_ne (Ne.symm hj)]
      exact q
  dj := fun j k b a c => by
    have key : ∀ k b, k ≠ i → A k b → B b → False := fun k b hk a c => by
      rcases s.wn b c with z | z
      · exact hk (E.dj k i b a z)
      · exact E.ad a z
    by_cases hj : j = i
    · by_cases hk : k = i
      · rw [hj, hk]
      · subst hj
        rw [uA_same] at a
        rw [uA_ne hk] at c
        exact (key k b hk c a).elim
    · by_cases hk : k = i
      · subst hk
        rw [uA_same] at c
        rw [uA_ne hj] at a
        exact (key j b hj a c).elim
      · rw [uA_ne hj] at a
        rw [uA_ne hk] at c
        exact E.dj j k b a c
  nz := fun j b a => by
    by_cases hj : j = i
    · subst hj
      rw [uA_same] at a
      exact nz b a
    · rw [uA_ne hj] at a
      intro z
      rcases s.zn b z with y | y | y
      · exact E.nz j b a y
      · exact hj (E.dj j i b a y)
      · exact E.ad a y
  zd := zd
theorem ER.stpChg (E : ER K H Z σ e A) {i : Nat} {B : Addr → Prop} (s : Stp H Z (A i) H' Z' B) : Stp H Z (W A) H' Z' (W (uA A i B)) where
  keep := fun b o h n => s.keep b o h fun a => n ⟨i, a⟩
  dom := s.dom
  zm := s.zm
  zn := fun b z => (s.zn b z).elim .inl fun y => y.elim (fun a => .inr (.inl ⟨i, a⟩)) fun x => .inr (.inr x)
  wn := fun b ⟨j, a⟩ => by
    by_cases hj : j = i
    · subst hj
      rw [uA_same] at a
      exact (s.wn b a).elim (fun x => .inl ⟨j, x⟩) .inr
    · rw [uA_ne hj] at a
      exact .inl ⟨j, a⟩
/-- slot i is frozen -/
theorem ER.frz (E : ER K H Z σ e A) {i : Nat} {o : O} (ho : e[i]? = some (some o)) : ∃ v, σ[i]? = some (some v) ∧ RD K H (fun b => Z b ∨ A i b) o.toD v ∧
    ER K H (fun b => Z b ∨ A i b) σ (e.set i (some (.d o.toD))) (uA A i noA) ∧ Stp H Z (W A) H (fun b => Z b ∨ A i b) (W (uA A i noA)) := by
  obtain ⟨v, hv, r⟩ := E.rep i o ho
  have s : Stp H Z (A i) H (fun b => Z b ∨ A i b) noA := ⟨fun _ _ h _ => h, fun _ h => h, fun _ z => .inl z, fun b z => z.elim .inl fun y => .inr (.inl y), fun _ z => z.elim⟩
  exact ⟨v, hv, r.toRD, E.chg hv ho s ⟨r.toRD, fun _ z => z⟩ (fun _ z => z.elim) (fun b z => z.elim (E.zd b) fun y => E.ad y), E.stpChg s⟩
end
end Vm

set_option Elab.async false
set_option linter.all false
set_option maxRecDepth 100000
/-! V2: the little machine: what a def's text does to data. -/
namespace Vm
open PySem PySem.Spec PyProof.Rows L2

/-- the longest list or text -/
def big : Nat := 16777216

inductive OpK where
  | add | sub | mul | fdv | mod | pow | neg
  | lt | le | gt | ge | eq | ne | isN | noN | inn | nin
  | len | all1 | any1 | sum1 | mn1 | mx1 | mn2 | mx2 | lst1 | tup1 | int1 | str1 | dct1 | srt
  | idx | srev
  | join | get1 | get2 | upper | lower | isupper | islower | split
  | isi (t : Nat)
  | tab (n : String)
  | lrg
  | inT (n : String)
  | ninT (n : String)
  deriving DecidableEq, Repr

mutual
def eqD : D → D → Bool
  | .non, .non => true
  | .bl a, .bl b => a == b
  | .bl a, .int j => (if a then 1 else 0) == j
  | .int i, .bl b => i == (if b then 1 else 0)
  | .int i, .int j => i == j
  | .str x, .str y => x == y
  | .lst xs, .lst ys => eqDs xs ys
  | .tup xs, .tup ys => eqDs xs ys
  | _, _ => false
def eqDs : List D → List D → Bool
  | [], [] => true
  | x :: xs, y :: ys => eqD x y && eqDs xs ys
  | _, _ => false
end
mutual
/-- no dict within, at most so deep -/
def shal : Nat → D → Bool
  | n, .tup xs => match n with | 0 => false | n + 1 => shals n xs
  | n, .lst xs => match n with | 0 => false | n + 1 => shals n xs
  | _, .dct _ => false
  | _, .scr _ => false
  | _, _ => true
def shals : Nat → List D → Bool
  | _, [] => true
  | n, x :: xs => shal n x && shals n xs
end
/-- a scalar -/
def flat : D → Bool
  | .non => true
  | .bl _ => true
  | .int _ => true
  | .str _ => true
  | _ => false

def mulOk (i j : Int) : Prop := i.natAbs < 18446744073709551616 ∨ j.natAbs < 18446744073709551616 ∨ i.natAbs.log2 + j.natAbs.log2 < 1000000
instance (i j : Int) : Decidable (mulOk i j) := by unfold mulOk; infer_instance

def oAdd : List D → Option D
  | [.int i, .int j] => some (.int (i + j))
  | [.str a, .str b] => if a.length + b.length ≤ big then some (.str (a ++ b)) else none
  | [.lst a, .lst b] => if a.length + b.length ≤ big then some (.lst (a ++ b)) else none
  | [.tup a, .tup b] => if a.length + b.length ≤ big ∧ a ≠ [] then some (.tup (a ++ b)) else none
  | _ => none
def oSub : List D → Option D
  | [.int i, .int j] => some (.int (i - j))
  | _ => none
def oMul : List D → Option D
  | [.int i, .int j] => if mulOk i j then some (.int (i * j)) else none
  | _ => none
def oFdv : List D → Option D
  | [.int i, .int j] => if 0 < j ∧ j.natAbs.log2 < 9000 then some (.int (i / j)) else none
  | _ => none
def oMod : List D → Option D
  | [.int i, .int j] => if 0 < j then some (.int (i % j)) else none
  | _ => none
def oPow : List D → Option D
  | [.int i, .int j] => if 0 ≤ j ∧ j ≤ 1000000 ∧ i.natAbs < 18446744073709551616 then some (.int (i ^ j.toNat)) else none
  | _ => none
def oNeg : List D → Option D
  | [.int i] => some (.int (-i))
  | _ => none
def oCmp (p : Int → Int → Bool) : List D → Option D
  | [.int i, .int j] => some (.bl (p i j))
  | _ => none
def oEq (neg : Bool) : List D → Option D
  | [a, b] => if shal 60 a = true ∧ shal 60 b = true then some (.bl (neg ^^ eqD a b)) else none
  | _ => none
def oIsN (neg : Bool) : List D → Option D
  | [.non] => some (.bl (neg ^^ true))
  | [_] => some (.bl (neg ^^ false))
  | _ => none
def inL (x : D) : List D → Bool
  | [] => false
  | y :: ys => eqD y x || inL x ys
def valD (kvs : List (D × D)) (k : DK) : Option D :=
  match kvs with
  | [] => none
  | p :: r => if keyD p.1 = some k then some p.2 else valD r k
def inD (neg : Bool) (x : D) : D → Option D
  | .str b => match x with
    | .str a => match a.toList with
      | [c] => some (.bl (neg ^^ decide (c ∈ b.toList)))
      | _ => none
    | _ => none
  | .lst ys => if flat x = true ∧ ys.all flat = true then some (.bl (neg ^^ inL x ys)) else none
  | .tup ys => if flat x = true ∧ ys.all flat = true then some (.bl (neg ^^ inL x ys)) else none
  | .dct kvs => match keyD x with
    | some k => some (.bl (neg ^^ (valD kvs k).isSome))
    | none => none
  | _ => none
def oIn (neg : Bool) : List D → Option D
  | [x, y] => inD neg x y
  | _ => none
def oLen : List D → Option D
  | [.str a] => if a.length ≤ big then some (.int a.length) else none
  | [.lst xs] => some (.int xs.length)
  | [.tup xs] => some (.int xs.length)
  | [.dct xs] => some (.int xs.length)
  | _ => none
def bls : List D → Option (List Bool)
  | [] => some []
  | .bl b :: r => (bls r).map (b :: ·)
  | _ => none
def intsOf : List D → Option (List Int)
  | [] => some []
  | .int b :: r => (intsOf r).map (b :: ·)
  | _ => none
def strsOf : List D → Option (List String)
  | [] => some []
  | .str b :: r => (strsOf r).map (b :: ·)
  | _ => none
def oAll : List D → Option D
  | [.lst xs] => (bls xs).map fun bs => .bl (bs.all id)
  | _ => none
def oAny : List D → Option D
  | [.lst xs] => (bls xs).map fun bs => .bl (bs.any id)
  | _ => none
def oSum : List D → Option D
  | [.lst xs] => (intsOf xs).map fun ns => .int ns.sum
  | _ => none
def minL : List Int → Option Int
  | [] => none
  | [x] => some x
  | x :: r => (minL r).map fun m => if m < x then m else x
def maxL : List Int → Option Int
  | [] => none
  | [x] => some x
  | x :: r => (maxL r).map fun m => if x < m then m else x
def oMn1 : List D → Option D
  | [.lst xs] => ((intsOf xs).bind minL).map .int
  | _ => none
def oMx1 : List D → Option D
  | [.lst xs] => ((intsOf xs).bind maxL).map .int
  | _ => none
def oMn2 : List D → Option D
  | [.int i, .int j] => some (.int (if j < i then j else i))
  | _ => none
def oMx2 : List D → Option D
  | [.int i, .int j] => some (.int (if j > i then j else i))
  | _ => none
def oLst : List D → Option D
  | [.lst xs] => some (.lst xs)
  | [.tup xs] => some (.lst xs)
  | [.dct kvs] => some (.lst (kvs.map (·.1)))
  | _ => none
def oTup : List D → Option D
  | [.lst xs] => some (.tup xs)
  | [.tup xs] => some (.tup xs)
  | _ => none
def oDct : List D → Option D
  | [.dct xs] => some (.dct xs)
  | _ => none
def oInt : List D → Option D
  | [.int i] => some (.int i)
  | [.bl b] => some (.int (if b then 1 else 0))
  | [.str s] => if s.length ≤ 640 then (PySem.intText? (Str.ofString s)).map .int else none
  | _ => none
def oStr : List D → Option D
  | [.int i] => if i.natAbs.log2 < 1920 then some (.str (toString i)) else none
  | [.str s] => some (.str s)
  | _ => none
def at? (xs : List D) (i : Int) : Option D := if 0 ≤ i then (if i < 9223372036854775808 then xs[i.toNat]? else none) else if -(xs.length : Int) ≤ i then xs[(i + xs.length).toNat]? else none
def chr? (xs : List Char) (i : Int) : Option Char := if 0 ≤ i then (if i < 9223372036854775808 then xs[i.toNat]? else none) else if -(xs.length : Int) ≤ i then xs[(i + xs.length).toNat]? else none
def oIdx : List D → Option D
  | [.lst xs, .int i] => at? xs i
  | [.tup xs, .int i] => at? xs i
  | [.str s, .int i] => if s.length ≤ big then (chr? s.toList i).map fun c => .str (String.ofList [c]) else none
  | [.dct kvs, x] => (keyD x).bind (valD kvs)
  | _ => none
/-- where a slice begins or ends -/
def cl (n : Nat) (i : Int) : Nat := if i < 0 then (i + n).toNat else min i.toNat n
def cut {α : Type} (xs : List α) (i j : Nat) : List α := (xs.drop i).take (j - i)
def loN (n : Nat) : Option Int → Nat
  | none => 0
  | some i => cl n i
def hiN (n : Nat) : Option Int → Nat
  | none => n
  | some i => cl n i
/-- x[lo:hi] -/
def oSl (lo hi : Option Int) : D → Option D
  | .lst xs => some (.lst (cut xs (loN xs.length lo) (hiN xs.length hi)))
  | .tup xs => if (cut xs (loN xs.length lo) (hiN xs.length hi)).length < xs.length then some (.tup (cut xs (loN xs.length lo) (hiN xs.length hi))) else none
  | .str s => if s.length ≤ big then some (.str (String.ofList (cut s.toList (loN s.length lo) (hiN s.length hi)))) else none
  | .scr ns => some (.lst ((cut ns (loN ns.length lo) (hiN ns.length hi)).map .int))
  | _ => none
def oRev : List D → Option D
  | [.lst xs] => some (.lst xs.reverse)
  | _ => none
def joinS (sep : String) : List String → String
  | [] => ""
  | [x] => x
  | x :: y :: r => x ++ sep ++ joinS sep (y :: r)
def oJoin : List D → Option D
  | [.str s, .lst xs] => match strsOf xs with
    | some ss => if ss.length * s.length + (ss.map String.length).sum ≤ big then some (.str (joinS s ss)) else none
    | none => none
  | _ => none
def oGet1 : List D → Option D
  | [.dct kvs, x] => (keyD x).map fun k => (valD kvs k).getD .non
  | _ => none
def oGet2 : List D → Option D
  | [.dct kvs, x, y] => (keyD x).map fun k => (valD kvs k).getD y
  | _ => none
/-- isinstance: 0 bool, 1 int, 2 text, 3 list, 4 tuple, 5 list or tuple -/
def isiN : Nat → Option String
  | 0 => some "bool" | 1 => some "int" | 2 => some "str" | 3 => some "list" | 4 => some "tuple"
  | _ => none
def isiB (t : Nat) (d : D) : Bool := match t with
  | 0 => (match d with | .bl _ => true | _ => false)
  | 1 => (match d with | .bl _ => true | .int _ => true | _ => false)
  | 2 => (match d with | .str _ => true | _ => false)
  | 3 => (match d with | .lst _ => true | .scr _ => true | _ => false)
  | 4 => (match d with | .tup _ => true | _ => false)
  | _ => false
def isScr : D → Bool
  | .scr _ => true
  | _ => false
def oIsi (t : Nat) : List D → Option D
  | [x] => if isScr x = true then none else if t = 5 then some (.bl (isiB 3 x || isiB 4 x)) else if t < 5 then some (.bl (isiB t x)) else none
  | _ => none

/-- texts of small codes alone -/
def asc (s : String) : Bool := s.toList.all fun c => decide (c.toNat < 128)
def isLo (c : Char) : Bool := decide (97 ≤ c.toNat ∧ c.toNat ≤ 122)
def isUp (c : Char) : Bool := decide (65 ≤ c.toNat ∧ c.toNat ≤ 90)
def upC (c : Char) : Char := if isLo c = true then Char.ofNat (c.toNat - 32) else c
def loC (c : Char) : Char := if isUp c = true then Char.ofNat (c.toNat + 32) else c
def oUpper : List D → Option D
  | [.str s] => if s.length ≤ 5592405 ∧ asc s = true then some (.str (String.ofList (s.toList.map upC))) else none
  | _ => none
def oLower : List D → Option D
  | [.str s] => if s.length ≤ 5592405 ∧ asc s = true then some (.str (String.ofList (s.toList.map loC))) else none
  | _ => none
def oIsup : List D → Option D
  | [.str s] => if asc s = true then some (.bl (s.toList.any isUp && !s.toList.any isLo)) else none
  | _ => none
def oIslo : List D → Option D
  | [.str s] => if asc s = true then some (.bl (s.toList.any isLo && !s.toList.any isUp)) else none
  | _ => none
abbrev KD := Sum Int String
def ofK : KD → D
  | .inl i => .int i
  | .inr s => .str s
/-- the tables of the program -/
def tabOf (n : String) : List (String × KD) :=
  if n = "FORMS" then [("in", .inr "opc"), ("own", .inr "pc"), ("pay", .inr "ppc"), ("buy", .inr "ptc"), ("sell", .inr "tpc"), ("spend", .inr "pc"), ("worth", .inr "tw")]
  else if n = "MOST" then [("p", .inl 8), ("t", .inl 12), ("o", .inl 6)]
  else if n = "ASKED" then [("back", .inr ""), ("again", .inr ""), ("entries", .inr ""), ("hold", .inr "vn"), ("layers", .inr "cvn"), ("brings", .inr "orn"), ("even", .inr "orn")]
  else []
def isTab (n : String) : Bool := n == "FORMS" || n == "MOST" || n == "ASKED"
def lkT : List (String × KD) → String → Option KD
  | [], _ => none
  | p :: r, s => if p.1 = s then some p.2 else lkT r s
def oTab (n : String) : List D → Option D
  | [.str s] => (lkT (tabOf n) s).map ofK
  | _ => none
def oInT (neg : Bool) (n : String) : List D → Option D
  | [.str s] => some (.bl (neg ^^ (lkT (tabOf n) s).isSome))
  | _ => none
/-- a text parted at a sign -/
def splitC (c : Char) : List Char → List (List Char)
  | [] => [[]]
  | x :: r => if x = c then [] :: splitC c r else match splitC c r with
    | [] => [[x]]
    | p :: ps => (x :: p) :: ps
def oSplit : List D → Option D
  | [.str s, .str t] => match t.toList with
    | [c] => if s.length + 2 ≤ big then some (.lst ((splitC c s.toList).map fun p => .str (String.ofList p))) else none
    | _ => none
  | _ => none
def rangeD (a : Int) : Nat → List D
  | 0 => []
  | n + 1 => .int a :: rangeD (a + 1) n
/-- list(range(n)) -/
def oLrg : List D → Option D
  | [.int n] => if -4611686018427387904 ≤ n ∧ n ≤ 16777216 then some (.lst (rangeD 0 n.toNat)) else none
  | _ => none
def opD : OpK → List D → Option D
  | .add => oAdd | .sub => oSub | .mul => oMul | .fdv => oFdv | .mod => oMod | .pow => oPow | .neg => oNeg
  | .lt => oCmp fun i j => decide (i < j) | .le => oCmp fun i j => decide (i ≤ j) | .gt => oCmp fun i j => decide (j < i) | .ge => oCmp fun i j => decide (j ≤ i)
  | .eq => oEq false | .ne => oEq true | .isN => oIsN false | .noN => oIsN true | .inn => oIn false | .nin => oIn true
  | .len => oLen | .all1 => oAll | .any1 => oAny | .sum1 => oSum | .mn1 => oMn1 | .mx1 => oMx1 | .mn2 => oMn2 | .mx2 => oMx2
  | .lst1 => oLst | .tup1 => oTup | .int1 => oInt | .dct1 => oDct
  | .idx => oIdx | .srev => oRev
  | .join => oJoin | .get1 => oGet1 | .get2 => oGet2
  | .isi t => oIsi t
  | .tab n => oTab n
  | .lrg => oLrg | .inT n => oInT false n | .ninT n => oInT true n | .str1 => oStr | .split => oSplit
  | .upper => oUpper | .lower => oLower | .isupper => oIsup | .islower => oIslo
  | _ => fun _ => none

/-- the result, where it is a box, is a new one -/
def mk : OpK → Bool
  | .add | .lst1 | .dct1 | .srev | .srt | .split | .lrg => true
  | _ => false

/-- the receiver of a method -/
def tyD : OpK → D → Bool
  | .join, .str _ => true
  | .get1, .dct _ => true
  | .get2, .dct _ => true
  | .upper, .str _ => true | .lower, .str _ => true | .isupper, .str _ => true | .islower, .str _ => true | .split, .str _ => true
  | _, _ => false

inductive Tg where
  | n (i : Nat)
  | nil
  | cons (a b : Tg)
inductive ItK where
  | pl | rg1 | rg2 | rg3 | en | zp
  deriving DecidableEq, Repr
inductive MK where
  | app | pop | pop1 | ext | clr | ins | put | dpop
  deriving DecidableEq, Repr

def seqD : D → Option (List D)
  | .lst xs => some xs
  | .tup xs => some xs
  | .str s => some (s.toList.map fun c => .str (String.ofList [c]))
  | _ => none
def zipD : List D → List D → List D
  | x :: xs, y :: ys => .tup [x, y] :: zipD xs ys
  | _, _ => []
def enumD : Nat → List D → List D
  | _, [] => []
  | n, x :: xs => .tup [.int n, x] :: enumD (n + 1) xs
def itD : ItK → List D → Option (List D)
  | .pl, [x] => seqD x
  | .rg1, [.int n] => if -4611686018427387904 ≤ n ∧ n < 4611686018427387904 then some (rangeD 0 n.toNat) else none
  | .rg2, [.int a, .int b] => if -4611686018427387904 ≤ a ∧ a < 4611686018427387904 ∧ -4611686018427387904 ≤ b ∧ b < 4611686018427387904 then some (rangeD a (b - a).toNat) else none
  | .en, [.lst xs] => some (enumD 0 xs)
  | .zp, [x, y] => match seqD x, seqD y with
    | some xs, some ys => some (zipD xs ys)
    | _, _ => none
  | _, _ => none

mutual
def tgSet : Tg → D → Env → Option Env
  | .n i, d, e => if i < e.length then some (e.set i (some (.d d))) else none
  | .cons a b, .tup xs, e => tgSets (.cons a b) xs e
  | _, _, _ => none
def tgSets : Tg → List D → Env → Option Env
  | .nil, [], e => some e
  | .cons a b, x :: xs, e => match tgSet a x e with
    | some e' => tgSets b xs e'
    | none => none
  | _, _, _ => none
end

def forget : List Nat → Env → Env
  | [], e => e
  | i :: r, e => forget r (e.set i none)
def tgSlots : Tg → List Nat
  | .n i => [i]
  | .nil => []
  | .cons a b => tgSlots a ++ tgSlots b

inductive I where
  | var (i : Nat) | mv (i : Nat) | fv (i : Nat)
  | k (c : D)
  | g (x : String)
  | op (f : OpK) (es : I)
  | mop (f : OpK) (o : I) (es : I)
  | slc (x lo hi : I)
  | ch (f h : OpK) (a b c : I)
  | and_ (es : I) | or_ (es : I) | not_ (a : I) | ite (c a b : I)
  | lst (es : I) | tup (es : I) | dic (es : I)
  | lc (elt : I) (tg : Tg) (k : ItK) (es : I) (ifs : I)
  | call (d : Nat) (es : I)
  | mut (m : MK) (i : Nat) (es : I)
  | nil | cons (a b : I)
inductive S where
  | ex (e : I) | set (tg : Tg) (e : I) | par (i j : Nat) (a b : I)
  | aug (i : Nat) (f : OpK) (e : I)
  | sput (i : Nat) (ix e : I) | dput (i : Nat) (ix e : I) | bad | saug (i : Nat) (ix : I) (f : OpK) (e : I)
  | iff (c : I) (a b : S) | for_ (tg : Tg) (k : ItK) (es : I) (body : S) (fg : List Nat) | whl (c : I) (body : S) (fg : List Nat)
  | ret (e : I) | retN | brk | cnt | pass | seq (a b : S)

/-- no call, nothing changed -/
def quiet : I → Bool
  | .var _ => true | .k _ => true | .g _ => true | .nil => true
  | .mv _ => false | .fv _ => false | .call _ _ => false | .mut _ _ _ => false
  | .op _ es => quiet es
  | .mop _ o es => quiet o && quiet es
  | .slc x lo hi => quiet x && quiet lo && quiet hi
  | .ch _ _ a b c => quiet a && quiet b && quiet c
  | .and_ es => quiet es
  | .or_ es => quiet es
  | .not_ a => quiet a
  | .ite c a b => quiet c && quiet a && quiet b
  | .lst es => quiet es | .tup es => quiet es | .dic es => quiet es
  | .lc elt _ _ es ifs => quiet elt && quiet es && quiet ifs
  | .cons a b => quiet a && quiet b
/-- its value may be somebody's box -/
def lentE : I → Bool
  | .var _ => true
  | .mv _ => true
  | .fv _ => true
  | .ite _ _ _ => true
  | _ => false

/-- some none: left out -/
def qLp (f : D → Option (Option D)) : List D → Option (List D)
  | [] => some []
  | x :: xs => match f x with
    | none => none
    | some none => qLp f xs
    | some (some y) => match qLp f xs with
      | some ys => some (y :: ys)
      | none => none
def pairD : List D → Option (List (D × D))
  | [] => some []
  | a :: b :: r => match keyD a, pairD r with
    | some _, some ps => some ((a, b) :: ps)
    | _, _ => none
  | _ => none

/-- an error: its class, its fields -/
structure Ex where
  c : Nat
  fs : List (String × D)
/-- how a call ends: with its parameters' boxes as they are then -/
inductive Out where
  | ret (o : O) (ts : List O)
  | exc (x : Ex) (ts : List O)
structure Gs where
  call : Nat → List O → Option Out
  glob : String → Option D

section
variable (G : Gs)
mutual
/-- c: nobody's box is wanted -/
def q (c : Bool) : I → Env → Option D
  | .var i, e => match e[i]? with
    | some (some o) => if c = true then (match o with
      | .d x => some x
      | _ => none) else some o.toD
    | _ => none
  | .k x, _ => some x
  | .g x, _ => G.glob x
  | .op f es, e => match qs es e with
    | some ds => opD f ds
    | none => none
  | .mop f o es, e => match q false o e, qs es e with
    | some d, some ds => if tyD f d = true then opD f (d :: ds) else none
    | _, _ => none
  | .slc x lo hi, e => match q false x e, qI lo e, qI hi e with
    | some d, some i, some j => oSl i j d
    | _, _, _ => none
  | .ch f h x y z, e => match q false x e, q false y e, q false z e with
    | some x, some y, some z => match opD f [x, y] with
      | some (.bl true) => opD h [y, z]
      | some (.bl false) => some (.bl false)
      | _ => none
    | _, _, _ => none
  | .and_ es, e => qAnd es e
  | .or_ es, e => qOr es e
  | .not_ a, e => match q false a e with
    | some (.bl b) => some (.bl (!b))
    | _ => none
  | .ite t a b, e => match q false t e with
    | some (.bl true) => q c a e
    | some (.bl false) => q c b e
    | _ => none
  | .lst es, e => match qcs es e with
    | some ds => if ds.length ≤ big then some (.lst ds) else none
    | none => none
  | .tup es, e => match qcs es e with
    | some ds => if ds.length ≤ big then some (.tup ds) else none
    | none => none
  | .dic es, e => match qcs es e with
    | some ds => match pairD ds with
      | some ps => if ps.length ≤ 15 ∧ (ps.map fun p => keyD p.1).Nodup then some (.dct ps) else none
      | none => none
    | none => none
  | .lc elt tg k es ifs, e => match qs es e with
    | some ds => match itD k ds with
      | some xs => if xs.length ≤ big then (match qLp (fun x => match tgSet tg x (forget (tgSlots tg) e) with
          | some e' => match qTs ifs e' with
            | some true => match q true elt e' with
              | some y => some (some y)
              | none => none
            | some false => some none
            | none => none
          | none => none) xs with
        | some ys => some (.lst ys)
        | none => none) else none
      | none => none
    | none => none
  | _, _ => none
def qAnd : I → Env → Option D
  | .cons a r, e => match r with
    | .nil => match q false a e with
      | some (.bl b) => some (.bl b)
      | _ => none
    | _ => match q false a e with
      | some (.bl true) => qAnd r e
      | some (.bl false) => some (.bl false)
      | _ => none
  | _, _ => none
def qOr : I → Env → Option D
  | .cons a r, e => match r with
    | .nil => match q false a e with
      | some (.bl b) => some (.bl b)
      | _ => none
    | _ => match q false a e with
      | some (.bl true) => some (.bl true)
      | some (.bl false) => qOr r e
      | _ => none
  | _, _ => none
/-- a part of a slice: a number, or left out -/
def qI : I → Env → Option (Option Int)
  | .nil, _ => some none
  | .cons a _, e => match q false a e with
    | some (.int i) => some (some i)
    | _ => none
  | _, _ => none
/-- operands -/
def qs : I → Env → Option (List D)
  | .nil, _ => some []
  | .cons a r, e => match q false a e, qs r e with
    | some d, some ds => some (d :: ds)
    | _, _ => none
  | _, _ => none
/-- .. nobody's box -/
def qcs : I → Env → Option (List D)
  | .nil, _ => some []
  | .cons a r, e => match q true a e, qcs r e with
    | some d, some ds => some (d :: ds)
    | _, _ => none
  | _, _ => none
def qTs : I → Env → Option Bool
  | .nil, _ => some true
  | .cons a _, e => match q false a e with
    | some (.bl b) => some b
    | _ => none
  | _, _ => none
end
end
end Vm

set_option Elab.async false
set_option linter.all false
set_option maxRecDepth 100000
/-! V3: the little machine: calls, changes, statements. -/
namespace Vm
open PySem PySem.Spec PyProof.Rows L2

inductive Rs (α : Type) where
  | ok (a : α) (e : Env)
  | ex (x : Ex) (e : Env)
  | st
inductive Fl where
  | nx (e : Env) | rt (o : O) (e : Env) | bk (e : Env) | ct (e : Env) | ex (x : Ex) (e : Env) | st
def Rs.bind {α β : Type} : Rs α → (α → Env → Rs β) → Rs β
  | .ok a e, f => f a e
  | .ex x e, _ => .ex x e
  | .st, _ => .st
def Rs.bnd {α : Type} : Rs α → (α → Env → Fl) → Fl
  | .ok a e, f => f a e
  | .ex x e, _ => .ex x e
  | .st, _ => .st
/-- no exception here -/
def Rs.nox {α : Type} : Rs α → Rs α
  | .ex _ _ => .st
  | r => r
def Rs.opt {α : Type} (e : Env) : Option α → Rs α
  | some a => .ok a e
  | none => .st

/-- an argument: a slot that is lent, or a value of its own -/
inductive Ar where
  | sl (i : Nat)
  | tm (o : O)
def arO (e : Env) : Ar → Option O
  | .sl i => match e[i]? with
    | some (some o) => some o
    | _ => none
  | .tm o => some o
def arOs (e : Env) : List Ar → Option (List O)
  | [] => some []
  | a :: r => match arO e a, arOs e r with
    | some o, some os => some (o :: os)
    | _, _ => none
def arIx : List Ar → List Nat
  | [] => []
  | .sl i :: r => i :: arIx r
  | .tm _ :: r => arIx r
def isD : O → Bool
  | .d _ => true
  | _ => false
/-- no box is lent twice -/
def arOk (e : Env) (as : List Ar) : Bool := decide (arIx as).Nodup || (arIx as).all fun i => match e[i]? with
  | some (some o) => isD o
  | _ => false
/-- what was lent comes back -/
def back : List Ar → List O → Env → Option Env
  | [], [], e => some e
  | .sl i :: r, t :: ts, e => back r ts (e.set i (some t))
  | .tm _ :: r, _ :: ts, e => back r ts e
  | _, _, _ => none

def mutD : MK → O → List D → Option (D × O)
  | .app, .lst xs, [x] => if xs.length < big then some (.non, .lst (xs ++ [x])) else none
  | .pop, .lst xs, [] => match xs.getLast? with
    | some x => some (x, .lst xs.dropLast)
    | none => none
  | .clr, .lst xs, [] => some (.non, .lst [])
  | .ext, .lst xs, [.lst ys] => if xs.length + ys.length ≤ big then some (.non, .lst (xs ++ ys)) else none
  | _, _, _ => none
def mutRule : MK → Bool
  | .app => true | .pop => true | .clr => true | .ext => true | _ => false
def putD (kvs : List (D × D)) (x : D) (k : DK) (v : D) : List (D × D) :=
  if (kvs.any fun p => decide (keyD p.1 = some k)) = true then kvs.map (fun p => if keyD p.1 = some k then (p.1, v) else p) else kvs ++ [(x, v)]
def ixD (n : Nat) (i : Int) : Option Nat := if 0 ≤ i then (if i < n then some i.toNat else none) else if -(n : Int) ≤ i then some (i + n).toNat else none
/-- o[ix] = v -/
def setD : O → D → D → Option O
  | .lst xs, .int i, v => (ixD xs.length i).map fun j => .lst (xs.set j v)
  | .dct kvs, x, v => match keyD x with
    | some k => if kvs.length < big then some (.dct (putD kvs x k v)) else none
    | none => none
  | _, _, _ => none

def lcLp (f : D → Env → Rs (Option D)) : List D → Env → Rs (List D)
  | [], e => .ok [] e
  | x :: xs, e => (f x e).bind fun y e1 => (lcLp f xs e1).bind fun ys e2 => .ok (match y with | some y => y :: ys | none => ys) e2
def forI (f : D → Env → Fl) : List D → Env → Fl
  | [], e => .nx e
  | x :: xs, e => match f x e with
    | .nx e' => forI f xs e'
    | .ct e' => forI f xs e'
    | .bk e' => .nx e'
    | r => r
def Fl.forget (fg : List Nat) : Fl → Fl
  | .nx e => .nx (Vm.forget fg e)
  | .ct e => .ct (Vm.forget fg e)
  | .bk e => .bk (Vm.forget fg e)
  | r => r
/-- while: n turns at most -/
def whlN (c : Env → Rs Bool) (b : Env → Fl) : Nat → Env → Fl
  | 0, _ => .st
  | n + 1, e => (c e).bnd fun t e1 => if t = true then (match b e1 with
      | .nx e2 => whlN c b n e2
      | .ct e2 => whlN c b n e2
      | .bk e2 => .nx e2
      | r => r) else .nx e1
open Classical in
noncomputable def whl (c : Env → Rs Bool) (b : Env → Fl) (e : Env) : Fl :=
  if h : ∃ n, whlN c b n e ≠ .st then whlN c b (Classical.choose h) e else .st

/-- a truth, a number -/
def tB (o : O) (e : Env) : Rs Bool := match o with
  | .d (.bl b) => .ok b e
  | _ => .st
def tI (o : O) (e : Env) : Rs (Option Int) := match o with
  | .d (.int i) => .ok (some i) e
  | _ => .st
def giv (mkb : Bool) (e : Env) : Option D → Rs O
  | some d => .ok (if mkb = true then ownOf d else .d d) e
  | none => .st
def slot (e : Env) (i : Nat) : Rs O := match e[i]? with
  | some (some o) => .ok o e
  | _ => .st
/-- a key, and a plain constant else -/
def dfl : I → Bool
  | .cons _ (.cons (.k c) .nil) => flat c
  | _ => false
section
variable (G : Gs)
mutual
def evl : I → Env → Rs O
  | .var i, e => (slot e i).bind fun o e => .ok (.d o.toD) (e.set i (some (.d o.toD)))
  | .fv i, e => (slot e i).bind fun o e => .ok (.d o.toD) (e.set i (some (.d o.toD)))
  | .mv i, e => (slot e i).bind fun o e => .ok o (e.set i none)
  | .k c, e => .ok (.d c) e
  | .g x, e => giv false e (G.glob x)
  | .op f es, e => (evL es e).bind fun ds e1 => giv (mk f) e1 (opD f ds)
  | .mop f o es, e => if quiet o = true ∧ lentE o = false ∧ f ≠ .get2 then (match q G false o e with
      | some d0 => if tyD f d0 = true then (evL es e).bind fun ds e1 => giv (mk f) e1 (opD f (d0 :: ds)) else .st
      | none => .st)
    else if quiet o = true ∧ quiet es = true then giv false e (q G false (.mop f o es) e)
    else if f = .get2 ∧ dfl es = true then (match o with
      | .var i => (slot e i).bind fun o0 e => if tyD .get2 o0.toD = true then (evL es e).bind fun ds e1 => (slot e1 i).bind fun o1 e1 => giv false e1 (opD .get2 (o1.toD :: ds)) else .st
      | _ => .st) else .st
  | .slc x lo hi, e => match x with
    | .var i => (slot e i).bind fun _ e => (evI lo e).bind fun l e1 => (evI hi e1).bind fun h e2 => (slot e2 i).bind fun o e2 => giv true e2 (oSl l h o.toD)
    | x => if lentE x = true then .st else (evl x e).bind fun o e0 => (evI lo e0).bind fun l e1 => (evI hi e1).bind fun h e2 => giv true e2 (oSl l h o.toD)
  | .ch f h a b c, e => if quiet a = true ∧ quiet b = true ∧ quiet c = true then giv false e (q G false (.ch f h a b c) e) else .st
  | .and_ es, e => evAnd es e
  | .or_ es, e => evOr es e
  | .not_ a, e => (evl a e).bind fun o e1 => (tB o e1).bind fun t e1 => .ok (.d (.bl (!t))) e1
  | .ite c a b, e => (evl c e).bind fun o e1 => (tB o e1).bind fun t e1 => if t = true then evl a e1 else evl b e1
  | .lst es, e => (evV es e).bind fun ds e1 => if ds.length ≤ big then .ok (.lst ds) e1 else .st
  | .tup es, e => (evV es e).bind fun ds e1 => if ds.length ≤ big then .ok (.d (.tup ds)) e1 else .st
  | .dic es, e => match es with
    | .nil => .ok (.dct []) e
    | es => if quiet es = true then giv false e (q G false (.dic es) e) else .st
  | .lc elt tg k es ifs, e => (evV es e).bind fun ds e1 => match itD k ds with
    | some xs => if xs.length ≤ big then (lcLp (fun x e2 => match tgSet tg x e2 with
        | some e3 => (evTs ifs e3).bind fun t e4 => if t = true then (evl elt e4).bind fun o e5 => .ok (some o.toD) (forget (tgSlots tg) e5) else .ok none (forget (tgSlots tg) e4)
        | none => .st) xs (forget (tgSlots tg) e1)).nox.bind fun ys e2 => .ok (.lst ys) e2 else .st
    | none => .st
  | .call d es, e => (evA es e).bind fun as e1 => if arOk e1 as = true then (match arOs e1 as with
      | some ts => match G.call d ts with
        | some (.ret o ts') => match back as ts' e1 with
          | some e2 => .ok o e2
          | none => .st
        | some (.exc x ts') => match back as ts' e1 with
          | some e2 => .ex x e2
          | none => .st
        | none => .st
      | none => .st) else .st
  | .mut m i es, e => match e[i]? with
    | some (some (.lst _)) => if mutRule m = true then (evV es e).bind fun ds e1 => match e1[i]? with
      | some (some (.lst xs)) => match mutD m (.lst xs) ds with
        | some (r, .lst xs') => .ok (.d r) (e1.set i (some (.lst xs')))
        | _ => .st
      | _ => .st else .st
    | _ => .st
  | _, _ => .st
def evAnd : I → Env → Rs O
  | .cons a r, e => match r with
    | .nil => (evl a e).bind fun o e1 => (tB o e1).bind fun t e1 => .ok (.d (.bl t)) e1
    | _ => (evl a e).bind fun o e1 => (tB o e1).bind fun t e1 => if t = true then evAnd r e1 else .ok (.d (.bl false)) e1
  | _, _ => .st
def evOr : I → Env → Rs O
  | .cons a r, e => match r with
    | .nil => (evl a e).bind fun o e1 => (tB o e1).bind fun t e1 => .ok (.d (.bl t)) e1
    | _ => (evl a e).bind fun o e1 => (tB o e1).bind fun t e1 => if t = true then .ok (.d (.bl true)) e1 else evOr r e1
  | _, _ => .st
/-- a part of a slice -/
def evI : I → Env → Rs (Option Int)
  | .nil, e => .ok none e
  | .cons a r, e => match r with
    | .nil => (evl a e).bind tI
    | _ => .st
  | _, _ => .st
/-- operands: a name's value is looked at behind all of them -/
def evL : I → Env → Rs (List D)
  | .nil, e => .ok [] e
  | .cons a r, e => match a with
    | .var i => (slot e i).bind fun _ e => (evL r e).bind fun ds e1 => (slot e1 i).bind fun o e1 => .ok (o.toD :: ds) e1
    | a => if quiet a = true ∧ lentE a = false then (match q G false a e with
      | some d => (evL r e).bind fun ds e1 => .ok (d :: ds) e1
      | none => .st)
      else (evl a e).bind fun o e1 => (evL r e1).bind fun ds e2 => .ok (o.toD :: ds) e2
  | _, _ => .st
/-- values, frozen -/
def evV : I → Env → Rs (List D)
  | .nil, e => .ok [] e
  | .cons a r, e => (evl a e).bind fun o e1 => (evV r e1).bind fun ds e2 => .ok (o.toD :: ds) e2
  | _, _ => .st
/-- arguments -/
def evA : I → Env → Rs (List Ar)
  | .nil, e => .ok [] e
  | .cons a r, e => match a with
    | .var i => (slot e i).bind fun _ e => (evA r e).bind fun as e1 => .ok (.sl i :: as) e1
    | a => (evl a e).bind fun o e1 => (evA r e1).bind fun as e2 => .ok (.tm o :: as) e2
  | _, _ => .st
def evTs : I → Env → Rs Bool
  | .nil, e => .ok true e
  | .cons a r, e => match r with
    | .nil => (evl a e).bind tB
    | _ => .st
  | _, _ => .st
end
/-- a test -/
def evT (a : I) (e : Env) : Rs Bool := (evl G a e).bind tB

noncomputable def exe : S → Env → Fl
  | .ex x, e => (evl G x e).bnd fun _ e1 => .nx e1
  | .set tg x, e => (evl G x e).bnd fun o e1 => match tg with
    | .n i => if i < e1.length then .nx (e1.set i (some o)) else .st
    | _ => match tgSet tg o.toD e1 with
      | some e2 => .nx e2
      | none => .st
  | .par i j a b, e => (evV G (.cons a (.cons b .nil)) e).bnd fun ds e1 => match ds with
    | [x, y] => if i < e1.length ∧ j < e1.length ∧ i ≠ j then .nx ((e1.set i (some (.d x))).set j (some (.d y))) else .st
    | _ => .st
  | .aug i f x, e => match e[i]? with
    | some (some (.d (.int n))) => (evl G x e).bnd fun o e1 => match opD f [.int n, o.toD] with
      | some (.int m) => .nx (e1.set i (some (.d (.int m))))
      | _ => .st
    | _ => .st
  | .sput i ix x, e => (evl G x e).bnd fun o e1 => match e1[i]? with
    | some (some (.lst _)) => (evl G ix e1).bnd fun oi e2 => match e2[i]?, oi with
      | some (some (.lst xs)), .d (.int n) => match ixD xs.length n with
        | some j => .nx (e2.set i (some (.lst (xs.set j o.toD))))
        | none => .st
      | _, _ => .st
    | _ => .st
  | .dput i ix x, e => (evl G x e).bnd fun o e1 => match e1[i]? with
    | some (some (.dct _)) => (evl G ix e1).bnd fun oi e2 => match e2[i]?, oi with
      | some (some (.dct kvs)), .d k => match keyD k with
        | some kk => if kvs.length < big then .nx (e2.set i (some (.dct (putD kvs k kk o.toD)))) else .st
        | none => .st
      | _, _ => .st
    | _ => .st
  | .bad, _ => .st
  | .saug i ix f x, e => match e[i]? with
    | some (some (.lst xs0)) => (match q G false ix e with
      | some (.int n) => (match at? xs0 n with
        | some (.int v) => (evl G x e).bnd fun o e1 => match opD f [.int v, o.toD], e1[i]? with
          | some (.int m), some (some (.lst xs)) => match ixD xs.length n with
            | some j => .nx (e1.set i (some (.lst (xs.set j (.int m)))))
            | none => .st
          | _, _ => .st
        | _ => .st)
      | _ => .st)
    | _ => .st
  | .iff c a b, e => (evT G c e).bnd fun t e1 => if t = true then exe a e1 else exe b e1
  | .for_ tg k es body fg, e => (evV G es e).bnd fun ds e1 => match itD k ds with
    | some xs => forI (fun x e2 => match tgSet tg x e2 with
        | some e3 => (exe body e3).forget fg
        | none => .st) xs (forget fg e1)
    | none => .st
  | .whl c body fg, e => whl (evT G c) (fun e1 => (exe body e1).forget fg) (forget fg e)
  | .ret x, e => (evl G x e).bnd fun o e1 => .rt o e1
  | .retN, e => .rt (.d .non) e
  | .brk, e => .bk e
  | .cnt, e => .ct e
  | .pass, e => .nx e
  | .seq a b, e => match exe a e with
    | .nx e1 => exe b e1
    | r => r
end

structure Df where
  np : Nat
  nv : Nat
  rb : List Nat
  body : S
/-- the parameters' boxes at the end; of those that are stored anew, as they came -/
def outs (rb : List Nat) : Nat → List O → Env → Option (List O)
  | _, [], _ => some []
  | j, t :: ts, e => match e with
    | [] => none
    | x :: r => match outs rb (j + 1) ts r with
      | some os => if rb.contains j = true then some (t :: os) else (match x with
        | some o => some (o :: os)
        | none => none)
      | none => none
def rbOk (rb : List Nat) : Nat → List O → Bool
  | _, [] => true
  | j, t :: ts => (!rb.contains j || isD t) && rbOk rb (j + 1) ts
noncomputable def fin (df : Df) (ts : List O) : Fl → Option Out
  | .nx e => (outs df.rb 0 ts e).map (.ret (.d .non))
  | .rt o e => (outs df.rb 0 ts e).map (.ret o)
  | .ex x e => (outs df.rb 0 ts e).map (.exc x)
  | _ => none
/-- a def's answer -/
noncomputable def runD (pg : Nat → Option Df) (G : Gs) (d : Nat) (ts : List O) : Option Out := match pg d with
  | some df => if ts.length = df.np ∧ rbOk df.rb 0 ts = true then
      fin df ts (exe G df.body (ts.map some ++ List.replicate (df.nv - df.np) none)) else none
  | none => none
def scalD : D → Bool
  | .non => true | .bl _ => true | .int _ => true | .str _ => true
  | _ => false
/-- a call that only lends: the answer is no box, what was handed in stays whose it is -/
def lendO (ts : List O) : Option Out → Option Out
  | some (.ret (.d s) _) => if scalD s = true then some (.ret (.d s) ts) else none
  | _ => none
noncomputable def run (glob : String → Option D) (pg : Nat → Option Df) : Nat → Nat → List O → Option Out
  | 0, _, _ => none
  | k + 1, d, ts => if d < 2000 then runD pg ⟨run glob pg k, glob⟩ d ts else lendO ts (runD pg ⟨run glob pg k, glob⟩ (d - 2000) (ts.map fun o => .d o.toD))
theorem run_lt {glob : String → Option D} {pg : Nat → Option Df} {k d : Nat} (h : d < 2000) : run glob pg (k + 1) d = runD pg ⟨run glob pg k, glob⟩ d := by
  funext ts
  unfold run
  rw [if_pos h]
theorem run_ge {glob : String → Option D} {pg : Nat → Option Df} {k d : Nat} (h : ¬ d < 2000) : run glob pg (k + 1) d = fun ts => lendO ts (runD pg ⟨run glob pg k, glob⟩ (d - 2000) (ts.map fun o => .d o.toD)) := by
  funext ts
  unfold run
  rw [if_neg h]
end Vm

set_option Elab.async false
set_option linter.all false
set_option maxRecDepth 100000
/-! V4: the operators' rules. -/
namespace Vm
open PySem PySem.Spec PyProof.Rows L2

theorem PE.mono {X : Cx} {e : Expr} {t t' : TE} (h : PE X e t) (m : ∀ σ H Q, t' σ H Q → t σ H Q) : PE X e t' := ⟨fun pins s σ H Q I q => h.run pins s σ H Q I (m σ H Q q)⟩
theorem PT.mono {X : Cx} {e : Expr} {t t' : TT} (h : PT X e t) (m : ∀ σ H Q, t' σ H Q → t σ H Q) : PT X e t' := ⟨fun pins s σ H Q I q => h.run pins s σ H Q I (m σ H Q q)⟩
theorem PA.mono {X : Cx} {e : List Expr} {t t' : TA} (h : PA X e t) (m : ∀ σ H Q, t' σ H Q → t σ H Q) : PA X e t' := ⟨fun pos pins s σ H Q I q => h.run pos pins s σ H Q I (m σ H Q q)⟩
theorem PS.mono {X : Cx} {e : Stmt} {t t' : TS} (h : PS X e t) (m : ∀ σ H Q, t' Q σ H → t Q σ H) : PS X e t' := ⟨fun pins s σ H Q I q => h.run pins s σ H Q I (m σ H Q q)⟩
theorem PSs.mono {X : Cx} {e : List Stmt} {t t' : TS} (h : PSs X e t) (m : ∀ σ H Q, t' Q σ H → t Q σ H) : PSs X e t' := ⟨fun pins s σ H Q I q => h.run pins s σ H Q I (m σ H Q q)⟩
theorem OpR.imp {X : Cx} {f : Value → Value → Sem Value} {r r' : R2} (h : OpR X f r) (m : ∀ x y H Q, r' x y H Q → r x y H Q) : OpR X f r' := fun pins s σ H x y v u Q I rx ry q => h pins s σ H x y v u Q I rx ry (m _ _ _ _ q)
theorem IxR.imp {X : Cx} {r r' : R2} (h : IxR X r) (m : ∀ x y H Q, r' x y H Q → r x y H Q) : IxR X r' := fun a b pins s σ H x y v u Q I rx ry q hs => h a b pins s σ H x y v u Q I rx ry (m _ _ _ _ q) hs
theorem CallR.imp {X : Cx} {f : Value} {r r' : List V → Hp → VK → Prop} (h : CallR X f r) (m : ∀ x H Q, r' x H Q → r x H Q) : CallR X f r' := fun pins s σ H x u Q I rx q => h pins s σ H x u Q I rx (m _ _ _ q)
theorem MtR.imp {X : Cx} {f : String} {r r' : V → List V → Hp → VK → Prop} (h : MtR X f r) (m : ∀ x y H Q, r' x y H Q → r x y H Q) : MtR X f r' := fun pins s σ H x y v u Q I rx ry q => h pins s σ H x y v u Q I rx ry (m _ _ _ _ q)
theorem SlR.imp {X : Cx} {r r' : V → Option Int → Option Int → Hp → VK → Prop} (h : SlR X r) (m : ∀ x a b H Q, r' x a b H Q → r x a b H Q) : SlR X r' :=
  fun pins s σ H x v vl vu lo hi sl Q I rx hs pl pu q => h pins s σ H x v vl vu lo hi sl Q I rx hs pl pu (m _ _ _ _ _ q)

/-- a reading that may be weakened -/
def up (t : TE) : TE := fun σ H Q => ∃ G : VK, t σ H G ∧ ∀ x H', G x H' → Q x H'
theorem PE.up {X : Cx} {e : Expr} {t : TE} (h : PE X e t) : PE X e (up t) := ⟨fun pins s σ H Q I ⟨G, q, w⟩ => thn (h.run pins s σ H G I q) fun v s1 ⟨x, H1, I1, r1, q1⟩ => ⟨x, H1, I1, r1, w x H1 q1⟩⟩
theorem up_of {t : TE} {σ : L2.St} {H : Hp} {Q G : VK} (h : t σ H G) (w : ∀ x H', G x H' → Q x H') : up t σ H Q := ⟨G, h, w⟩

/-- an expression that may stand anywhere -/
def plainH : Expr → Bool
  | .Starred _ _ => false
  | .Slice _ _ _ _ => false
  | .Set _ _ _ => false
  | .NamedExpr _ _ _ => false
  | _ => true
theorem star_cons {e : Expr} (h : plainH e = true) (es : List Expr) (env : PySem.Env) : starEach (e :: es) env = (false, eval e env) :: starEach es env := by
  cases e <;> first | rfl | cases h
theorem star_nil (env : PySem.Env) : starEach [] env = [] := rfl
theorem star1 {e : Expr} (h : plainH e = true) (env : PySem.Env) : starEach [e] env = [(false, eval e env)] := star_cons h [] env
theorem star2 {e f : Expr} (h : plainH e = true) (g : plainH f = true) (env : PySem.Env) : starEach [e, f] env = [(false, eval e env), (false, eval f env)] := by rw [star_cons h, star1 g]
theorem mark_of {b : Expr} (h : plainH b = true) (op : CmpOp) : behindInMarks op b = false := by
  cases b <;> first | rfl | cases h
theorem ix_of {b : Expr} (h : plainH b = true) : PlainIx b := by
  cases b <;> first | exact fun _ _ => rfl | cases h
theorem base_of {o : Expr} (m : Str) (env : PySem.Env) (h : ∀ x p q, o ≠ .Call (.Name x p) [] [] q) : attributeBase o m env (eval o env) = eval o env := by
  unfold attributeBase
  split
  · rename_i x p q
    exact absurd rfl (h _ _ _)
  · rfl

section
variable {K : PySem.W.Frag} {H H' H1 H2 : Hp} {Z Z' : Addr → Prop}
theorem RV.still {x : D} {v : V} (h : RV K H Z x v) (k : Still H Z H' Z') (s : ∀ b o, v = .ref b → H b = some o → Mut (some o) → H' b = some o) (s2 : ∀ b o u, v = .ref b → H b = some (.frz o u) → H' b = some (.frz o u)) : RV K H' Z' x v := by
  cases x with
  | lst xs => obtain ⟨a, vs, e, q, r⟩ := h; exact ⟨a, vs, e, s a _ e q trivial, RDs.still k r⟩
  | dct kvs =>
    obtain ⟨a, vs, e, q, r⟩ := h
    refine ⟨a, vs, e, ?_, RKs.still k r⟩
    rcases q with q | ⟨o, q⟩
    · exact .inl (s a _ e q trivial)
    · exact .inr ⟨o, s2 a _ _ e q⟩
  | non => exact RD.still k h
  | bl _ => exact RD.still k h
  | int _ => exact RD.still k h
  | str _ => exact RD.still k h
  | tup _ => exact RD.still k h
  | scr _ => exact RD.still k h
theorem RV.grow {x : D} {v : V} (h : RV K H Z x v) (g : Grow H Z H' Z') : RV K H' Z' x v := h.still g.still (fun b o _ q _ => g.same b o q) fun b o u _ q => g.same b _ q
theorem RV.wider {x : D} {v : V} (h : RV K H Z x v) (g : ∀ b, Z b → Z' b) : RV K H Z' x v := h.still (Still.of_z g) (fun _ _ _ q _ => q) fun _ _ _ _ q => q
end

/-- operands as they are looked at -/
def RVs (K : PySem.W.Frag) (H : Hp) (Z : Addr → Prop) : List D → List V → Prop
  | [], vs => vs = []
  | d :: ds, vs => ∃ v r, vs = v :: r ∧ RV K H Z d v ∧ RVs K H Z ds r
/-- what an operator leaves -/
structure OPost (K : PySem.W.Frag) (H : Hp) (Z : Addr → Prop) (f : OpK) (d : D) (v : V) (H' : Hp) : Prop where
  same : Same H H'
  res : (RD K H' Z d v ∧ (mk f = true → isBox d = false)) ∨ (isBox d = true ∧ ∃ p, H p = none ∧ RO K H' Z (ownOf d) v (fun b => b = p))
def rOp (K : PySem.W.Frag) (f : OpK) (vs : List V) (H : Hp) (Q : VK) : Prop := ∃ Z ds d, RVs K H Z ds vs ∧ opD f ds = some d ∧ ∀ v H', OPost K H Z f d v H' → Q v H'

section
variable {K : PySem.W.Frag} {H H' : Hp} {Z : Addr → Prop} {f : OpK}
theorem RVs.one {ds : List D} {x : V} (h : RVs K H Z ds [x]) : ∃ a, ds = [a] ∧ RV K H Z a x := by
  match ds, h with
  | [], h => cases (show [x] = [] from h)
  | [a], h =>
    obtain ⟨v, r, e, h1, h2⟩ := h
    injection e with e1 e2
    subst e1
    exact ⟨a, rfl, h1⟩
  | a :: b :: r, h =>
    obtain ⟨v, r', e, h1, h2⟩ := h
    injection e with e1 e2
    obtain ⟨w, r2, e3, _⟩ := h2
    rw [e3] at e2
    cases e2
theorem RVs.two {ds : List D} {x y : V} (h : RVs K H Z ds [x, y]) : ∃ a b, ds = [a, b] ∧ RV K H Z a x ∧ RV K H Z b y := by
  match ds, h with
  | [], h => cases (show [x, y] = [] from h)
  | a :: r, h =>
    obtain ⟨v, r', e, h1, h2⟩ := h
    injection e with e1 e2
    subst e1 e2
    obtain ⟨b, e3, h3⟩ := RVs.one h2
    exact ⟨a, b, by rw [e3], h1, h3⟩
theorem RVs.three {ds : List D} {x y z : V} (h : RVs K H Z ds [x, y, z]) : ∃ a b c, ds = [a, b, c] ∧ RV K H Z a x ∧ RV K H Z b y ∧ RV K H Z c z := by
  match ds, h with
  | [], h => cases (show [x, y, z] = [] from h)
  | a :: r, h =>
    obtain ⟨v, r', e, h1, h2⟩ := h
    injection e with e1 e2
    subst e1 e2
    obtain ⟨b, c, e3, h3, h4⟩ := RVs.two h2
    exact ⟨a, b, c, by rw [e3], h1, h3, h4⟩
theorem rd_int {i : Int} {v : V} : RD K H Z (.int i) v ↔ v = .int i := by unfold RD; exact Iff.rfl
theorem rd_bl {i : Bool} {v : V} : RD K H Z (.bl i) v ↔ v = .bl i := by unfold RD; exact Iff.rfl
theorem rd_str {i : String} {v : V} : RD K H Z (.str i) v ↔ v = .str (Str.ofString i) := by unfold RD; exact Iff.rfl
theorem rd_non {v : V} : RD K H Z .non v ↔ v = .non := by unfold RD; exact Iff.rfl
theorem rd_tup {xs : List D} {v : V} : RD K H Z (.tup xs) v ↔ ∃ a vs, v = .ref a ∧ SqT K H a vs ∧ RDs K H Z xs vs := by
  constructor
  · intro h; unfold RD at h; exact h
  · intro h; unfold RD; exact h
theorem rd_lst {xs : List D} {v : V} : RD K H Z (.lst xs) v ↔ ∃ a vs, v = .ref a ∧ H a = some (.lst vs) ∧ Z a ∧ RDs K H Z xs vs := by
  constructor
  · intro h; unfold RD at h; exact h
  · intro h; unfold RD; exact h
theorem rd_dct {xs : List (D × D)} {v : V} : RD K H Z (.dct xs) v ↔ ∃ a vs, v = .ref a ∧ Rd H a (.dK vs) ∧ Z a ∧ RKs K H Z xs vs := by
  constructor
  · intro h; unfold RD at h; exact h
  · intro h; unfold RD; exact h
theorem rd_scr {xs : List Int} {v : V} : RD K H Z (.scr xs) v ↔ ∃ a, v = .ref a ∧ SqF K H a (xs.map V.int) := by unfold RD; exact Iff.rfl
theorem rv_int {i : Int} {v : V} : RV K H Z (.int i) v ↔ v = .int i := rd_int (K := K) (H := H) (Z := Z)
theorem rv_bl {i : Bool} {v : V} : RV K H Z (.bl i) v ↔ v = .bl i := rd_bl (K := K) (H := H) (Z := Z)
theorem rv_str {i : String} {v : V} : RV K H Z (.str i) v ↔ v = .str (Str.ofString i) := rd_str (K := K) (H := H) (Z := Z)
theorem rv_non {v : V} : RV K H Z .non v ↔ v = .non := rd_non (K := K) (H := H) (Z := Z)
theorem rv_tup {xs : List D} {v : V} : RV K H Z (.tup xs) v ↔ ∃ a vs, v = .ref a ∧ SqT K H a vs ∧ RDs K H Z xs vs := rd_tup (K := K) (H := H) (Z := Z)
theorem rv_scr {xs : List Int} {v : V} : RV K H Z (.scr xs) v ↔ ∃ a, v = .ref a ∧ SqF K H a (xs.map V.int) := rd_scr (K := K) (H := H) (Z := Z)
theorem rv_lst {xs : List D} {v : V} : RV K H Z (.lst xs) v ↔ ∃ a vs, v = .ref a ∧ H a = some (.lst vs) ∧ RDs K H Z xs vs := Iff.rfl
theorem rv_dct {xs : List (D × D)} {v : V} : RV K H Z (.dct xs) v ↔ ∃ a vs, v = .ref a ∧ Rd H a (.dK vs) ∧ RKs K H Z xs vs := Iff.rfl
theorem post_int {n : Int} : OPost K H Z f (.int n) (.int n) H := ⟨Same.refl H, .inl ⟨rd_int.mpr rfl, fun _ => rfl⟩⟩
theorem post_bl {n : Bool} : OPost K H Z f (.bl n) (.bl n) H := ⟨Same.refl H, .inl ⟨rd_bl.mpr rfl, fun _ => rfl⟩⟩
theorem post_str {n : String} : OPost K H Z f (.str n) (.str (Str.ofString n)) H := ⟨Same.refl H, .inl ⟨rd_str.mpr rfl, fun _ => rfl⟩⟩
theorem same_new {p : Addr} {o : HO} (hp : H p = none) : Same H (upd H p o) := fun b u e => by rw [upd_ne (ne_of_none e hp)]; exact e
theorem still_new {p : Addr} {o : HO} (hp : H p = none) : Still H Z (upd H p o) Z := ⟨fun b u e _ => same_new hp b u e, fun b u e _ => same_new hp b u e, fun _ z => z⟩
theorem post_lst {p : Addr} {xs : List D} {vs : List V} (hp : H p = none) (r : RDs K H Z xs vs) : OPost K H Z f (.lst xs) (.ref p) (upd H p (.lst vs)) :=
  ⟨same_new hp, .inr ⟨rfl, p, hp, p, vs, rfl, upd_same, RDs.still (still_new hp) r, fun _ => Iff.rfl⟩⟩
theorem post_dct {p : Addr} {xs : List (D × D)} {vs : List (Key × V)} (hp : H p = none) (r : RKs K H Z xs vs) : OPost K H Z f (.dct xs) (.ref p) (upd H p (.dK vs)) :=
  ⟨same_new hp, .inr ⟨rfl, p, hp, p, vs, rfl, upd_same, RKs.still (still_new hp) r, fun _ => Iff.rfl⟩⟩
theorem post_tup {p : Addr} {xs : List D} {vs : List V} (hp : H p = none) (r : RDs K H Z xs vs) : OPost K H Z f (.tup xs) (.ref p) (upd H p (.tup vs)) :=
  ⟨same_new hp, .inl ⟨rd_tup.mpr ⟨p, vs, rfl, SqT.of upd_same, RDs.still (still_new hp) r⟩, fun _ => rfl⟩⟩
theorem post_rd {d : D} {v : V} (h : RD K H Z d v) (n : mk f = false) : OPost K H Z f d v H := ⟨Same.refl H, .inl ⟨h, fun m => by rw [n] at m; cases m⟩⟩
theorem RKs.nil_iff {vs : List (Key × V)} : RKs K H Z [] vs ↔ vs = [] := by unfold RKs; exact Iff.rfl
theorem RKs.cons_iff {p : D × D} {ds : List (D × D)} {ks : List (Key × V)} : RKs K H Z (p :: ds) ks ↔ ∃ k' v r', ks = (toK k', v) :: r' ∧ keyD p.1 = some k' ∧ RD K H Z p.2 v ∧ RKs K H Z ds r' := by
  constructor
  · intro h; unfold RKs at h; exact h
  · intro h; unfold RKs; exact h
theorem RKs.length : ∀ {ds : List (D × D)} {ks : List (Key × V)}, RKs K H Z ds ks → ds.length = ks.length
  | [], ks, h => by rw [RKs.nil_iff.mp h]; rfl
  | d :: ds, ks, h => by
    obtain ⟨k, v, r, e, _, _, b⟩ := RKs.cons_iff.mp h
    rw [e, List.length_cons, List.length_cons, RKs.length b]
theorem RKs.val : ∀ {ds : List (D × D)} {ks : List (Key × V)}, RKs K H Z ds ks → ∀ k : DK,
    (valD ds k = none ∧ valV ks (toK k) = none) ∨ ∃ d v, valD ds k = some d ∧ valV ks (toK k) = some v ∧ RD K H Z d v
  | [], ks, h, k => by rw [RKs.nil_iff.mp h]; exact .inl ⟨rfl, rfl⟩
  | p :: ds, ks, h, k => by
    obtain ⟨k', v, r, e, hk, a, b⟩ := RKs.cons_iff.mp h
    subst e
    unfold valD
    rw [hk]
    by_cases c : k' = k
    · subst c
      rw [if_pos rfl, valV_pos rfl]
      exact .inr ⟨_, _, rfl, rfl, a⟩
    · rw [if_neg (fun z => c (Option.some.inj z)), valV_neg (fun z => c (toK_inj z))]
      exact RKs.val b k
theorem key_v {x : D} {k : DK} {v : V} (h : keyD x = some k) (r : RV K H Z x v) : v = kV (toK k) := by
  cases x <;> first | cases h | skip
  · exact rv_int.mp r
  · exact rv_str.mp r
end

/-! ### what the rules ask -/
section
variable {X : Cx} {ta tb tc : TE} {a b c : Expr} {pos : Pos}
def bnames : List String := ["len", "all", "any", "sum", "min", "max", "list", "tuple", "dict", "int", "str", "isinstance", "range", "enumerate", "zip", "sorted", "set", "bool"]
/-- no such key in a written dict -/
def TMiss (K : PySem.W.Frag) (w : World) (p : Addr) (x : Str) : Prop := ∃ es n, K.lookup p = some ⟨.type "dict", none, .dict es n, #[]⟩ ∧ PySem.W.KeysLit w.params es.toList ∧ (p == sysModules) = false ∧ PySem.W.nsIn K p x = some none
def KeysAre : List DictEntry → List String → Prop
  | [], [] => True
  | e :: r, k :: ks => (∃ t, e.key = .str (Str.ofString k) t) ∧ KeysAre r ks
  | _, _ => False
theorem ns_miss {K : PySem.W.Frag} {p : Addr} {es : Array DictEntry} {n : Nat} {s : String} {ks : List String} (hl : K.lookup p = some ⟨.type "dict", none, .dict es n, #[]⟩) (hk : KeysAre es.toList ks) (hs : s ∉ ks) : PySem.W.nsIn K p (Str.ofString s) = some none := by
  have key : ∀ (l : List DictEntry) (ks : List String), KeysAre l ks → s ∉ ks → l.find? (·.key.isStr (Str.ofString s)) = none ∧ l.any (·.refKey) = false := by
    intro l
    induction l with
    | nil => intro ks _ _; exact ⟨rfl, rfl⟩
    | cons e r ih =>
      intro ks h hs
      cases ks with
      | nil => exact h.elim
      | cons k ks =>
        obtain ⟨⟨t, ht⟩, hr⟩ := h
        simp only [List.mem_cons, not_or] at hs
        obtain ⟨h1, h2⟩ := ih ks hr hs.2
        have hne : e.key.isStr (Str.ofString s) = false := by
          rw [ht]
          have : ¬ Str.ofString k = Str.ofString s := fun z => hs.1 (str_inj z).symm
          simpa [Value.isStr] using this
        have hrk : e.refKey = false := by unfold DictEntry.refKey; rw [ht]
        exact ⟨by rw [List.find?_cons, hne]; exact h1, by rw [List.any_cons, hrk, h2]; rfl⟩
  obtain ⟨h1, h2⟩ := key es.toList ks hk hs
  unfold PySem.W.nsIn
  rw [hl]
  dsimp only
  rw [h1, h2]
  rfl
structure CxOk (X : Cx) (sc : Scope) (N : List Str) (glob : String → Option D) : Prop where
  hN : X.N = N
  nd : N.Nodup
  sc : X.env.scope = sc
  calm : X.calm = true
  hu : X.A.units + 64 < cLine
  bn : ∀ x ∈ bnames, X.mg (Str.ofString x) = none
  gl : ∀ x d, glob x = some d → ∃ u v, X.mg (Str.ofString x) = some u ∧ RelV v u ∧ ∀ H Z, RD X.K H Z d v
  tb : ∀ n, isTab n = true → N.contains (Str.ofString n) = true → ∃ p, X.mg (Str.ofString n) = some (.ref p) ∧ (∀ s k, lkT (tabOf n) s = some k → KDct X.K X.w p (Str.ofString s) (kV (toK k))) ∧ ∀ s, lkT (tabOf n) s = none → TMiss X.K X.w p (Str.ofString s)

theorem len_ofString (s : String) : (Str.ofString s).length = s.length := PySem.ofString_length s
theorem str_app (a b : String) : Str.ofString a ++ Str.ofString b = Str.ofString (a ++ b) := by
  rw [Str.ofString_eq_toList, Str.ofString_eq_toList, Str.ofString_eq_toList, String.toList_append, List.map_append]
  show Str.mk (_ ++ _) = _
  simp
theorem big_line : big = sizeLine := by rw [sizeLine_eq]; rfl

theorem r_add : OpR X (binaryOp .Add) (fun x y H Q => rOp X.K .add [x, y] H Q) := by
  refine OpR.imp (op_add.or (op_add_str.or (op_cat.or op_catT))) fun x y H Q h => ?_
  obtain ⟨Z, ds, d, r, e, k⟩ := h
  obtain ⟨p, q, rfl, rp, rq⟩ := RVs.two r
  change oAdd [p, q] = some d at e
  unfold oAdd at e
  split at e
  · rename_i i j e1
    injection e1 with e1 e2; injection e2 with e2 _; subst e1 e2
    cases e
    rw [rv_int.mp rp, rv_int.mp rq]
    exact .inl ⟨_, _, rfl, rfl, k _ _ post_int⟩
  · rename_i i j e1
    injection e1 with e1 e2; injection e2 with e2 _; subst e1 e2
    split at e
    · rename_i hl
      cases e
      rw [rv_str.mp rp, rv_str.mp rq]
      refine .inr (.inl ⟨_, _, rfl, rfl, by rw [len_ofString, len_ofString, ← big_line]; exact hl, ?_⟩)
      rw [str_app]
      exact k _ _ post_str
    · cases e
  · rename_i i j e1
    injection e1 with e1 e2; injection e2 with e2 _; subst e1 e2
    split at e
    · rename_i hl
      cases e
      obtain ⟨a, vs, ea, ha, ra⟩ := rp
      obtain ⟨b, ws, eb, hb, rb⟩ := rq
      refine .inr (.inr (.inl ⟨a, b, vs, ws, ea, eb, ha, hb, by rw [← ra.length, ← rb.length, ← big_line]; exact hl, fun p hp => k _ _ (post_lst hp (ra.app rb))⟩))
    · cases e
  · rename_i i j e1
    injection e1 with e1 e2; injection e2 with e2 _; subst e1 e2
    split at e
    · rename_i hl
      cases e
      obtain ⟨a, vs, ea, ha, ra⟩ := rv_tup.mp rp
      obtain ⟨b, ws, eb, hb, rb⟩ := rv_tup.mp rq
      refine .inr (.inr (.inr ⟨a, b, vs, ws, ea, eb, ha, hb, fun z => hl.2 ?_, by rw [← ra.length, ← rb.length, ← big_line]; exact hl.1, fun z => ?_, fun _ p hp => k _ _ (post_tup hp (ra.app rb))⟩))
      · have := ra.length
        rw [z] at this
        exact List.length_eq_zero_iff.mp this
      · have := rb.length
        rw [z] at this
        have e0 := List.length_eq_zero_iff.mp this
        rw [e0, List.append_nil] at k
        rw [ea] at rp
        exact k _ _ ⟨Same.refl H, .inl ⟨rp.toRD rfl, fun _ => rfl⟩⟩
    · cases e
  · cases e
theorem r_int2 {g : Int → Int → Int} {C : Int → Int → Prop} {f : OpK} {o : Value → Value → Sem Value} {F : List D → Option D} (ho : OpR X o (rI C fun i j => .int (g i j))) (hf : opD f = F)
    (hF : ∀ p q d, F [p, q] = some d → ∃ i j, p = .int i ∧ q = .int j ∧ C i j ∧ d = .int (g i j)) : OpR X o (fun x y H Q => rOp X.K f [x, y] H Q) := by
  refine OpR.imp ho fun x y H Q h => ?_
  obtain ⟨Z, ds, d, r, e, k⟩ := h
  obtain ⟨p, q, rfl, rp, rq⟩ := RVs.two r
  rw [hf] at e
  obtain ⟨i, j, rfl, rfl, c, rfl⟩ := hF p q d e
  exact ⟨i, j, rv_int.mp rp, rv_int.mp rq, c, k _ _ post_int⟩
theorem log_lt {n : Nat} (h : n < 18446744073709551616) : n.log2 < 64 := by
  by_cases h0 : n = 0
  · subst h0; decide
  · exact (Nat.log2_lt h0).mpr h
theorem mulOk_ok {i j : Int} (h : mulOk i j) : IntMulOk i j := by
  rcases h with h | h | h
  · refine CMul.ok (.inl ⟨?_, ?_⟩) <;> omega
  · refine CMul.ok (.inr ⟨?_, ?_⟩) <;> omega
  · exact CMulW.ok h
theorem op_mulV : OpR X (binaryOp .Mult) (rI mulOk fun i j => .int (i * j)) := opI fun _ _ _ _ _ _ _ hc q => mul_int q (mulOk_ok hc)
theorem r_sub : OpR X (binaryOp .Sub) (fun x y H Q => rOp X.K .sub [x, y] H Q) := by
  refine OpR.imp op_sub fun x y H Q h => ?_
  obtain ⟨Z, ds, d, r, e, k⟩ := h
  obtain ⟨p, q, rfl, rp, rq⟩ := RVs.two r
  change oSub [p, q] = some d at e
  unfold oSub at e
  split at e
  · rename_i i j e1
    injection e1 with e1 e2; injection e2 with e2 _; subst e1 e2
    cases e
    exact ⟨_, _, rv_int.mp rp, rv_int.mp rq, k _ _ post_int⟩
  · cases e
theorem r_mul : OpR X (binaryOp .Mult) (fun x y H Q => rOp X.K .mul [x, y] H Q) := r_int2 (F := oMul) op_mulV rfl fun p q d e => by
  unfold oMul at e
  split at e
  · rename_i i j e1
    injection e1 with e1 e2; injection e2 with e2 _; subst e1 e2
    split at e
    · cases e; exact ⟨_, _, rfl, rfl, by assumption, rfl⟩
    · cases e
  · cases e
theorem r_fdv : OpR X (binaryOp .FloorDiv) (fun x y H Q => rOp X.K .fdv [x, y] H Q) := r_int2 (F := oFdv) op_fdivW rfl fun p q d e => by
  unfold oFdv at e
  split at e
  · rename_i i j e1
    injection e1 with e1 e2; injection e2 with e2 _; subst e1 e2
    split at e
    · cases e; exact ⟨_, _, rfl, rfl, by assumption, rfl⟩
    · cases e
  · cases e
theorem r_mod : OpR X (binaryOp .Mod) (fun x y H Q => rOp X.K .mod [x, y] H Q) := r_int2 (F := oMod) op_mod rfl fun p q d e => by
  unfold oMod at e
  split at e
  · rename_i i j e1
    injection e1 with e1 e2; injection e2 with e2 _; subst e1 e2
    split at e
    · cases e; exact ⟨_, _, rfl, rfl, by assumption, rfl⟩
    · cases e
  · cases e
theorem r_pow : OpR X (binaryOp .Pow) (fun x y H Q => rOp X.K .pow [x, y] H Q) := r_int2 (F := oPow) (C := CPow) op_pow rfl fun p q d e => by
  unfold oPow at e
  split at e
  · rename_i i j e1
    injection e1 with e1 e2; injection e2 with e2 _; subst e1 e2
    split at e
    · rename_i hc
      cases e; exact ⟨_, _, rfl, rfl, ⟨hc.1, hc.2.1, by have := hc.2.2; omega⟩, rfl⟩
    · cases e
  · cases e
theorem r_neg : UnR X (unaryOp .USub) (fun x H Q => rOp X.K .neg [x] H Q) := fun pins s σ H x v Q I rx h => by
  refine un_neg pins s σ H x v Q I rx ?_
  obtain ⟨Z, ds, d, r, e, k⟩ := h
  obtain ⟨p, rfl, rp⟩ := RVs.one r
  change oNeg [p] = some d at e
  unfold oNeg at e
  split at e
  · rename_i i e1
    injection e1 with e1 _; subst e1
    cases e
    exact ⟨_, rv_int.mp rp, k _ _ post_int⟩
  · cases e
theorem r_cmp {f : OpK} {o : CmpOp} {g : Int → Int → Bool} (ho : OpR X (compareOp o) (rI0 fun i j => .bl (g i j))) (hf : opD f = oCmp g) : OpR X (compareOp o) (fun x y H Q => rOp X.K f [x, y] H Q) := by
  refine OpR.imp ho fun x y H Q h => ?_
  obtain ⟨Z, ds, d, r, e, k⟩ := h
  obtain ⟨p, q, rfl, rp, rq⟩ := RVs.two r
  rw [hf] at e
  unfold oCmp at e
  split at e
  · rename_i i j e1
    injection e1 with e1 e2; injection e2 with e2 _; subst e1 e2
    cases e
    exact ⟨_, _, rv_int.mp rp, rv_int.mp rq, k _ _ post_bl⟩
  · cases e
end
end Vm

set_option Elab.async false
set_option linter.all false
set_option maxRecDepth 100000
/-! V5: more operators' rules. -/
namespace Vm
open PySem PySem.Spec PyProof.Rows L2

mutual
def py : D → PyData
  | .non => .none
  | .bl b => .bool b
  | .int i => .int i
  | .str s => .str (Str.ofString s)
  | .tup xs => .tuple (pys xs)
  | .lst xs => .list (pys xs)
  | .dct _ => .none
  | .scr _ => .none
def pys : List D → List PyData
  | [] => []
  | x :: xs => py x :: pys xs
end
theorem beq_ofString (a b : String) : (Str.ofString a == Str.ofString b) = (a == b) := by
  rw [Bool.eq_iff_iff, beq_iff_eq, beq_iff_eq, str_eq_iff]
mutual
theorem eqv_py : ∀ (n m : Nat) (a b : D), shal n a = true → shal m b = true → PyData.eqv (py a) (py b) = eqD a b
  | n, m, .non, b, ha, hb => by cases b <;> first | (unfold shal at hb; exact absurd hb (by decide)) | (simp only [py, eqD, PyData.eqv])
  | n, m, .bl x, b, ha, hb => by cases b <;> first | (unfold shal at hb; exact absurd hb (by decide)) | (simp only [py, eqD, PyData.eqv])
  | n, m, .int x, b, ha, hb => by cases b <;> first | (unfold shal at hb; exact absurd hb (by decide)) | (simp only [py, eqD, PyData.eqv])
  | n, m, .str x, b, ha, hb => by cases b <;> first | (unfold shal at hb; exact absurd hb (by decide)) | (simp only [py, eqD, PyData.eqv, beq_ofString])
  | n, m, .dct x, b, ha, hb => by simp [shal] at ha
  | n, m, .scr x, b, ha, hb => by simp [shal] at ha
  | n, m, .tup xs, b, ha, hb => by
    cases n with
    | zero => simp [shal] at ha
    | succ n =>
      simp only [shal] at ha
      cases b with
      | tup ys =>
        cases m with
        | zero => simp [shal] at hb
        | succ m =>
          simp only [shal] at hb
          simp only [py, eqD, PyData.eqv]
          exact eqvs_py n m xs ys ha hb
      | _ => first | (unfold shal at hb; exact absurd hb (by decide)) | (simp only [py, eqD, PyData.eqv])
  | n, m, .lst xs, b, ha, hb => by
    cases n with
    | zero => simp [shal] at ha
    | succ n =>
      simp only [shal] at ha
      cases b with
      | lst ys =>
        cases m with
        | zero => simp [shal] at hb
        | succ m =>
          simp only [shal] at hb
          simp only [py, eqD, PyData.eqv]
          exact eqvs_py n m xs ys ha hb
      | _ => first | (unfold shal at hb; exact absurd hb (by decide)) | (simp only [py, eqD, PyData.eqv])
theorem eqvs_py : ∀ (n m : Nat) (a b : List D), shals n a = true → shals m b = true → PyData.eqvAll (pys a) (pys b) = eqDs a b
  | n, m, [], [], _, _ => by simp only [pys, eqDs, PyData.eqvAll]
  | n, m, [], _ :: _, _, _ => by simp only [pys, eqDs, PyData.eqvAll]
  | n, m, _ :: _, [], _, _ => by simp only [pys, eqDs, PyData.eqvAll]
  | n, m, x :: xs, y :: ys, ha, hb => by
    unfold shals at ha hb
    rw [Bool.and_eq_true] at ha hb
    simp only [pys, eqDs, PyData.eqvAll]
    rw [eqv_py n m x y ha.1 hb.1, eqvs_py n m xs ys ha.2 hb.2]
end
theorem strOk_of (s : String) : PyData.strOk (Str.ofString s) = true := by
  unfold PyData.strOk
  rw [Str.ofString_eq_toList]
  simp only [List.all_toArray, List.all_map, List.all_eq_true, Function.comp_apply, decide_eq_true_eq]
  intro c _
  have h := c.valid
  have : c.toNat = c.val.toNat := rfl
  rw [this]
  rcases h with h | ⟨_, h⟩
  · exact Nat.lt_trans h (by decide)
  · exact h
mutual
theorem canLay_py : ∀ (n : Nat) (a : D), shal n a = true → (py a).canLay0 = true ∧ (py a).depth ≤ n
  | n, .non, _ => by simp [py, PyData.canLay0, PyData.depth]
  | n, .bl _, _ => by simp [py, PyData.canLay0, PyData.depth]
  | n, .int _, _ => by simp [py, PyData.canLay0, PyData.depth]
  | n, .str s, _ => by simp [py, PyData.canLay0, PyData.depth, strOk_of]
  | n, .dct x, ha => by simp [shal] at ha
  | n, .scr x, ha => by simp [shal] at ha
  | n, .tup xs, ha => by
    cases n with
    | zero => simp [shal] at ha
    | succ n =>
      simp only [shal] at ha
      have h := canLays_py n xs ha
      simp only [py, PyData.canLay0, PyData.depth]
      exact ⟨h.1, by omega⟩
  | n, .lst xs, ha => by
    cases n with
    | zero => simp [shal] at ha
    | succ n =>
      simp only [shal] at ha
      have h := canLays_py n xs ha
      simp only [py, PyData.canLay0, PyData.depth]
      exact ⟨h.1, by omega⟩
theorem canLays_py : ∀ (n : Nat) (a : List D), shals n a = true → PyData.canLayAll0 (pys a) = true ∧ PyData.depthAll (pys a) ≤ n
  | n, [], _ => by simp [pys, PyData.canLayAll0, PyData.depthAll]
  | n, x :: xs, ha => by
    unfold shals at ha
    rw [Bool.and_eq_true] at ha
    have h1 := canLay_py n x ha.1
    have h2 := canLays_py n xs ha.2
    simp only [pys, PyData.canLayAll0, PyData.depthAll, h1.1, h2.1]
    exact ⟨rfl, by omega⟩
end
theorem shaped_py {a : D} (h : shal 60 a = true) : SeqAt.shaped (py a) = true := by
  have := canLay_py 60 a h
  unfold SeqAt.shaped
  rw [this.1, Bool.true_and, decide_eq_true_eq]
  omega
section
variable {K : PySem.W.Frag} {H H' : Hp} {Z : Addr → Prop} {f : OpK}
mutual
theorem dp_of : ∀ (n : Nat) (a : D) (v : V), shal n a = true → RD K H Z a v → Dp K H v (py a)
  | n, .non, v, _, r => by rw [rd_non.mp r]; simp only [py]; exact Dp.non
  | n, .bl b, v, _, r => by rw [rd_bl.mp r]; simp only [py]; exact Dp.bl b
  | n, .int b, v, _, r => by rw [rd_int.mp r]; simp only [py]; exact Dp.int b
  | n, .str b, v, _, r => by rw [rd_str.mp r]; simp only [py]; exact Dp.str _
  | n, .dct x, v, ha, _ => by simp [shal] at ha
  | n, .scr x, v, ha, _ => by simp [shal] at ha
  | n, .tup xs, v, ha, r => by
    cases n with
    | zero => simp [shal] at ha
    | succ n =>
      simp only [shal] at ha
      obtain ⟨a, vs, rfl, h1, h2⟩ := rd_tup.mp r
      simp only [py]
      exact Dp.tup h1 (dps_of n xs vs ha h2)
  | n, .lst xs, v, ha, r => by
    cases n with
    | zero => simp [shal] at ha
    | succ n =>
      simp only [shal] at ha
      obtain ⟨a, vs, rfl, h1, _, h2⟩ := rd_lst.mp r
      simp only [py]
      exact Dp.lst (SqL.of h1) (dps_of n xs vs ha h2)
theorem dps_of : ∀ (n : Nat) (a : List D) (v : List V), shals n a = true → RDs K H Z a v → DpAll K H v (pys a)
  | n, [], v, _, r => by rw [RDs.nil_iff.mp r]; simp only [pys]; exact DpAll.nil
  | n, x :: xs, v, ha, r => by
    unfold shals at ha
    rw [Bool.and_eq_true] at ha
    obtain ⟨w, ws, rfl, h1, h2⟩ := RDs.cons_iff.mp r
    simp only [pys]
    exact DpAll.cons (dp_of n x w ha.1 h1) (dps_of n xs ws ha.2 h2)
end
theorem dp_rv {a : D} {v : V} (h : shal 60 a = true) (r : RV K H Z a v) : Dp K H v (py a) := by
  by_cases hb : isBox a = true
  · cases a <;> first | cases hb | skip
    · simp only [shal] at h
      obtain ⟨a, vs, rfl, h1, h2⟩ := r
      simp only [py]
      exact Dp.lst (SqL.of h1) (dps_of _ _ vs h h2)
    · simp [shal] at h
  · exact dp_of 60 a v h (r.toRD (by simpa using hb))
end
section
variable {X : Cx} {pos : Pos}
theorem r_eqn {neg : Bool} {o : CmpOp} {f : OpK} (ho : OpR X (compareOp o) (fun x y H Q => ∃ d e, Dp X.K H x d ∧ Dp X.K H y e ∧ SeqAt.shaped d = true ∧ SeqAt.shaped e = true ∧ Q (.bl (neg ^^ PyData.eqv d e)) H)) (hf : opD f = oEq neg) :
    OpR X (compareOp o) (fun x y H Q => rOp X.K f [x, y] H Q) := by
  refine OpR.imp ho fun x y H Q h => ?_
  obtain ⟨Z, ds, d, r, e, k⟩ := h
  obtain ⟨p, q, rfl, rp, rq⟩ := RVs.two r
  rw [hf] at e
  simp only [oEq] at e
  split at e
  · rename_i hs
    cases e
    refine ⟨_, _, dp_rv hs.1 rp, dp_rv hs.2 rq, shaped_py hs.1, shaped_py hs.2, ?_⟩
    rw [eqv_py 60 60 _ _ hs.1 hs.2]
    exact k _ _ post_bl
  · cases e
theorem r_eq (hu : X.A.units + 64 < cLine) : OpR X (compareOp .Eq) (fun x y H Q => rOp X.K .eq [x, y] H Q) :=
  r_eqn (neg := false) (OpR.imp (op_eqD hu) fun x y H Q ⟨d, e, h1, h2, h3, h4, q⟩ => ⟨d, e, h1, h2, h3, h4, by rw [Bool.false_xor] at q; exact q⟩) rfl
theorem r_ne (hu : X.A.units + 64 < cLine) : OpR X (compareOp .NotEq) (fun x y H Q => rOp X.K .ne [x, y] H Q) :=
  r_eqn (neg := true) (OpR.imp (op_neD hu) fun x y H Q ⟨d, e, h1, h2, h3, h4, q⟩ => ⟨d, e, h1, h2, h3, h4, by rw [Bool.true_xor] at q; exact q⟩) rfl
def nonD : D → Bool
  | .non => true
  | _ => false
theorem isN_iff {K : PySem.W.Frag} {H : Hp} {Z : Addr → Prop} {p : D} {x : V} (r : RV K H Z p x) : decide (x = .non) = nonD p := by
  cases p with
  | non => rw [rv_non.mp r]; rfl
  | bl _ => rw [rv_bl.mp r]; rfl
  | int _ => rw [rv_int.mp r]; rfl
  | str _ => rw [rv_str.mp r]; rfl
  | tup _ => obtain ⟨a, vs, rfl, _⟩ := rv_tup.mp r; rfl
  | lst _ => obtain ⟨a, vs, rfl, _⟩ := rv_lst.mp r; rfl
  | dct _ => obtain ⟨a, vs, rfl, _⟩ := rv_dct.mp r; rfl
  | scr _ => obtain ⟨a, rfl, _⟩ := rv_scr.mp r; rfl
theorem r_isN : OpR X (compareOp .Is) (fun x y H Q => y = .non ∧ rOp X.K .isN [x] H Q) := by
  refine OpR.imp op_isN fun x y H Q h => ?_
  obtain ⟨ey, Z, ds, d, r, e, k⟩ := h
  obtain ⟨p, rfl, rp⟩ := RVs.one r
  change oIsN false [p] = some d at e
  refine ⟨ey, ?_⟩
  rw [isN_iff rp]
  cases p <;> (cases e; exact k _ _ post_bl)
theorem r_noN : OpR X (compareOp .IsNot) (fun x y H Q => y = .non ∧ rOp X.K .noN [x] H Q) := by
  refine OpR.imp op_notN fun x y H Q h => ?_
  obtain ⟨ey, Z, ds, d, r, e, k⟩ := h
  obtain ⟨p, rfl, rp⟩ := RVs.one r
  change oIsN true [p] = some d at e
  refine ⟨ey, ?_⟩
  rw [isN_iff rp]
  cases p <;> (cases e; exact k _ _ post_bl)

/-! ### in -/
theorem rds_flat {K : PySem.W.Frag} {H : Hp} {Z : Addr → Prop} {p : D} {x : V} (hf : flat p = true) (r : RD K H Z p x) : flatV x = true := by
  cases p <;> first | cases hf | skip
  · rw [rd_non.mp r]; rfl
  · rw [rd_bl.mp r]; rfl
  · rw [rd_int.mp r]; rfl
  · rw [rd_str.mp r]; rfl
theorem flat_rd {K : PySem.W.Frag} {H : Hp} {Z : Addr → Prop} {p : D} {x : V} (hf : flat p = true) (r : RV K H Z p x) : RD K H Z p x := r.toRD (by cases p <;> first | rfl | cases hf)
theorem eqV_eqD {K : PySem.W.Frag} {H : Hp} {Z : Addr → Prop} {p q : D} {x y : V} (hp : flat p = true) (hq : flat q = true) (r : RD K H Z p x) (r' : RD K H Z q y) : eqV x y = eqD p q := by
  cases p <;> first | cases hp | skip
  all_goals (cases q <;> first | cases hq | skip)
  all_goals first
    | (rw [rd_non.mp r]; first | (rw [rd_non.mp r']; rfl) | (rw [rd_bl.mp r']; rfl) | (rw [rd_int.mp r']; rfl) | (rw [rd_str.mp r']; rfl))
    | (rw [rd_bl.mp r]; first | (rw [rd_non.mp r']; rfl) | (rw [rd_bl.mp r']; rfl) | (rw [rd_int.mp r']; simp only [eqV, eqD]; done) | (rw [rd_int.mp r']; rfl) | (rw [rd_str.mp r']; rfl))
    | (rw [rd_int.mp r]; first | (rw [rd_non.mp r']; rfl) | (rw [rd_bl.mp r']; rfl) | (rw [rd_int.mp r']; rfl) | (rw [rd_str.mp r']; rfl))
    | (rw [rd_str.mp r]; first | (rw [rd_non.mp r']; rfl) | (rw [rd_bl.mp r']; rfl) | (rw [rd_int.mp r']; rfl) | (rw [rd_str.mp r']; simp only [eqV, eqD, beq_ofString]))
theorem all_flat {K : PySem.W.Frag} {H : Hp} {Z : Addr → Prop} : ∀ {ys : List D} {vs : List V}, ys.all flat = true → RDs K H Z ys vs → vs.all flatV = true
  | [], vs, _, r => by rw [RDs.nil_iff.mp r]; rfl
  | y :: ys, vs, h, r => by
    obtain ⟨w, ws, rfl, h1, h2⟩ := RDs.cons_iff.mp r
    rw [List.all_cons, Bool.and_eq_true] at h ⊢
    exact ⟨rds_flat h.1 h1, all_flat h.2 h2⟩
theorem inV_inL {K : PySem.W.Frag} {H : Hp} {Z : Addr → Prop} {p : D} {x : V} (hp : flat p = true) (r : RD K H Z p x) : ∀ {ys : List D} {vs : List V}, ys.all flat = true → RDs K H Z ys vs → inV x vs = inL p ys
  | [], vs, _, q => by rw [RDs.nil_iff.mp q]; rfl
  | y :: ys, vs, h, q => by
    obtain ⟨w, ws, rfl, h1, h2⟩ := RDs.cons_iff.mp q
    rw [List.all_cons, Bool.and_eq_true] at h
    have ih := inV_inL hp r h.2 h2
    unfold inV at ih ⊢
    unfold inL
    rw [List.any_cons, ih, eqV_eqD h.1 hp h1 r]
theorem mem_chars {c : Char} {s : List Char} : c.toNat ∈ s.map Char.toNat ↔ c ∈ s := by
  constructor
  · intro h
    obtain ⟨d, hd, e⟩ := List.mem_map.mp h
    rw [← nat_inj e]
    exact hd
  · intro h
    exact List.mem_map.mpr ⟨c, h, rfl⟩
theorem one_sign {a : String} {c : Char} (h : a.toList = [c]) : Str.ofString a = ⟨#[c.toNat]⟩ := by
  rw [Str.ofString_eq_toList, h]
  rfl
theorem dec_mem (c : Char) (b : String) : decide (c.toNat ∈ (Str.ofString b).cps.toList) = decide (c ∈ b.toList) := by
  rw [str_cps]
  exact decide_eq_decide.mpr mem_chars
theorem op_dIn (hu : X.A.units + 64 < cLine) : OpR X (compareOp .In) (fun y x H Q => ∃ a o, x = .ref a ∧ DGet H a y o ∧ Q (.bl o.isSome) H) := by
  intro pins s σ H x y v u Q I rx ry h
  obtain ⟨a, o, rfl, g, q⟩ := h
  obtain rfl : u = Value.ref a := ry
  exact d_in (by omega) I g rx fun s' I' => ⟨.bl _, H, I', rfl, q⟩
theorem op_dNotIn (hu : X.A.units + 64 < cLine) : OpR X (compareOp .NotIn) (fun y x H Q => ∃ a o, x = .ref a ∧ DGet H a y o ∧ Q (.bl (!o.isSome)) H) := by
  intro pins s σ H x y v u Q I rx ry h
  obtain ⟨a, o, rfl, g, q⟩ := h
  obtain rfl : u = Value.ref a := ry
  exact d_notIn (by omega) I g rx fun s' I' => ⟨.bl _, H, I', rfl, q⟩
theorem op_notIn_sign : OpR X (compareOp .NotIn) (fun x y H Q => ∃ (c : Nat) (z : Str), x = .str ⟨#[c]⟩ ∧ y = .str z ∧ Q (.bl (!decide (c ∈ z.cps.toList))) H) := by
  refine OpR.imp op_notIn_str fun x y H Q ⟨c, z, h1, h2, q⟩ => ⟨_, _, h1, h2, ?_⟩
  rw [show (!(Builtin.Str.occurrences z ⟨#[c]⟩ 0 z.length 1).isEmpty) = decide (c ∈ z.cps.toList) from PySem.StrLaws.found_one z c]
  exact q
theorem RKs.get {K : PySem.W.Frag} {H : Hp} {Z : Addr → Prop} {kvs : List (D × D)} {ks : List (Key × V)} (r : RKs K H Z kvs ks) (k : DK) : (valD kvs k).isSome = (valV ks (toK k)).isSome := by
  rcases r.val k with ⟨a, b⟩ | ⟨d, v, a, b, _⟩
  · rw [a, b]; rfl
  · rw [a, b]; rfl
theorem r_inG {neg : Bool} {o : CmpOp} {f : OpK} (hf : opD f = oIn neg)
    (ho : OpR X (compareOp o) (fun x y H Q => (∃ (c : Nat) (z : Str), x = .str ⟨#[c]⟩ ∧ y = .str z ∧ Q (.bl (neg ^^ decide (c ∈ z.cps.toList))) H) ∨
      (∃ p xs, y = .ref p ∧ (SqL X.K H p xs ∨ SqT X.K H p xs) ∧ flatV x = true ∧ xs.all flatV = true ∧ Q (.bl (neg ^^ inV x xs)) H) ∨ ∃ a o, y = .ref a ∧ DGet H a x o ∧ Q (.bl (neg ^^ o.isSome)) H)) :
    OpR X (compareOp o) (fun x y H Q => rOp X.K f [x, y] H Q) := by
  refine OpR.imp ho fun x y H Q h => ?_
  obtain ⟨Z, ds, d, r, e, k⟩ := h
  obtain ⟨p, q, rfl, rp, rq⟩ := RVs.two r
  rw [hf] at e
  simp only [oIn] at e
  cases q with
  | str b =>
    cases p with
    | str a =>
      simp only [inD] at e
      split at e
      · rename_i c hc
        cases e
        refine .inl ⟨c.toNat, _, by rw [rv_str.mp rp, one_sign hc], rv_str.mp rq, ?_⟩
        rw [dec_mem]
        exact k _ _ post_bl
      · cases e
    | _ => simp [inD] at e
  | lst ys =>
    simp only [inD] at e
    split at e
    · rename_i hs
      cases e
      obtain ⟨a, vs, ea, h1, h2⟩ := rv_lst.mp rq
      have rp' := flat_rd hs.1 rp
      refine .inr (.inl ⟨a, vs, ea, .inl (SqL.of h1), rds_flat hs.1 rp', all_flat hs.2 h2, ?_⟩)
      rw [inV_inL hs.1 rp' hs.2 h2]
      exact k _ _ post_bl
    · cases e
  | tup ys =>
    simp only [inD] at e
    split at e
    · rename_i hs
      cases e
      obtain ⟨a, vs, ea, h1, h2⟩ := rv_tup.mp rq
      have rp' := flat_rd hs.1 rp
      refine .inr (.inl ⟨a, vs, ea, .inr h1, rds_flat hs.1 rp', all_flat hs.2 h2, ?_⟩)
      rw [inV_inL hs.1 rp' hs.2 h2]
      exact k _ _ post_bl
    · cases e
  | dct kvs =>
    simp only [inD] at e
    split at e
    · rename_i kk hk
      cases e
      obtain ⟨a, vs, ea, h1, h2⟩ := rv_dct.mp rq
      refine .inr (.inr ⟨a, valV vs (toK kk), ea, .inl ⟨vs, toK kk, h1, key_v hk rp, rfl⟩, ?_⟩)
      rw [← h2.get]
      exact k _ _ post_bl
    · cases e
  | _ => simp [inD] at e
theorem r_inn (hu : X.A.units + 64 < cLine) : OpR X (compareOp .In) (fun x y H Q => rOp X.K .inn [x, y] H Q) := by
  refine r_inG (neg := false) rfl (OpR.imp (op_in_sign.or (op_in_seq.or (op_dIn hu))) fun x y H Q h => ?_)
  rcases h with ⟨c, z, h1, h2, q⟩ | ⟨p, xs, h1, h2, h3, h4, q⟩ | ⟨a, o, h1, h2, q⟩
  · exact .inl ⟨c, z, h1, h2, by rw [Bool.false_xor] at q; exact q⟩
  · exact .inr (.inl ⟨p, xs, h1, h2, h3, h4, by rw [if_neg (by decide)]; rw [Bool.false_xor] at q; exact q⟩)
  · exact .inr (.inr ⟨a, o, h1, h2, by rw [Bool.false_xor] at q; exact q⟩)
theorem r_nin (hu : X.A.units + 64 < cLine) : OpR X (compareOp .NotIn) (fun x y H Q => rOp X.K .nin [x, y] H Q) := by
  refine r_inG (neg := true) rfl (OpR.imp (op_notIn_sign.or (op_notIn_seq.or (op_dNotIn hu))) fun x y H Q h => ?_)
  rcases h with ⟨c, z, h1, h2, q⟩ | ⟨p, xs, h1, h2, h3, h4, q⟩ | ⟨a, o, h1, h2, q⟩
  · exact .inl ⟨c, z, h1, h2, by rw [Bool.true_xor] at q; exact q⟩
  · exact .inr (.inl ⟨p, xs, h1, h2, h3, h4, by rw [if_pos rfl]; rw [Bool.true_xor] at q; exact q⟩)
  · exact .inr (.inr ⟨a, o, h1, h2, by rw [Bool.true_xor] at q; exact q⟩)
end
end Vm

set_option Elab.async false
set_option linter.all false
set_option maxRecDepth 100000
/-! V6: built-in calls, subscripts, methods. -/
namespace Vm
open PySem PySem.Spec PyProof.Rows L2

section
variable {K : PySem.W.Frag} {H H' : Hp} {Z : Addr → Prop} {f : OpK}
theorem RVs.inv1 {a : D} {vs : List V} (h : RVs K H Z [a] vs) : ∃ x, vs = [x] ∧ RV K H Z a x := by
  obtain ⟨v, r, e, h1, h2⟩ := h
  have h2' : r = [] := h2
  exact ⟨v, by rw [e, h2'], h1⟩
theorem RVs.inv2 {a b : D} {vs : List V} (h : RVs K H Z [a, b] vs) : ∃ x y, vs = [x, y] ∧ RV K H Z a x ∧ RV K H Z b y := by
  obtain ⟨v, r, e, h1, h2⟩ := h
  obtain ⟨y, e2, h3⟩ := RVs.inv1 h2
  exact ⟨v, y, by rw [e, e2], h1, h3⟩
theorem bls_v : ∀ {xs : List D} {vs : List V} {bs : List Bool}, bls xs = some bs → RDs K H Z xs vs → vs = bs.map V.bl
  | [], vs, bs, h, r => by cases h; rw [RDs.nil_iff.mp r]; rfl
  | x :: xs, vs, bs, h, r => by
    obtain ⟨w, ws, rfl, h1, h2⟩ := RDs.cons_iff.mp r
    cases x <;> first | (unfold bls at h; cases h; done) | skip
    unfold bls at h
    obtain ⟨cs, e1, e2⟩ := Option.map_eq_some_iff.mp h
    subst e2
    rw [rd_bl.mp h1, bls_v e1 h2]
    rfl
theorem ints_v : ∀ {xs : List D} {vs : List V} {bs : List Int}, intsOf xs = some bs → RDs K H Z xs vs → vs = bs.map V.int
  | [], vs, bs, h, r => by cases h; rw [RDs.nil_iff.mp r]; rfl
  | x :: xs, vs, bs, h, r => by
    obtain ⟨w, ws, rfl, h1, h2⟩ := RDs.cons_iff.mp r
    cases x <;> first | (unfold intsOf at h; cases h; done) | skip
    unfold intsOf at h
    obtain ⟨cs, e1, e2⟩ := Option.map_eq_some_iff.mp h
    subst e2
    rw [rd_int.mp h1, ints_v e1 h2]
    rfl
theorem strs_v : ∀ {xs : List D} {vs : List V} {bs : List String}, strsOf xs = some bs → RDs K H Z xs vs → vs = (bs.map Str.ofString).map V.str
  | [], vs, bs, h, r => by cases h; rw [RDs.nil_iff.mp r]; rfl
  | x :: xs, vs, bs, h, r => by
    obtain ⟨w, ws, rfl, h1, h2⟩ := RDs.cons_iff.mp r
    cases x <;> first | (unfold strsOf at h; cases h; done) | skip
    unfold strsOf at h
    obtain ⟨cs, e1, e2⟩ := Option.map_eq_some_iff.mp h
    subst e2
    rw [rd_str.mp h1, strs_v e1 h2]
    rfl
theorem minL_some : ∀ {ns : List Int}, 0 < ns.length → ∃ m, minL ns = some m ∧ m ∈ ns ∧ ∀ y ∈ ns, m ≤ y
  | [], h => by simp at h
  | [x], _ => ⟨x, rfl, by simp, by simp⟩
  | x :: y :: r, _ => by
    obtain ⟨m, h1, h2, h3⟩ := minL_some (ns := y :: r) (by simp)
    unfold minL
    rw [h1]
    refine ⟨if m < x then m else x, rfl, ?_, ?_⟩
    · split
      · exact List.mem_cons_of_mem _ h2
      · exact List.mem_cons_self
    · intro z hz
      rcases List.mem_cons.mp hz with rfl | hz
      · split <;> omega
      · have := h3 z hz
        split <;> omega
theorem minL_eq {ns : List Int} {m : Int} (h1 : m ∈ ns) (h2 : ∀ y ∈ ns, m ≤ y) : minL ns = some m := by
  obtain ⟨k, a, b, c⟩ := minL_some (ns := ns) (List.length_pos_of_mem h1)
  rw [a]
  have := h2 k b
  have := c m h1
  congr 1
  omega
theorem maxL_some : ∀ {ns : List Int}, 0 < ns.length → ∃ m, maxL ns = some m ∧ m ∈ ns ∧ ∀ y ∈ ns, y ≤ m
  | [], h => by simp at h
  | [x], _ => ⟨x, rfl, by simp, by simp⟩
  | x :: y :: r, _ => by
    obtain ⟨m, h1, h2, h3⟩ := maxL_some (ns := y :: r) (by simp)
    unfold maxL
    rw [h1]
    refine ⟨if x < m then m else x, rfl, ?_, ?_⟩
    · split
      · exact List.mem_cons_of_mem _ h2
      · exact List.mem_cons_self
    · intro z hz
      rcases List.mem_cons.mp hz with rfl | hz
      · split <;> omega
      · have := h3 z hz
        split <;> omega
theorem maxL_eq {ns : List Int} {m : Int} (h1 : m ∈ ns) (h2 : ∀ y ∈ ns, y ≤ m) : maxL ns = some m := by
  obtain ⟨k, a, b, c⟩ := maxL_some (ns := ns) (List.length_pos_of_mem h1)
  rw [a]
  have := h2 k b
  have := c m h1
  congr 1
  omega
theorem keys_v : ∀ {kvs : List (D × D)} {ks : List (Key × V)}, RKs K H Z kvs ks → RDs K H Z (kvs.map (·.1)) (ks.map fun kv => kV kv.1)
  | [], ks, h => by rw [RKs.nil_iff.mp h]; exact RDs.nil_iff.mpr rfl
  | p :: r, ks, h => by
    obtain ⟨k', v, r', rfl, hk, h1, h2⟩ := RKs.cons_iff.mp h
    refine RDs.mk ?_ (keys_v h2)
    obtain ⟨x, y⟩ := p
    cases x <;> first | (cases hk; done) | skip
    · cases hk; exact rd_int.mpr rfl
    · cases hk; exact rd_str.mpr rfl
end
section
variable {X : Cx} {pos : Pos}
theorem call_lenW : CallR X (.builtin "len") (fun xs H Q => ∃ a kvs, xs = [V.ref a] ∧ Rd H a (.dK kvs) ∧ Q (.int kvs.length) H) := by
  intro pins s σ H xs us Q I r h
  obtain ⟨a, kvs, rfl, ha, q⟩ := h
  obtain ⟨u, rfl, ru⟩ := vals1 r
  obtain rfl : u = Value.ref a := ru
  exact d_len I ha fun t s' I' => ⟨.int kvs.length, H, I', ⟨t, rfl⟩, q⟩
theorem r_len : CallR X (.builtin "len") (fun xs H Q => rOp X.K .len xs H Q) := by
  refine CallR.imp (call_len_seq.or (call_len_str.or call_lenW)) fun vs H Q h => ?_
  obtain ⟨Z, ds, d, r, e, k⟩ := h
  change oLen ds = some d at e
  unfold oLen at e
  split at e
  · obtain ⟨x, rfl, rx⟩ := r.inv1
    split at e
    · rename_i hl
      cases e
      rw [rv_str.mp rx]
      refine .inr (.inl ⟨_, rfl, by rw [len_ofString, ← big_line]; exact hl, ?_⟩)
      rw [len_ofString]
      exact k _ _ post_int
    · cases e
  · obtain ⟨x, rfl, rx⟩ := r.inv1
    cases e
    obtain ⟨a, vs, rfl, h1, h2⟩ := rv_lst.mp rx
    refine .inl ⟨a, vs, rfl, .inl (SqL.of h1), ?_⟩
    rw [← h2.length]
    exact k _ _ post_int
  · obtain ⟨x, rfl, rx⟩ := r.inv1
    cases e
    obtain ⟨a, vs, rfl, h1, h2⟩ := rv_tup.mp rx
    refine .inl ⟨a, vs, rfl, .inr h1, ?_⟩
    rw [← h2.length]
    exact k _ _ post_int
  · obtain ⟨x, rfl, rx⟩ := r.inv1
    cases e
    obtain ⟨a, vs, rfl, h1, h2⟩ := rv_dct.mp rx
    refine .inr (.inr ⟨a, vs, rfl, h1, ?_⟩)
    rw [← h2.length]
    exact k _ _ post_int
  · cases e
theorem r_all (hc : X.calm = true) : CallR X (.builtin "all") (fun xs H Q => rOp X.K .all1 xs H Q) := by
  refine CallR.imp (cr_all hc) fun vs H Q h => ?_
  obtain ⟨Z, ds, d, r, e, k⟩ := h
  change oAll ds = some d at e
  unfold oAll at e
  split at e
  · obtain ⟨x, rfl, rx⟩ := r.inv1
    obtain ⟨bs, e1, e2⟩ := Option.map_eq_some_iff.mp e
    subst e2
    obtain ⟨a, vs, rfl, h1, h2⟩ := rv_lst.mp rx
    rw [bls_v e1 h2] at h1
    exact ⟨a, bs, rfl, SqL.of h1, k _ _ post_bl⟩
  · cases e
theorem r_any (hc : X.calm = true) : CallR X (.builtin "any") (fun xs H Q => rOp X.K .any1 xs H Q) := by
  refine CallR.imp (cr_any hc) fun vs H Q h => ?_
  obtain ⟨Z, ds, d, r, e, k⟩ := h
  change oAny ds = some d at e
  unfold oAny at e
  split at e
  · obtain ⟨x, rfl, rx⟩ := r.inv1
    obtain ⟨bs, e1, e2⟩ := Option.map_eq_some_iff.mp e
    subst e2
    obtain ⟨a, vs, rfl, h1, h2⟩ := rv_lst.mp rx
    rw [bls_v e1 h2] at h1
    exact ⟨a, bs, rfl, SqL.of h1, k _ _ post_bl⟩
  · cases e
theorem r_sum (hc : X.calm = true) : CallR X (.builtin "sum") (fun xs H Q => rOp X.K .sum1 xs H Q) := by
  refine CallR.imp (cr_sum hc) fun vs H Q h => ?_
  obtain ⟨Z, ds, d, r, e, k⟩ := h
  change oSum ds = some d at e
  unfold oSum at e
  split at e
  · obtain ⟨x, rfl, rx⟩ := r.inv1
    obtain ⟨bs, e1, e2⟩ := Option.map_eq_some_iff.mp e
    subst e2
    obtain ⟨a, vs, rfl, h1, h2⟩ := rv_lst.mp rx
    rw [ints_v e1 h2] at h1
    exact ⟨a, bs, rfl, SqL.of h1, k _ _ post_int⟩
  · cases e
theorem r_mn1 (hc : X.calm = true) : CallR X (.builtin "min") (fun xs H Q => rOp X.K .mn1 xs H Q) := by
  refine CallR.imp (cr_min hc) fun vs H Q h => ?_
  obtain ⟨Z, ds, d, r, e, k⟩ := h
  change oMn1 ds = some d at e
  unfold oMn1 at e
  split at e
  · obtain ⟨x, rfl, rx⟩ := r.inv1
    obtain ⟨m, e1, e2⟩ := Option.map_eq_some_iff.mp e
    obtain ⟨bs, e3, e4⟩ := Option.bind_eq_some_iff.mp e1
    subst e2
    obtain ⟨a, vs, rfl, h1, h2⟩ := rv_lst.mp rx
    rw [ints_v e3 h2] at h1
    refine ⟨a, bs, rfl, SqL.of h1, ?_, fun m' hm hle => ?_⟩
    · cases bs with
      | nil => cases e4
      | cons _ _ => simp
    · have := minL_eq hm hle
      rw [this] at e4
      cases e4
      exact k _ _ post_int
  · cases e
theorem r_mx1 (hc : X.calm = true) : CallR X (.builtin "max") (fun xs H Q => rOp X.K .mx1 xs H Q) := by
  refine CallR.imp (cr_max hc) fun vs H Q h => ?_
  obtain ⟨Z, ds, d, r, e, k⟩ := h
  change oMx1 ds = some d at e
  unfold oMx1 at e
  split at e
  · obtain ⟨x, rfl, rx⟩ := r.inv1
    obtain ⟨m, e1, e2⟩ := Option.map_eq_some_iff.mp e
    obtain ⟨bs, e3, e4⟩ := Option.bind_eq_some_iff.mp e1
    subst e2
    obtain ⟨a, vs, rfl, h1, h2⟩ := rv_lst.mp rx
    rw [ints_v e3 h2] at h1
    refine ⟨a, bs, rfl, SqL.of h1, ?_, fun m' hm hle => ?_⟩
    · cases bs with
      | nil => cases e4
      | cons _ _ => simp
    · have := maxL_eq hm hle
      rw [this] at e4
      cases e4
      exact k _ _ post_int
  · cases e
theorem r_mn2 (hc : X.calm = true) : CallR X (.builtin "min") (fun xs H Q => rOp X.K .mn2 xs H Q) := by
  refine CallR.imp (call_min2 hc) fun vs H Q h => ?_
  obtain ⟨Z, ds, d, r, e, k⟩ := h
  change oMn2 ds = some d at e
  unfold oMn2 at e
  split at e
  · obtain ⟨x, y, rfl, rx, ry⟩ := r.inv2
    cases e
    exact ⟨_, _, by rw [rv_int.mp rx, rv_int.mp ry], k _ _ post_int⟩
  · cases e
theorem r_mx2 (hc : X.calm = true) : CallR X (.builtin "max") (fun xs H Q => rOp X.K .mx2 xs H Q) := by
  refine CallR.imp (call_max2 hc) fun vs H Q h => ?_
  obtain ⟨Z, ds, d, r, e, k⟩ := h
  change oMx2 ds = some d at e
  unfold oMx2 at e
  split at e
  · obtain ⟨x, y, rfl, rx, ry⟩ := r.inv2
    cases e
    exact ⟨_, _, by rw [rv_int.mp rx, rv_int.mp ry], k _ _ post_int⟩
  · cases e
theorem r_lst (hc : X.calm = true) : CallR X (.type "list") (fun xs H Q => rOp X.K .lst1 xs H Q) := by
  refine CallR.imp (call_list_of.or (call_listD hc)) fun vs H Q h => ?_
  obtain ⟨Z, ds, d, r, e, k⟩ := h
  change oLst ds = some d at e
  unfold oLst at e
  split at e
  · obtain ⟨x, rfl, rx⟩ := r.inv1
    cases e
    obtain ⟨a, vs, rfl, h1, h2⟩ := rv_lst.mp rx
    exact .inl ⟨a, vs, rfl, .inl (SqL.of h1), fun l hl => k _ _ (post_lst hl h2)⟩
  · obtain ⟨x, rfl, rx⟩ := r.inv1
    cases e
    obtain ⟨a, vs, rfl, h1, h2⟩ := rv_tup.mp rx
    exact .inl ⟨a, vs, rfl, .inr h1, fun l hl => k _ _ (post_lst hl h2)⟩
  · obtain ⟨x, rfl, rx⟩ := r.inv1
    cases e
    obtain ⟨a, vs, rfl, h1, h2⟩ := rv_dct.mp rx
    exact .inr ⟨a, vs, rfl, h1, fun l hl => k _ _ (post_lst hl (keys_v h2))⟩
  · cases e
theorem r_tup : CallR X (.type "tuple") (fun xs H Q => rOp X.K .tup1 xs H Q) := by
  refine CallR.imp call_tuple_of fun vs H Q h => ?_
  obtain ⟨Z, ds, d, r, e, k⟩ := h
  change oTup ds = some d at e
  unfold oTup at e
  split at e
  · obtain ⟨x, rfl, rx⟩ := r.inv1
    cases e
    obtain ⟨a, vs, rfl, h1, h2⟩ := rv_lst.mp rx
    exact ⟨a, vs, rfl, .inl ⟨SqL.of h1, fun l hl => k _ _ (post_tup hl h2)⟩⟩
  · obtain ⟨x, rfl, rx⟩ := r.inv1
    cases e
    obtain ⟨a, vs, rfl, h1, h2⟩ := rv_tup.mp rx
    exact ⟨a, vs, rfl, .inr ⟨h1, k _ _ (post_rd (RV.toRD rx rfl) rfl)⟩⟩
  · cases e
theorem r_dct : CallR X (.type "dict") (fun xs H Q => rOp X.K .dct1 xs H Q) := by
  refine CallR.imp call_dictD fun vs H Q h => ?_
  obtain ⟨Z, ds, d, r, e, k⟩ := h
  change oDct ds = some d at e
  unfold oDct at e
  split at e
  · obtain ⟨x, rfl, rx⟩ := r.inv1
    cases e
    obtain ⟨a, vs, rfl, h1, h2⟩ := rv_dct.mp rx
    exact ⟨a, vs, rfl, h1, fun l hl => k _ _ (post_dct hl h2)⟩
  · cases e
theorem r_int : CallR X (.type "int") (fun xs H Q => rOp X.K .int1 xs H Q) := by
  refine CallR.imp (call_int1.or call_int_str) fun vs H Q h => ?_
  obtain ⟨Z, ds, d, r, e, k⟩ := h
  change oInt ds = some d at e
  unfold oInt at e
  split at e
  · obtain ⟨x, rfl, rx⟩ := r.inv1
    cases e
    exact .inl (.inl ⟨_, by rw [rv_int.mp rx], k _ _ post_int⟩)
  · obtain ⟨x, rfl, rx⟩ := r.inv1
    cases e
    exact .inl (.inr ⟨_, by rw [rv_bl.mp rx], k _ _ post_int⟩)
  · obtain ⟨x, rfl, rx⟩ := r.inv1
    split at e
    · rename_i hl
      obtain ⟨n, hn, rfl⟩ := Option.map_eq_some_iff.mp e
      exact .inr ⟨_, n, by rw [rv_str.mp rx], hn, by rw [len_ofString]; exact hl, k _ _ post_int⟩
    · cases e
  · cases e
theorem r_str : CallR X (.type "str") (fun xs H Q => rOp X.K .str1 xs H Q) := by
  refine CallR.imp (call_str_int.or SkE.call_str_str) fun vs H Q h => ?_
  obtain ⟨Z, ds, d, r, e, k⟩ := h
  change oStr ds = some d at e
  unfold oStr at e
  split at e
  · obtain ⟨x, rfl, rx⟩ := r.inv1
    split at e
    · rename_i hl
      cases e
      exact .inl ⟨_, by rw [rv_int.mp rx], hl, k _ _ post_str⟩
    · cases e
  · obtain ⟨x, rfl, rx⟩ := r.inv1
    cases e
    exact .inr ⟨_, by rw [rv_str.mp rx], k _ _ post_str⟩
  · cases e

/-! ### subscripts -/
theorem ix_dict (hu : X.A.units + 64 < cLine) : IxR X (fun x y H Q => ∃ a v, x = .ref a ∧ DGet H a y (some v) ∧ Q v H) := by
  intro value slice pins s σ H x y v u Q I rx ry h hs
  obtain ⟨a, w, rfl, g, q⟩ := h
  obtain rfl : v = Value.ref a := rx
  exact tail_any (dict_typeIs I g) PySem.F.slot_dict_getitem.lookup (d_getItem (by omega) I g ry fun w' s' I' r' => ⟨w, H, I', r', q⟩) hs
theorem at_atI {xs : List D} {vs : List V} {i : Int} {d : D} (h : at? xs i = some d) (r : xs.length = vs.length) : ∃ j : Nat, xs[j]? = some d ∧ ∀ v, vs[j]? = some v → atI vs i = some v := by
  unfold at? at h
  split at h
  · rename_i h0
    split at h
    · refine ⟨i.toNat, h, fun v hv => ?_⟩
      have := atI_nat hv
      rw [Int.toNat_of_nonneg h0] at this
      exact this
    · cases h
  · rename_i h0
    split at h
    · rename_i h1
      refine ⟨_, h, fun v hv => ?_⟩
      unfold atI ixN
      rw [if_neg h0, if_pos (by rw [← r]; exact h1), ← r]
      exact hv
    · cases h
theorem chr_atI {xs : List Char} {i : Int} {d : Char} (h : chr? xs i = some d) : atI (xs.map Char.toNat) i = some d.toNat := by
  unfold chr? at h
  split at h
  · rename_i h0
    split at h
    · have : (xs.map Char.toNat)[i.toNat]? = some d.toNat := by rw [List.getElem?_map, h]; rfl
      have := atI_nat this
      rw [Int.toNat_of_nonneg h0] at this
      exact this
    · cases h
  · rename_i h0
    split at h
    · rename_i h1
      unfold atI ixN
      rw [if_neg h0, List.length_map, if_pos h1]
      show (xs.map Char.toNat)[(i + xs.length).toNat]? = _
      rw [List.getElem?_map, h]
      rfl
    · cases h
theorem one_of (c : Char) : Str.ofString (String.ofList [c]) = ⟨#[c.toNat]⟩ := one_sign (by rw [String.toList_ofList])
theorem r_idx (hu : X.A.units + 64 < cLine) : IxR X (fun x y H Q => rOp X.K .idx [x, y] H Q) := by
  refine IxR.imp (ix_list.or (ix_tup.or (ix_str.or (ix_dict hu)))) fun x y H Q h => ?_
  obtain ⟨Z, ds, d, r, e, k⟩ := h
  obtain ⟨p, q, rfl, rp, rq⟩ := RVs.two r
  change oIdx [p, q] = some d at e
  unfold oIdx at e
  split at e
  · rename_i i j e1
    injection e1 with e1 e2; injection e2 with e2 _; subst e1 e2
    obtain ⟨a, vs, rfl, h1, h2⟩ := rv_lst.mp rp
    obtain ⟨n, g1, g2⟩ := at_atI e h2.length
    obtain ⟨v, hv, rv⟩ := h2.get g1
    exact .inl ⟨a, vs, _, v, rfl, rv_int.mp rq, SqL.of h1, g2 v hv, k _ _ (post_rd rv rfl)⟩
  · rename_i i j e1
    injection e1 with e1 e2; injection e2 with e2 _; subst e1 e2
    obtain ⟨a, vs, rfl, h1, h2⟩ := rv_tup.mp rp
    obtain ⟨n, g1, g2⟩ := at_atI e h2.length
    obtain ⟨v, hv, rv⟩ := h2.get g1
    exact .inr (.inl ⟨a, vs, _, v, rfl, rv_int.mp rq, h1, g2 v hv, k _ _ (post_rd rv rfl)⟩)
  · rename_i i j e1
    injection e1 with e1 e2; injection e2 with e2 _; subst e1 e2
    split at e
    · rename_i hl
      obtain ⟨c, e1, e2⟩ := Option.map_eq_some_iff.mp e
      subst e2
      refine .inr (.inr (.inl ⟨_, _, c.toNat, rv_str.mp rp, rv_int.mp rq, by rw [len_ofString, ← big_line]; exact hl, by rw [str_cps]; exact chr_atI e1, ?_⟩))
      rw [← one_of]
      exact k _ _ post_str
    · cases e
  · rename_i kvs x' e1
    injection e1 with e1 e2; injection e2 with e2 _; subst e1 e2
    obtain ⟨kk, e1, e2⟩ := Option.bind_eq_some_iff.mp e
    obtain ⟨a, vs, rfl, h1, h2⟩ := rv_dct.mp rp
    rcases h2.val kk with ⟨n1, n2⟩ | ⟨d', v, n1, n2, n3⟩
    · rw [n1] at e2; cases e2
    · rw [n1] at e2; cases e2
      exact .inr (.inr (.inr ⟨a, v, rfl, .inl ⟨vs, toK kk, h1, key_v e1 rq, n2.symm⟩, k _ _ (post_rd n3 rfl)⟩))
  · cases e
end
end Vm

set_option Elab.async false
set_option linter.all false
set_option maxRecDepth 100000
/-! V7: slices, methods, isinstance. -/
namespace Vm
open PySem PySem.Spec PyProof.Rows L2

theorem loN_eq (n : Nat) (lo : Option Int) : HT.sIx n 0 lo = loN n lo := by
  cases lo with
  | none => rfl
  | some i =>
    have := HT.clip_eq i n 0
    unfold loN cl
    split at this <;> rename_i h <;> simp only [h, if_true, if_false] <;> omega
theorem hiN_eq (n : Nat) (lo : Option Int) : HT.sIx n n lo = hiN n lo := by
  cases lo with
  | none => rfl
  | some i =>
    have := HT.clip_eq i n n
    unfold hiN cl
    split at this <;> rename_i h <;> simp only [h, if_true, if_false] <;> omega
theorem cutV_eq (vs : List V) (lo hi : Option Int) : cutV vs lo hi = cut vs (loN vs.length lo) (hiN vs.length hi) := by
  unfold cutV cut
  rw [loN_eq, hiN_eq]
theorem cutS_eq (s : String) (lo hi : Option Int) : cutS (Str.ofString s) lo hi = Str.ofString (String.ofList (cut s.toList (loN s.length lo) (hiN s.length hi))) := by
  unfold cutS
  rw [Str.ofString_eq_toList (String.ofList _), String.toList_ofList, len_ofString, loN_eq, hiN_eq, str_cps]
  unfold cut
  rw [List.map_take, List.map_drop]
theorem cut_map {α β : Type} (f : α → β) (xs : List α) (i j : Nat) : (cut xs i j).map f = cut (xs.map f) i j := by
  unfold cut
  rw [List.map_take, List.map_drop]
theorem RDs.cut {K : PySem.W.Frag} {H : Hp} {Z : Addr → Prop} {xs : List D} {vs : List V} (r : RDs K H Z xs vs) (i j : Nat) : RDs K H Z (cut xs i j) (cut vs i j) := (r.drop i).take (j - i)
theorem rds_ints {K : PySem.W.Frag} {H : Hp} {Z : Addr → Prop} : ∀ ns : List Int, RDs K H Z (ns.map D.int) (ns.map V.int)
  | [] => RDs.nil_iff.mpr rfl
  | n :: ns => RDs.mk (rd_int.mpr rfl) (rds_ints ns)
/-- what a slice leaves -/
def rSlc (K : PySem.W.Frag) (x : V) (lo hi : Option Int) (H : Hp) (Q : VK) : Prop := ∃ Z p d, RV K H Z p x ∧ oSl lo hi p = some d ∧ ∀ v H', OPost K H Z .add d v H' → Q v H'
section
variable {X : Cx} {pos : Pos}
theorem r_slc : SlR X (rSlc X.K) := by
  refine SlR.imp (sl_list.or (sl_str.or sl_tup)) fun x lo hi H Q h => ?_
  obtain ⟨Z, p, d, rp, e, k⟩ := h
  cases p with
  | lst xs =>
    cases e
    obtain ⟨a, vs, rfl, h1, h2⟩ := rv_lst.mp rp
    refine .inl ⟨a, vs, rfl, SqL.of h1, fun p hp => ?_⟩
    rw [cutV_eq, ← h2.length]
    exact k _ _ (post_lst hp (h2.cut _ _))
  | scr ns =>
    cases e
    obtain ⟨a, rfl, h1⟩ := rv_scr.mp rp
    refine .inl ⟨a, _, rfl, h1.seq, fun p hp => ?_⟩
    rw [cutV_eq, List.length_map, ← cut_map]
    exact k _ _ (post_lst hp (rds_ints _))
  | str s =>
    simp only [oSl] at e
    split at e
    · rename_i hl
      cases e
      refine .inr (.inl ⟨_, rv_str.mp rp, by rw [len_ofString, ← big_line]; exact hl, ?_⟩)
      rw [cutS_eq]
      exact k _ _ post_str
    · cases e
  | tup xs =>
    simp only [oSl] at e
    split at e
    · rename_i hl
      cases e
      obtain ⟨a, vs, rfl, h1, h2⟩ := rv_tup.mp rp
      refine .inr (.inr ⟨a, vs, rfl, h1, fun z => ?_, fun p hp => ?_⟩)
      · rw [loN_eq, hiN_eq, ← h2.length] at z
        rw [z.1, z.2] at hl
        unfold cut at hl
        simp at hl
      · rw [cutV_eq, ← h2.length]
        exact k _ _ (post_tup hp (h2.cut _ _))
    · cases e
  | _ => cases e
theorem r_rev {te : TE} {e : Expr} {k : Nat} {p1 p2 p3 : Pos} (he : PE X e te) : PE X (.Subscript e (.Slice none none (some (.UnaryOp .USub (.Constant (.int 1) k p1) p2)) p3) pos) (fun σ H Q => te σ H fun x H1 => rOp X.K .srev [x] H1 Q) := by
  refine PE.mono (pe_revL (Vm.PE.up he)) fun σ H Q h => up_of h fun x H1 hh => ?_
  obtain ⟨Z, ds, d, r, e, k⟩ := hh
  obtain ⟨p, rfl, rp⟩ := RVs.one r
  change oRev [p] = some d at e
  unfold oRev at e
  split at e
  · rename_i xs e1
    injection e1 with e1 _; subst e1
    cases e
    obtain ⟨a, vs, rfl, h1, h2⟩ := rv_lst.mp rp
    exact ⟨a, vs, rfl, SqL.of h1, fun p hp => k _ _ (post_lst hp h2.rev)⟩
  · cases e

/-! ### methods -/
def tyW (K : PySem.W.Frag) (T : String) (x : V) (H : Hp) : Prop := tyV K T x H ∨ (T = "dict" ∧ ∃ p kvs, x = .ref p ∧ Rd H p (.dK kvs))
theorem tyW_is {pins : List (Addr × Obj)} {σ : L2.St} {H : Hp} {s : Shared} {T : String} {x : V} {v : Value} (I : Inv X pins σ H s) (r : RelV x v) (ty : tyW X.K T x H) :
    s.TypeIs v T ∧ ∀ a, v = .ref a → ∃ ob, s.heap.get? a = some ob ∧ ob.dict = none := by
  rcases ty with ty | ⟨rfl, p, kvs, rfl, h⟩
  · exact tyV_is I r ty
  · obtain rfl : v = Value.ref p := r
    obtain ⟨t1, t2, _⟩ := isD_at I (.inl ⟨kvs, h⟩)
    exact ⟨t1, fun a e => t2 a e⟩
def tMop (K : PySem.W.Frag) (T : String) (r : V → List V → Hp → VK → Prop) (to : TE) (t : TA) : TE := fun σ H Q => to σ H fun x H1 => tyW K T x H1 ∧ t σ H1 fun xs H2 => r x xs H2 Q
theorem pe_mop0 {o : Expr} {to : TE} {name : Str} {apos cpos : Pos} {T id : String} {r : V → List V → Hp → VK → Prop} (pa : PlainAttrs T) (slot : Slot T name id) (hty : typeOf (.builtin id) = pure (.type "method_descriptor")) (hm : MtR X id r) (ho : PE X o to)
    (hbase : attributeBase o name X.env (eval o X.env) = eval o X.env) (hline : (apos.endLine == cpos.line) = true) : PE X (.Call (.Attribute o name apos) [] [] cpos) (tMop X.K T r to tNil) := by
  refine ⟨fun pins s σ H Q I h => ?_⟩
  refine wpAny_Call_method0_late hbase hline (thn (ho.run pins s σ H _ I h) fun v s1 ⟨x, H1, I1, r1, ty, q1⟩ => ?_)
  have hh := tyW_is I1 r1 ty
  exact ⟨T, id, pa, slot, hty, hh.1, hh.2, Calls.callWith_builtin rfl (PySem.evalArgs_none (hm pins s1 σ H1 x [] v [] Q I1 r1 .nil q1))⟩
theorem pe_mop {o e : Expr} {es : List Expr} {to : TE} {t : TA} {name : Str} {apos cpos : Pos} {T id : String} {r : V → List V → Hp → VK → Prop} (pa : PlainAttrs T) (slot : Slot T name id) (hty : typeOf (.builtin id) = pure (.type "method_descriptor"))
    (hm : MtR X id r) (ho : PE X o to) (ha : PA X (e :: es) t) (hbase : attributeBase o name X.env (eval o X.env) = eval o X.env)
    (hst : ∀ x ∈ (e :: es), plainH x = true) (hlen : (e :: es).length ≤ 3) (hline : (apos.endLine == cpos.line) = true) : PE X (.Call (.Attribute o name apos) (e :: es) [] cpos) (tMop X.K T r to t) := by
  have hs : ∀ l : List Expr, (∀ x ∈ l, plainH x = true) → starEach l X.env = l.map fun x => (false, eval x X.env) := by
    intro l
    induction l with
    | nil => intro _; rfl
    | cons a l ih =>
      intro h
      rw [star_cons (h a List.mem_cons_self), ih fun x hx => h x (List.mem_cons_of_mem _ hx)]
      rfl
  refine ⟨fun pins s σ H Q I h => ?_⟩
  refine wpAny_Call_method_late hbase ?_ hline rfl (thn (ho.run pins s σ H _ I h) fun v s1 ⟨x, H1, I1, r1, ty, q1⟩ => ?_)
  · rw [hs _ hst]
    have h1 : (backTo cpos ((e :: es).map fun x => (false, eval x X.env))).all (fun x => !x.1) = true := by
      unfold backTo
      rw [List.all_eq_true]
      intro y hy
      obtain ⟨z, hz, rfl⟩ := List.mem_map.mp hy
      obtain ⟨w, _, rfl⟩ := List.mem_map.mp hz
      rfl
    rw [h1]
    show (true && true && decide ((e :: es).length + 0 + 0 < 30)) = true
    rw [decide_eq_true (by omega)]
    rfl
  · have hh := tyW_is I1 r1 ty
    refine ⟨T, id, pa, slot, hty, hh.1, hh.2, ?_⟩
    have hA := ha.run cpos pins s1 σ H1 _ I1 q1
    have hpl : (backTo cpos (starEach es X.env)).any (·.1) = false := by
      rw [hs _ fun x hx => hst x (List.mem_cons_of_mem _ hx)]
      unfold backTo
      rw [List.any_eq_false]
      intro y hy
      obtain ⟨z, hz, rfl⟩ := List.mem_map.mp hy
      obtain ⟨w, _, rfl⟩ := List.mem_map.mp hz
      exact Bool.false_ne_true
    rw [star_cons (hst e List.mem_cons_self)] at hA ⊢
    refine Calls.callWith_builtin (by show (false || (backTo cpos (starEach es X.env)).any (·.1)) = false; rw [hpl] <;> rfl) (Calls.evalArgs_plain ?_)
    · exact thn hA fun us s2 ⟨vs, H2, I2, r2, q2⟩ => hm pins s2 σ H2 x vs v us Q I2 r1 r2 q2
theorem mt_get1 (hu : X.A.units + 64 < cLine) : MtR X "dict.get" (fun x xs H Q => ∃ a y o, x = .ref a ∧ xs = [y] ∧ DGet H a y o ∧ Q (o.getD .non) H) := by
  intro pins s σ H x xs v us Q I rx rs h
  obtain ⟨a, y, o, rfl, rfl, g, q⟩ := h
  obtain rfl : v = Value.ref a := rx
  obtain ⟨u, rfl, ru⟩ := vals1 rs
  exact d_get1 (by omega) I g ru fun w' s' I' r' => ⟨_, H, I', r', q⟩
theorem mt_get2 (hu : X.A.units + 64 < cLine) : MtR X "dict.get" (fun x xs H Q => ∃ a y z o, x = .ref a ∧ xs = [y, z] ∧ DGet H a y o ∧ Q (o.getD z) H) := by
  intro pins s σ H x xs v us Q I rx rs h
  obtain ⟨a, y, z, o, rfl, rfl, g, q⟩ := h
  obtain rfl : v = Value.ref a := rx
  obtain ⟨u, w, rfl, ru, rw'⟩ := vals2 rs
  exact d_get2 (by omega) I g ru rw' fun w' s' I' r' => ⟨_, H, I', r', q⟩
/-- a method's reading by data -/
def rMop (K : PySem.W.Frag) (f : OpK) (x : V) (xs : List V) (H : Hp) (Q : VK) : Prop := rOp K f (x :: xs) H Q
theorem r_get1 (hu : X.A.units + 64 < cLine) : MtR X "dict.get" (rMop X.K .get1) := by
  refine MtR.imp (mt_get1 hu) fun x xs H Q h => ?_
  obtain ⟨Z, ds, d, r, e, k⟩ := h
  change oGet1 ds = some d at e
  unfold oGet1 at e
  split at e
  · obtain ⟨p, q, e1, rp, rq⟩ := r.inv2
    cases e1
    obtain ⟨kk, e1, e2⟩ := Option.map_eq_some_iff.mp e
    subst e2
    obtain ⟨a, vs, rfl, h1, h2⟩ := rv_dct.mp rp
    refine ⟨a, q, valV vs (toK kk), rfl, rfl, .inl ⟨vs, toK kk, h1, key_v e1 rq, rfl⟩, ?_⟩
    rcases h2.val kk with ⟨n1, n2⟩ | ⟨d', v, n1, n2, n3⟩
    · rw [n1] at k
      rw [n2]
      exact k _ _ (post_rd (rd_non.mpr rfl) rfl)
    · rw [n1] at k
      rw [n2]
      exact k _ _ (post_rd n3 rfl)
  · cases e
theorem r_get2 (hu : X.A.units + 64 < cLine) : MtR X "dict.get" (fun x xs H Q => ∃ Z ds d, (∃ a kvs z, ds = [a, kvs, z] ∧ RVs X.K H Z [a, kvs] [x, xs.getD 0 .non] ∧ xs.length = 2 ∧ RD X.K H Z z (xs.getD 1 .non)) ∧ opD .get2 ds = some d ∧ ∀ v H', OPost X.K H Z .get2 d v H' → Q v H') := by
  refine MtR.imp (mt_get2 hu) fun x xs H Q h => ?_
  obtain ⟨Z, ds, d, ⟨p, q, z, rfl, r, hl, rz⟩, e, k⟩ := h
  obtain ⟨xp, xq, e0, rp, rq⟩ := r.inv2
  match xs, hl with
  | [y, w], _ =>
    cases e0
    change oGet2 [p, q, z] = some d at e
    unfold oGet2 at e
    split at e
    · rename_i kvs x' y' e1
      injection e1 with e1 e2; injection e2 with e2 e3; injection e3 with e3 _; subst e1 e2 e3
      obtain ⟨kk, e1, e2⟩ := Option.map_eq_some_iff.mp e
      subst e2
      obtain ⟨a, vs, rfl, h1, h2⟩ := rv_dct.mp rp
      refine ⟨a, y, w, valV vs (toK kk), rfl, rfl, .inl ⟨vs, toK kk, h1, key_v e1 rq, rfl⟩, ?_⟩
      rcases h2.val kk with ⟨n1, n2⟩ | ⟨d', v, n1, n2, n3⟩
      · rw [n1] at k
        rw [n2]
        exact k _ _ (post_rd rz rfl)
      · rw [n1] at k
        rw [n2]
        exact k _ _ (post_rd n3 rfl)
    · cases e
theorem join_str' (s : String) (ss : List String) : Str.join (Str.ofString s) (ss.map Str.ofString) = Str.ofString (joinS s ss) := by
  induction ss with
  | nil => rfl
  | cons a r ih =>
    cases r with
    | nil => rfl
    | cons b r =>
      show Str.ofString a ++ Str.ofString s ++ Str.join (Str.ofString s) ((b :: r).map Str.ofString) = _
      rw [ih, str_app, str_app]
      rfl
theorem join_str (s : String) (ss : List String) : Txt.join (Str.ofString s) (ss.map Str.ofString) = Str.ofString (joinS s ss) := by
  rw [TL.join_eq, join_str']
theorem r_join : MtR X "str.join" (rMop X.K .join) := by
  refine MtR.imp mt_join fun x xs H Q h => ?_
  obtain ⟨Z, ds, d, r, e, k⟩ := h
  change oJoin ds = some d at e
  unfold oJoin at e
  split at e
  · obtain ⟨p, q, e1, rp, rq⟩ := r.inv2
    cases e1
    split at e
    · rename_i ss hs
      split at e
      · rename_i hl
        cases e
        obtain ⟨a, vs, rfl, h1, h2⟩ := rv_lst.mp rq
        rw [strs_v hs h2] at h1
        refine ⟨_, a, ss.map Str.ofString, rv_str.mp rp, rfl, .inl (SqL.of h1), ?_, ?_⟩
        · rw [List.map_map, List.length_map, len_ofString]
          have : (ss.map (Str.length ∘ Str.ofString)) = ss.map String.length := List.map_congr_left fun s _ => len_ofString s
          rw [this]
          unfold big at hl
          omega
        · rw [join_str]
          exact k _ _ post_str
      · cases e
    · cases e
  · cases e
/-! ### letters -/
theorem asc_cps {s : String} (h : asc s = true) : ∀ c ∈ (Str.ofString s).cps.toList, c < 128 := by
  rw [str_cps]
  intro c hc
  obtain ⟨x, hx, rfl⟩ := List.mem_map.mp hc
  exact of_decide_eq_true (List.all_eq_true.mp h x hx)
theorem char_of {n : Nat} (h : n < 128) : (Char.ofNat n).toNat = n := by
  have : ∀ n : Nat, n < 128 → (Char.ofNat n).toNat = n := by decide +kernel
  exact this n h
theorem map_cps {s : String} {f : Char → Char} {g : Nat → Nat} (h : ∀ c ∈ s.toList, (f c).toNat = g c.toNat) : (⟨(Str.ofString s).cps.map g⟩ : Str) = Str.ofString (String.ofList (s.toList.map f)) := by
  have e : ((Str.ofString s).cps.map g).toList = (Str.ofString (String.ofList (s.toList.map f))).cps.toList := by
    rw [Array.toList_map, str_cps, str_cps, String.toList_ofList, List.map_map, List.map_map]
    apply List.map_congr_left
    intro c hc
    exact (h c hc).symm
  have e2 := Array.toList_inj.mp e
  cases hx : Str.ofString (String.ofList (s.toList.map f)) with
  | mk a => rw [hx] at e2; exact congrArg Str.mk e2
theorem upper_str {s : String} (h : asc s = true) : Txt.upper (Str.ofString s) = Str.ofString (String.ofList (s.toList.map upC)) := by
  rw [PyProof.Rows.upper_ascii (asc_cps h)]
  refine map_cps fun c hc => ?_
  have hl : c.toNat < 128 := of_decide_eq_true (List.all_eq_true.mp h c hc)
  unfold upC isLo PyProof.Rows.up1
  by_cases q : 97 ≤ c.toNat ∧ c.toNat ≤ 122
  · rw [if_pos (decide_eq_true q), if_pos q, char_of (by omega)]
  · rw [if_neg (by rw [decide_eq_true_eq]; exact q), if_neg q]
theorem lower_str {s : String} (h : asc s = true) : Txt.lower (Str.ofString s) = Str.ofString (String.ofList (s.toList.map loC)) := by
  rw [PyProof.Rows.lower_ascii (asc_cps h)]
  refine map_cps fun c hc => ?_
  have hl : c.toNat < 128 := of_decide_eq_true (List.all_eq_true.mp h c hc)
  unfold loC isUp PyProof.Rows.lo1
  by_cases q : 65 ≤ c.toNat ∧ c.toNat ≤ 90
  · rw [if_pos (decide_eq_true q), if_pos q, char_of (by omega)]
  · rw [if_neg (by rw [decide_eq_true_eq]; exact q), if_neg q]
theorem any_cps {s : String} (h : asc s = true) {f : Char → Bool} {g : Nat → Bool} (hfg : ∀ c : Char, c.toNat < 128 → f c = g c.toNat) : (Str.ofString s).cps.any g = s.toList.any f := by
  rw [← Array.any_toList, str_cps, List.any_map]
  have : ∀ l : List Char, (∀ c ∈ l, c.toNat < 128) → l.any (g ∘ Char.toNat) = l.any f := by
    intro l
    induction l with
    | nil => intro _; rfl
    | cons a l ih =>
      intro hl
      rw [List.any_cons, List.any_cons, ih fun c hc => hl c (List.mem_cons_of_mem _ hc), hfg a (hl a List.mem_cons_self)]
      rfl
  exact this _ fun c hc => of_decide_eq_true (List.all_eq_true.mp h c hc)
theorem uni_lo : ∀ n : Nat, n < 128 → Unicode.isLower n = decide (97 ≤ n ∧ n ≤ 122) := by decide +kernel
theorem uni_up : ∀ n : Nat, n < 128 → (Unicode.isUpper n || Unicode.isTitle n) = decide (65 ≤ n ∧ n ≤ 90) := by decide +kernel
theorem uni_up2 : ∀ n : Nat, n < 128 → Unicode.isUpper n = decide (65 ≤ n ∧ n ≤ 90) := by decide +kernel
theorem uni_lo2 : ∀ n : Nat, n < 128 → (Unicode.isLower n || Unicode.isTitle n) = decide (97 ≤ n ∧ n ≤ 122) := by decide +kernel
theorem islower_str {s : String} (h : asc s = true) : Txt.islower (Str.ofString s) = (s.toList.any isLo && !s.toList.any isUp) := by
  unfold Txt.islower
  rw [any_cps h (f := isLo) fun c hc => (uni_lo _ hc).symm, any_cps h (f := isUp) (g := fun c => Unicode.isUpper c || Unicode.isTitle c) fun c hc => (uni_up _ hc).symm]
theorem isupper_str {s : String} (h : asc s = true) : Txt.isupper (Str.ofString s) = (s.toList.any isUp && !s.toList.any isLo) := by
  unfold Txt.isupper
  rw [any_cps h (f := isUp) fun c hc => (uni_up2 _ hc).symm, any_cps h (f := isLo) (g := fun c => Unicode.isLower c || Unicode.isTitle c) fun c hc => (uni_lo2 _ hc).symm]
theorem r_upper : MtR X "str.upper" (rMop X.K .upper) := by
  refine MtR.imp mt_upper fun x xs H Q h => ?_
  obtain ⟨Z, ds, d, r, e, k⟩ := h
  change oUpper ds = some d at e
  unfold oUpper at e
  split at e
  · obtain ⟨p, e1, rp⟩ := r.inv1
    cases e1
    split at e
    · rename_i hc
      cases e
      exact ⟨_, rv_str.mp rp, rfl, by rw [len_ofString]; exact hc.1, by rw [upper_str hc.2]; exact k _ _ (post_rd (rd_str.mpr rfl) rfl)⟩
    · cases e
  · cases e
/-! parting a text at a sign -/
def jN (c : Nat) : List (List Nat) → List Nat
  | [] => []
  | [p] => p
  | p :: q :: r => p ++ c :: jN c (q :: r)
theorem app_inj {c : Nat} : ∀ {p q X Y : List Nat}, c ∉ p → c ∉ q → p ++ c :: X = q ++ c :: Y → p = q ∧ X = Y
  | [], [], X, Y, _, _, h => ⟨rfl, by simpa using h⟩
  | [], b :: q, X, Y, _, hq, h => by
    simp only [List.nil_append, List.cons_append, List.cons.injEq] at h
    exact (hq (by rw [h.1]; exact List.mem_cons_self)).elim
  | a :: p, [], X, Y, hp, _, h => by
    simp only [List.nil_append, List.cons_append, List.cons.injEq] at h
    exact (hp (by rw [← h.1]; exact List.mem_cons_self)).elim
  | a :: p, b :: q, X, Y, hp, hq, h => by
    simp only [List.cons_append, List.cons.injEq] at h
    simp only [List.mem_cons, not_or] at hp hq
    obtain ⟨h1, h2⟩ := app_inj hp.2 hq.2 h.2
    exact ⟨by rw [h.1, h1], h2⟩
theorem jN_uniq {c : Nat} : ∀ {ps qs : List (List Nat)}, ps ≠ [] → qs ≠ [] → (∀ p ∈ ps, c ∉ p) → (∀ q ∈ qs, c ∉ q) → jN c ps = jN c qs → ps = qs
  | [], _, h, _, _, _, _ => (h rfl).elim
  | _ :: _, [], _, h, _, _, _ => (h rfl).elim
  | [p], [q], _, _, _, _, h => by rw [show p = q from h]
  | [p], q :: q' :: r, _, _, hp, _, h => by
    have : c ∈ jN c (q :: q' :: r) := by unfold jN; simp
    rw [← h] at this
    exact (hp p List.mem_cons_self this).elim
  | p :: p' :: r, [q], _, _, _, hq, h => by
    have : c ∈ jN c (p :: p' :: r) := by unfold jN; simp
    rw [h] at this
    exact (hq q List.mem_cons_self this).elim
  | p :: p' :: r, q :: q' :: t, _, _, hp, hq, h => by
    have h' : p ++ c :: jN c (p' :: r) = q ++ c :: jN c (q' :: t) := h
    obtain ⟨h1, h2⟩ := app_inj (hp p List.mem_cons_self) (hq q List.mem_cons_self) h'
    rw [h1, jN_uniq (ps := p' :: r) (qs := q' :: t) (by simp) (by simp) (fun x hx => hp x (List.mem_cons_of_mem _ hx)) (fun x hx => hq x (List.mem_cons_of_mem _ hx)) h2]
theorem join_jN (c : Nat) : ∀ ps : List Str, (Str.join ⟨#[c]⟩ ps).cps.toList = jN c (ps.map fun p => p.cps.toList)
  | [] => rfl
  | [p] => rfl
  | p :: q :: r => by
    show ((p ++ (⟨#[c]⟩ : Str)) ++ Str.join ⟨#[c]⟩ (q :: r)).cps.toList = _
    have : ∀ a b : Str, (a ++ b).cps.toList = a.cps.toList ++ b.cps.toList := fun a b => by show (a.cps ++ b.cps).toList = _; rw [Array.toList_append]
    rw [this, this, join_jN c (q :: r)]
    simp [jN]
theorem splitC_ne (c : Char) : ∀ l : List Char, splitC c l ≠ []
  | [] => by unfold splitC; simp
  | x :: r => by
    unfold splitC
    split
    · simp
    · split <;> simp
theorem splitC_free (c : Char) : ∀ (l : List Char), ∀ p ∈ splitC c l, c ∉ p
  | [], p, h => by
    unfold splitC at h
    simp only [List.mem_cons, List.not_mem_nil, or_false] at h
    rw [h]; exact List.not_mem_nil
  | x :: r, p, h => by
    have ih := splitC_free c r
    unfold splitC at h
    split at h
    · rcases List.mem_cons.mp h with rfl | h
      · exact List.not_mem_nil
      · exact ih p h
    · rename_i hx
      split at h
      · rename_i e
        exact (splitC_ne c r e).elim
      · rename_i q qs e
        rw [e] at ih
        rcases List.mem_cons.mp h with rfl | h
        · intro hc
          rcases List.mem_cons.mp hc with rfl | hc
          · exact hx rfl
          · exact ih q List.mem_cons_self hc
        · exact ih p (List.mem_cons_of_mem _ h)
def jC (c : Char) : List (List Char) → List Char
  | [] => []
  | [p] => p
  | p :: q :: r => p ++ c :: jC c (q :: r)
theorem splitC_join (c : Char) : ∀ (l : List Char), jC c (splitC c l) = l
  | [] => rfl
  | x :: r => by
    have ih := splitC_join c r
    unfold splitC
    split
    · rename_i hx
      subst hx
      cases e : splitC x r with
      | nil => exact (splitC_ne x r e).elim
      | cons q qs => rw [e] at ih; show [] ++ x :: jC x (q :: qs) = _; rw [ih]; rfl
    · cases e : splitC c r with
      | nil => exact (splitC_ne c r e).elim
      | cons q qs =>
        rw [e] at ih
        cases qs with
        | nil => show x :: q = _; rw [show q = r from ih]
        | cons q' t => show x :: q ++ c :: jC c (q' :: t) = _; rw [List.cons_append, show q ++ c :: jC c (q' :: t) = r from ih]
theorem cps_ofList (l : List Char) : (Str.ofString (String.ofList l)).cps.toList = l.map fun c => c.toNat := by
  rw [Str.ofString_eq_toList]; simp
theorem jN_map (c : Char) : ∀ ps : List (List Char), jN c.toNat (ps.map fun p => p.map fun x => x.toNat) = (jC c ps).map fun x => x.toNat
  | [] => rfl
  | [p] => rfl
  | p :: q :: r => by
    have := jN_map c (q :: r)
    show (p.map fun x => x.toNat) ++ c.toNat :: jN c.toNat ((q :: r).map fun p => p.map fun x => x.toNat) = _
    rw [this]
    simp [jC]
theorem split_str (s t : String) (c : Char) (ht : t.toList = [c]) : Txt.split (Str.ofString s) (Str.ofString t) = (splitC c s.toList).map fun p => Str.ofString (String.ofList p) := by
  have e : Str.ofString t = ⟨#[c.toNat]⟩ := by rw [Str.ofString_eq_toList, ht]; rfl
  have hs : (Str.ofString s).cps.toList = s.toList.map fun c => c.toNat := str_cps s
  have inj : ∀ {a b : Str}, a.cps.toList = b.cps.toList → a = b := fun {a b} h => by
    cases a; cases b
    rw [Str.mk.injEq]
    exact Array.toList_inj.mp h
  have hm : ((splitC c s.toList).map fun p => Str.ofString (String.ofList p)).map (fun p => p.cps.toList) = (splitC c s.toList).map fun p => p.map fun x => x.toNat := by
    rw [List.map_map]
    exact List.map_congr_left fun p _ => cps_ofList p
  have key : (Txt.split (Str.ofString s) (Str.ofString t)).map (fun p => p.cps.toList) = ((splitC c s.toList).map fun p => Str.ofString (String.ofList p)).map fun p => p.cps.toList := by
    refine jN_uniq (c := c.toNat) ?_ ?_ ?_ ?_ ?_
    · intro z
      have := split_pos (Str.ofString s) (Str.ofString t)
      have := congrArg List.length z
      simp only [List.length_map, List.length_nil] at this
      omega
    · intro z
      have := congrArg List.length z
      simp only [List.length_map, List.length_nil] at this
      exact splitC_ne c s.toList (List.length_eq_zero_iff.mp this)
    · intro p hp
      obtain ⟨q, hq, rfl⟩ := List.mem_map.mp hp
      rw [e] at hq
      exact StrLaws.split_free _ _ q hq
    · intro p hp
      rw [hm] at hp
      obtain ⟨q, hq, rfl⟩ := List.mem_map.mp hp
      intro hc
      obtain ⟨x, hx, hxc⟩ := List.mem_map.mp hc
      have : x = c := Char.toNat_inj.mp hxc
      rw [this] at hx
      exact splitC_free c _ q hq hx
    · rw [← join_jN, ← e, StrLaws.join_split, hs, hm, jN_map, splitC_join]
  have lift : ∀ (xs ys : List Str), xs.map (fun p => p.cps.toList) = ys.map (fun p => p.cps.toList) → xs = ys := by
    intro xs
    induction xs with
    | nil => intro ys h; cases ys with
      | nil => rfl
      | cons y ys => cases h
    | cons x xs ih => intro ys h; cases ys with
      | nil => cases h
      | cons y ys =>
        simp only [List.map_cons, List.cons.injEq] at h
        rw [inj h.1, ih ys h.2]
  exact lift _ _ key
theorem rds_strs {K : PySem.W.Frag} {H : Hp} {Z : Addr → Prop} : ∀ ss : List String, RDs K H Z (ss.map .str) ((ss.map Str.ofString).map V.str)
  | [] => RDs.nil_iff.mpr rfl
  | s :: ss => RDs.mk (rd_str.mpr rfl) (rds_strs ss)
theorem r_split : MtR X "str.split" (rMop X.K .split) := by
  refine MtR.imp mt_split fun x xs H Q h => ?_
  obtain ⟨Z, ds, d, r, e, k⟩ := h
  change oSplit ds = some d at e
  unfold oSplit at e
  split at e
  · rename_i s t
    obtain ⟨p, q, e1, rp, rq⟩ := r.inv2
    cases e1
    split at e
    · rename_i c hc
      split at e
      · rename_i hl
        cases e
        refine ⟨Str.ofString s, Str.ofString t, rv_str.mp rp, by rw [rv_str.mp rq], ?_, by rw [len_ofString, ← big_line]; exact hl, fun p hp => ?_⟩
        · rw [len_ofString, ← String.length_toList, hc]; rfl
        · have hr := rds_strs (K := X.K) (H := H) (Z := Z) ((splitC c s.toList).map String.ofList)
          rw [List.map_map, List.map_map] at hr
          have h2 := k (.ref p) _ (post_lst (f := .split) hp hr)
          rw [split_str s t c hc]
          rw [List.map_map] at h2 ⊢
          exact h2
      · cases e
    · cases e
  · cases e
theorem r_lower : MtR X "str.lower" (rMop X.K .lower) := by
  refine MtR.imp mt_lower fun x xs H Q h => ?_
  obtain ⟨Z, ds, d, r, e, k⟩ := h
  change oLower ds = some d at e
  unfold oLower at e
  split at e
  · obtain ⟨p, e1, rp⟩ := r.inv1
    cases e1
    split at e
    · rename_i hc
      cases e
      exact ⟨_, rv_str.mp rp, rfl, by rw [len_ofString]; exact hc.1, by rw [lower_str hc.2]; exact k _ _ (post_rd (rd_str.mpr rfl) rfl)⟩
    · cases e
  · cases e
theorem r_isupper : MtR X "str.isupper" (rMop X.K .isupper) := by
  refine MtR.imp mt_isupper fun x xs H Q h => ?_
  obtain ⟨Z, ds, d, r, e, k⟩ := h
  change oIsup ds = some d at e
  unfold oIsup at e
  split at e
  · obtain ⟨p, e1, rp⟩ := r.inv1
    cases e1
    split at e
    · rename_i hc
      cases e
      exact ⟨_, rv_str.mp rp, rfl, trivial, by rw [isupper_str hc]; exact k _ _ (post_rd (rd_bl.mpr rfl) rfl)⟩
    · cases e
  · cases e
theorem r_islower : MtR X "str.islower" (rMop X.K .islower) := by
  refine MtR.imp mt_islower fun x xs H Q h => ?_
  obtain ⟨Z, ds, d, r, e, k⟩ := h
  change oIslo ds = some d at e
  unfold oIslo at e
  split at e
  · obtain ⟨p, e1, rp⟩ := r.inv1
    cases e1
    split at e
    · rename_i hc
      cases e
      exact ⟨_, rv_str.mp rp, rfl, trivial, by rw [islower_str hc]; exact k _ _ (post_rd (rd_bl.mpr rfl) rfl)⟩
    · cases e
  · cases e
end
end Vm

set_option Elab.async false
set_option linter.all false
set_option maxRecDepth 100000
/-! V8: from the text to the machine's words; an operator's rule by its word. -/
namespace Vm
open PySem PySem.Spec PyProof.Rows L2

/-! ### isinstance -/
def tyN : D → String
  | .non => "NoneType"
  | .bl _ => "bool"
  | .int _ => "int"
  | .str _ => "str"
  | .tup _ => "tuple"
  | .lst _ => "list"
  | .dct _ => "dict"
  | .scr _ => "list"
theorem tyx_of {K : PySem.W.Frag} {H : Hp} {Z : Addr → Prop} {d : D} {x : V} (r : RV K H Z d x) (ns : isScr d = false) : TyX K H x (.type (tyN d)) := by
  cases d with
  | non => rw [rv_non.mp r]; exact .base .non
  | bl b => rw [rv_bl.mp r]; exact .base (.bl b)
  | int i => rw [rv_int.mp r]; exact .base (.int i)
  | str s => rw [rv_str.mp r]; exact .base (.str _)
  | lst xs => obtain ⟨a, vs, rfl, h, _⟩ := rv_lst.mp r; exact .base (.lst h)
  | scr xs => cases ns
  | dct xs =>
    obtain ⟨a, vs, rfl, h, _⟩ := rv_dct.mp r
    rcases h with h | ⟨o, h⟩
    · exact .base (.dK h)
    · exact .fDict h
  | tup xs =>
    obtain ⟨a, vs, rfl, h, _⟩ := rv_tup.mp r
    rcases h with (h | ⟨o, h⟩) | ⟨o, its, n, h, hc, _⟩
    · exact .base (.tup h)
    · exact .fTuple h
    · exact .kTuple h hc
theorem kit_isi (t : Nat) (n : String) (d : D) (h : isiN t = some n) : kitB (tyN d) n = some (isiB t d) := by
  unfold isiN at h
  split at h <;> first | (cases h; done) | skip
  all_goals (cases h; cases d <;> (simp only [tyN, isiB]; decide +kernel))
section
variable {X : Cx} {ta : TE} {a : Expr} {pos : Pos}
theorem r_isi {t : Nat} {n : String} (h : isiN t = some n) : CallR X (.builtin "isinstance") (fun xs H Q => ∃ x, xs = [x, .ty n] ∧ ∃ Z p, RV X.K H Z p x ∧ isScr p = false ∧ Q (.bl (isiB t p)) H) := by
  refine CallR.imp call_isi fun xs H Q ⟨x, e, Z, p, r, ns, q⟩ => ?_
  exact ⟨x, .ty n, _, _, _, e, .ty n, tyx_of r ns, kit_ty (kit_isi t n p h), q⟩
theorem kit5 (K : PySem.W.Frag) (d : D) : PySem.W.kitAny K (.type (tyN d)) [.type "list", .type "tuple"] = some (isiB 3 d || isiB 4 d) := by
  refine kitAny_cons (kit_ty (kit_isi 3 "list" d rfl)) (fun h => ?_) (fun h => by rw [h]; rfl)
  rw [h, Bool.false_or]
  exact kitAny_cons (kit_ty (kit_isi 4 "tuple" d rfl)) (fun h => by rw [h]; rfl) fun h => by rw [h]
theorem r_isi5 : CallR X (.builtin "isinstance") (fun xs H Q => ∃ x tp, xs = [x, .ref tp] ∧ H tp = some (.tup [.ty "list", .ty "tuple"]) ∧ ∃ Z p, RV X.K H Z p x ∧ isScr p = false ∧ Q (.bl (isiB 3 p || isiB 4 p)) H) := by
  refine CallR.imp call_isiT fun xs H Q ⟨x, tp, e, ht, Z, p, r, ns, q⟩ => ?_
  exact ⟨x, tp, _, _, [.type "list", .type "tuple"], _, e, ht, .cons (.ty _) (.cons (.ty _) .nil), tyx_of r ns, kit5 X.K p, q⟩
end

/-! ### readings in a row -/
inductive PEL (X : Cx) : List Expr → List TE → Prop
  | nil : PEL X [] []
  | cons {e : Expr} {t : TE} {es : List Expr} {ts : List TE} : plainH e = true → PE X e t → PEL X es ts → PEL X (e :: es) (t :: ts)
def tCh : List TE → TA
  | [] => tNil
  | t :: ts => tCons t (tCh ts)
theorem PEL.pa {X : Cx} : ∀ {es : List Expr} {ts : List TE}, PEL X es ts → PA X es (tCh ts)
  | _, _, .nil => pa_nil
  | _, _, .cons p h r => pa_cons h r.pa (star_cons p _ _)
theorem PEL.plain {X : Cx} : ∀ {es : List Expr} {ts : List TE}, PEL X es ts → ∀ e ∈ es, plainH e = true
  | _, _, .nil, _, h => by cases h
  | _, _, .cons p _ r, e, h => by
    rcases List.mem_cons.mp h with rfl | h
    · exact p
    · exact r.plain e h
theorem star_all {env : PySem.Env} : ∀ {l : List Expr}, (∀ x ∈ l, plainH x = true) → starEach l env = l.map fun x => (false, eval x env)
  | [], _ => rfl
  | a :: l, h => by
    rw [star_cons (h a List.mem_cons_self), star_all fun x hx => h x (List.mem_cons_of_mem _ hx)]
    rfl
theorem nostar {env : PySem.Env} {pos : Pos} {l : List Expr} (h : ∀ x ∈ l, plainH x = true) : (backTo pos (starEach l env)).any (·.1) = false := by
  rw [star_all h]
  unfold backTo
  rw [List.any_eq_false]
  intro y hy
  obtain ⟨z, hz, rfl⟩ := List.mem_map.mp hy
  obtain ⟨w, _, rfl⟩ := List.mem_map.mp hz
  exact Bool.false_ne_true

/-! ### the text's operands -/
def visC (sc : Scope) (x : Str) : Bool := match sc.names.lookup x with
  | some .local => true | some .cell => true | some .free => true
  | _ => false
def glC (sc : Scope) (x : Str) : Bool := decide (sc.names.lookup x = some .globalImplicit)
theorem vis_of {sc : Scope} {x : Str} (h : visC sc x = true) : Vis sc x := by
  unfold visC at h
  split at h <;> first | exact .inl (by assumption) | exact .inr (.inl (by assumption)) | exact .inr (.inr (by assumption)) | cases h
def binO : OpK → Option Operator
  | .add => some .Add | .sub => some .Sub | .mul => some .Mult | .fdv => some .FloorDiv | .mod => some .Mod | .pow => some .Pow
  | _ => none
def cmpO : OpK → Option CmpOp
  | .lt => some .Lt | .le => some .LtE | .gt => some .Gt | .ge => some .GtE | .eq => some .Eq | .ne => some .NotEq | .inn => some .In | .nin => some .NotIn
  | _ => none
/-- built-ins called by their names: the name, how many arguments -/
def bltO : OpK → Option (String × Nat)
  | .len => some ("len", 1) | .all1 => some ("all", 1) | .any1 => some ("any", 1) | .sum1 => some ("sum", 1) | .mn1 => some ("min", 1) | .mx1 => some ("max", 1)
  | .mn2 => some ("min", 2) | .mx2 => some ("max", 2) | .lst1 => some ("list", 1) | .tup1 => some ("tuple", 1) | .int1 => some ("int", 1) | .str1 => some ("str", 1) | .dct1 => some ("dict", 1)
  | _ => none
def isTyName (sc : Scope) (n : String) : Expr → Bool
  | .Name x _ => decide (x = Str.ofString n) && glC sc (Str.ofString n)
  | _ => false
def opArgs0 (f : OpK) (sc : Scope) (ex : Expr) : Option (List Expr) := match ex with
  | .BinOp l o r _ => if binO f = some o then some [l, r] else none
  | .UnaryOp .USub a _ => if f = .neg then some [a] else none
  | .Compare l [o] [r] _ => if cmpO f = some o then some [l, r] else match r with
    | .Constant .none _ _ => if (f = .isN ∧ o = .Is) ∨ (f = .noN ∧ o = .IsNot) then some [l] else none
    | _ => none
  | .Call (.Name x _) args [] _ => match f with
    | .isi 5 => match args with
      | [a, .Tuple [b, c] _ _] => if x = Str.ofString "isinstance" ∧ glC sc (Str.ofString "isinstance") = true ∧ isTyName sc "list" b = true ∧ isTyName sc "tuple" c = true then some [a] else none
      | _ => none
    | .isi t => match args, isiN t with
      | [a, b], some n => if x = Str.ofString "isinstance" ∧ glC sc (Str.ofString "isinstance") = true ∧ isTyName sc n b = true then some [a] else none
      | _, _ => none
    | f => match bltO f with
      | some (n, k) => if x = Str.ofString n ∧ glC sc (Str.ofString n) = true ∧ args.length = k then some args else none
      | none => none
  | .Subscript a (.Slice none none (some (.UnaryOp .USub (.Constant (.int 1) _ _) _)) _) _ => if f = .srev then some [a] else none
  | .Subscript a i _ => if f = .idx then some [a, i] else none
  | _ => none
def opArgs (N : List Str) (f : OpK) (sc : Scope) (ex : Expr) : Option (List Expr) := match f with
  | .tab n => match ex with
    | .Subscript (.Name x _) k _ => if x = Str.ofString n ∧ glC sc (Str.ofString n) = true ∧ N.contains (Str.ofString n) = true ∧ isTab n = true ∧ plainH k = true then some [k] else none
    | _ => none
  | .lrg => match ex with
    | .Call (.Name x _) [.Call (.Name y _) [a] [] _] [] _ => if x = Str.ofString "list" ∧ glC sc (Str.ofString "list") = true ∧ y = Str.ofString "range" ∧ glC sc (Str.ofString "range") = true then some [a] else none
    | _ => none
  | .inT n => match ex with
    | .Compare k [.In] [.Name x _] _ => if x = Str.ofString n ∧ glC sc (Str.ofString n) = true ∧ N.contains (Str.ofString n) = true ∧ isTab n = true then some [k] else none
    | _ => none
  | .ninT n => match ex with
    | .Compare k [.NotIn] [.Name x _] _ => if x = Str.ofString n ∧ glC sc (Str.ofString n) = true ∧ N.contains (Str.ofString n) = true ∧ isTab n = true then some [k] else none
    | _ => none
  | f => opArgs0 f sc ex
/-- operators with a form of their own -/
def spO : OpK → Bool
  | .tab _ | .lrg | .inT _ | .ninT _ => true
  | _ => false
theorem opArgs_ne {N : List Str} {f : OpK} {sc : Scope} {ex : Expr} (h : spO f = false) : opArgs N f sc ex = opArgs0 f sc ex := by
  cases f <;> first | rfl | cases h
/-- a method's name, its class -/
def mthO : OpK → Option (String × String)
  | .upper => some ("str", "upper") | .lower => some ("str", "lower") | .isupper => some ("str", "isupper") | .islower => some ("str", "islower")
  | .join => some ("str", "join") | .get1 => some ("dict", "get") | .get2 => some ("dict", "get") | .split => some ("str", "split")
  | _ => none
def isCall0 : Expr → Bool
  | .Call _ [] [] _ => true
  | _ => false
def mopArgs (f : OpK) (ex : Expr) : Option (Expr × List Expr) := match ex with
  | .Call (.Attribute o m apos) args [] cpos => match mthO f with
    | some (_, n) => if m = Str.ofString n ∧ (apos.endLine == cpos.line) = true ∧ isCall0 o = false ∧ args.length ≤ 3 then some (o, args) else none
    | none => none
  | _ => none

section
variable {X : Cx} {sc : Scope} {N : List Str} {glob : String → Option D} {ex : Expr} {f : OpK} {l : List Expr} {ts : List TE}
theorem CxOk.glx (C : CxOk X sc N glob) {x : Str} (h : glC sc x = true) : Gl X x := by
  show X.env.scope.names.lookup x = _
  rw [C.sc]
  exact of_decide_eq_true h
theorem isi_not5 {t : Nat} {n : String} (h : isiN t = some n) : t ≠ 5 := by rintro rfl; cases h
/-- one of the built-ins by its name -/
theorem blt_rule (C : CxOk X sc N glob) {n : String} {k : Nat} (hb : bltO f = some (n, k)) (hg : glC sc (Str.ofString n) = true) {p pos : Pos} (h : PEL X l ts) (hl : l.length = k) :
    PE X (.Call (.Name (Str.ofString n) p) l [] pos) (fun σ H Q => tCh ts σ H fun vs H' => rOp X.K f vs H' Q) := by
  cases h with
  | nil => cases f <;> first | (cases hb; done) | (cases hb; cases hl)
  | @cons e t es ts hp he hr =>
    have hpl := hr.plain
    have ha := (PEL.cons hp he hr).pa
    have st := star_cons hp es X.env
    have ns := nostar (env := X.env) (pos := pos) hpl
    have G := C.glx hg
    have bnm := C.bn
    cases f <;> first | (cases hb; done) | skip
    all_goals (cases hb)
    · exact pe_callB r_len G (bnm _ (by decide)) boot_len ha (by decide) (by decide) st ns
    · exact pe_callB (r_all C.calm) G (bnm _ (by decide)) boot_all ha (by decide) (by decide) st ns
    · exact pe_callB (r_any C.calm) G (bnm _ (by decide)) boot_any ha (by decide) (by decide) st ns
    · exact pe_callB (r_sum C.calm) G (bnm _ (by decide)) boot_sum ha (by decide) (by decide) st ns
    · exact pe_callB (r_mn1 C.calm) G (bnm _ (by decide)) boot_min ha (by decide) (by decide) st ns
    · exact pe_callB (r_mx1 C.calm) G (bnm _ (by decide)) boot_max ha (by decide) (by decide) st ns
    · exact pe_callB (r_mn2 C.calm) G (bnm _ (by decide)) boot_min ha (by decide) (by decide) st ns
    · exact pe_callB (r_mx2 C.calm) G (bnm _ (by decide)) boot_max ha (by decide) (by decide) st ns
    · exact pe_callTy (r_lst C.calm) G (bnm _ (by decide)) PyProof.Rows.boot_list ha (by decide) (by decide) st ns
    · exact pe_callTy r_tup G (bnm _ (by decide)) PyProof.Rows.boot_tuple ha (by decide) (by decide) st ns
    · exact pe_callTy r_int G (bnm _ (by decide)) PyProof.Rows.boot_int ha (by decide) (by decide) st ns
    · exact pe_callTy r_str G (bnm _ (by decide)) PyProof.Rows.boot_str ha (by decide) (by decide) st ns
    · exact pe_callTy r_dct G (bnm _ (by decide)) PyProof.Rows.boot_dict ha (by decide) (by decide) st ns
theorem PEL.inv1 {a : Expr} (h : PEL X [a] ts) : ∃ t, ts = [t] ∧ plainH a = true ∧ PE X a t := by
  cases h with
  | cons p h r => cases r; exact ⟨_, rfl, p, h⟩
theorem PEL.inv2 {a b : Expr} (h : PEL X [a, b] ts) : ∃ t u, ts = [t, u] ∧ plainH a = true ∧ PE X a t ∧ plainH b = true ∧ PE X b u := by
  cases h with
  | cons p h r =>
    obtain ⟨u, rfl, q, g⟩ := r.inv1
    exact ⟨_, _, rfl, p, h, q, g⟩
theorem tyName_of {n : String} {b : Expr} (h : isTyName sc n b = true) : ∃ p, b = .Name (Str.ofString n) p ∧ glC sc (Str.ofString n) = true := by
  cases b <;> first | (cases h; done) | skip
  unfold isTyName at h
  rw [Bool.and_eq_true, decide_eq_true_eq] at h
  exact ⟨_, by rw [h.1], h.2⟩
theorem pe_ty (C : CxOk X sc N glob) {n : String} (hn : n ∈ ["bool", "int", "str", "list", "tuple"]) (hg : glC sc (Str.ofString n) = true) {p : Pos} : PE X (.Name (Str.ofString n) p) (tC (.ty n)) := by
  have bnm := C.bn
  simp only [List.mem_cons, List.not_mem_nil, or_false] at hn
  rcases hn with rfl | rfl | rfl | rfl | rfl
  · exact pe_bltn (C.glx hg) (bnm _ (by decide)) PyProof.Rows.boot_bool rfl (by decide) (by decide)
  · exact pe_bltn (C.glx hg) (bnm _ (by decide)) PyProof.Rows.boot_int rfl (by decide) (by decide)
  · exact pe_bltn (C.glx hg) (bnm _ (by decide)) PyProof.Rows.boot_str rfl (by decide) (by decide)
  · exact pe_bltn (C.glx hg) (bnm _ (by decide)) PyProof.Rows.boot_list rfl (by decide) (by decide)
  · exact pe_bltn (C.glx hg) (bnm _ (by decide)) PyProof.Rows.boot_tuple rfl (by decide) (by decide)
theorem isi_rule (C : CxOk X sc N glob) {t : Nat} {n : String} (hi : isiN t = some n) (h1 : glC sc (Str.ofString "isinstance") = true) {a : Expr} {ta : TE} (pa : plainH a = true) (he : PE X a ta) {p q pos : Pos}
    (h2 : glC sc (Str.ofString n) = true) : PE X (.Call (.Name (Str.ofString "isinstance") p) [a, .Name (Str.ofString n) q] [] pos) (fun σ H Q => tCh [ta] σ H fun vs H' => rOp X.K (.isi t) vs H' Q) := by
  have hn : n ∈ ["bool", "int", "str", "list", "tuple"] := by
    unfold isiN at hi
    split at hi <;> first | (cases hi; decide) | (cases hi; done)
  have ht : t < 5 := by
    unfold isiN at hi
    split at hi <;> first | (cases hi; decide) | (cases hi; done)
  have ha : PA X [a, .Name (Str.ofString n) q] (tCons (up ta) (tCons (tC (.ty n)) tNil)) := pa_cons (Vm.PE.up he) (pa_cons (pe_ty C hn h2) pa_nil (star1 rfl _)) (star_cons pa _ _)
  refine PE.mono (pe_callB (r_isi hi) (C.glx h1) (C.bn _ (by decide)) PyProof.Rows.boot_isinstance ha (by decide) (by decide) (star_cons pa _ _) (nostar (by simp [plainH]))) fun σ H Q h => ?_
  refine up_of h fun x H1 hh => ?_
  obtain ⟨Z, ds, d, r, e, k⟩ := hh
  obtain ⟨p, rfl, rp⟩ := RVs.one r
  change oIsi t [p] = some d at e
  simp only [oIsi] at e
  have hs : isScr p = false := by
    cases q : isScr p with
    | false => rfl
    | true => simp [q] at e
  rw [if_neg (by rw [hs]; exact Bool.false_ne_true), if_neg (show ¬ t = 5 by omega), if_pos ht] at e
  cases e
  exact ⟨x, rfl, Z, p, rp, hs, k _ _ post_bl⟩
theorem isi5_rule (C : CxOk X sc N glob) (h1 : glC sc (Str.ofString "isinstance") = true) {a : Expr} {ta : TE} (pa : plainH a = true) (he : PE X a ta) {p q1 q2 q3 pos : Pos} {kk : Nat}
    (h2 : glC sc (Str.ofString "list") = true) (h3 : glC sc (Str.ofString "tuple") = true) :
    PE X (.Call (.Name (Str.ofString "isinstance") p) [a, .Tuple [.Name (Str.ofString "list") q1, .Name (Str.ofString "tuple") q2] kk q3] [] pos) (fun σ H Q => tCh [ta] σ H fun vs H' => rOp X.K (.isi 5) vs H' Q) := by
  have ht : PE X (.Tuple [.Name (Str.ofString "list") q1, .Name (Str.ofString "tuple") q2] kk q3) (tTup (tCons (tC (.ty "list")) (tCons (tC (.ty "tuple")) tNil))) :=
    pe_tup (pa_cons (pe_ty C (by decide) h2) (pa_cons (pe_ty C (by decide) h3) pa_nil (star1 rfl _)) (star_cons rfl _ _))
  have ha : PA X [a, .Tuple [.Name (Str.ofString "list") q1, .Name (Str.ofString "tuple") q2] kk q3] (tCons (up ta) (tCons (tTup (tCons (tC (.ty "list")) (tCons (tC (.ty "tuple")) tNil))) tNil)) :=
    pa_cons (Vm.PE.up he) (pa_cons ht pa_nil (star1 rfl _)) (star_cons pa _ _)
  refine PE.mono (pe_callB r_isi5 (C.glx h1) (C.bn _ (by decide)) PyProof.Rows.boot_isinstance ha (by decide) (by decide) (star_cons pa _ _) (nostar (by simp [plainH]))) fun σ H Q h => ?_
  refine up_of h fun x H1 hh => ?_
  obtain ⟨Z, ds, d, r, e, k⟩ := hh
  obtain ⟨p, rfl, rp⟩ := RVs.one r
  change oIsi 5 [p] = some d at e
  simp only [oIsi, if_true] at e
  have hs : isScr p = false := by
    cases q : isScr p with
    | false => rfl
    | true => simp [q] at e
  rw [if_neg (by rw [hs]; exact Bool.false_ne_true)] at e
  cases e
  refine ⟨by show 2 ≤ sizeLine; decide, fun tp hp => ⟨x, tp, rfl, upd_same, Z, p, rp.grow ⟨same_new hp, fun _ z => z, fun _ z => .inl z⟩, hs, ?_⟩⟩
  exact k _ _ ⟨same_new hp, .inl ⟨rd_bl.mpr rfl, fun _ => rfl⟩⟩
/-- THE OPERATORS -/
theorem op_rule0 (C : CxOk X sc N glob) (h : opArgs0 f sc ex = some l) (p : PEL X l ts) : PE X ex (fun σ H Q => tCh ts σ H fun vs H' => rOp X.K f vs H' Q) := by
  unfold opArgs0 at h
  split at h
  · split at h
    · rename_i hb
      cases h
      obtain ⟨t, u, rfl, p1, h1, p2, h2⟩ := p.inv2
      cases f <;> first | (cases hb; done) | skip
      all_goals cases hb
      · exact pe_op r_add h1 h2
      · exact pe_op r_sub h1 h2
      · exact pe_op r_mul h1 h2
      · exact pe_op r_fdv h1 h2
      · exact pe_op r_mod h1 h2
      · exact pe_op r_pow h1 h2
    · cases h
  · split at h
    · rename_i hb
      cases h
      subst hb
      obtain ⟨t, rfl, p1, h1⟩ := p.inv1
      exact pe_un r_neg h1
    · cases h
  · split at h
    · rename_i hb
      cases h
      obtain ⟨t, u, rfl, p1, h1, p2, h2⟩ := p.inv2
      have hm := mark_of p2
      cases f <;> first | (cases hb; done) | skip
      all_goals cases hb
      · exact pe_cmpR (r_cmp op_lt rfl) h1 h2 (hm _)
      · exact pe_cmpR (r_cmp op_le rfl) h1 h2 (hm _)
      · exact pe_cmpR (r_cmp op_gt rfl) h1 h2 (hm _)
      · exact pe_cmpR (r_cmp op_ge rfl) h1 h2 (hm _)
      · exact pe_cmpR (r_eq C.hu) h1 h2 (hm _)
      · exact pe_cmpR (r_ne C.hu) h1 h2 (hm _)
      · exact pe_cmpR (r_inn C.hu) h1 h2 (hm _)
      · exact pe_cmpR (r_nin C.hu) h1 h2 (hm _)
    · split at h
      · split at h
        · rename_i hb
          cases h
          obtain ⟨t, rfl, p1, h1⟩ := p.inv1
          rcases hb with ⟨rfl, rfl⟩ | ⟨rfl, rfl⟩
          · exact PE.mono (pe_cmpR r_isN (Vm.PE.up h1) pe_non (nomark _)) fun σ H Q h => up_of h fun x H1 q => ⟨rfl, q⟩
          · exact PE.mono (pe_cmpR r_noN (Vm.PE.up h1) pe_non (nomark _)) fun σ H Q h => up_of h fun x H1 q => ⟨rfl, q⟩
        · cases h
      · cases h
  · split at h
    · split at h
      · split at h
        · rename_i hc
          cases h
          obtain ⟨rfl, h1, h2, h3⟩ := hc
          obtain ⟨q1, rfl, g1⟩ := tyName_of h2
          obtain ⟨q2, rfl, g2⟩ := tyName_of h3
          obtain ⟨t, rfl, p1, he⟩ := p.inv1
          exact isi5_rule C h1 p1 he g1 g2
        · cases h
      · cases h
    · split at h
      · split at h
        · rename_i hi _ hc
          cases h
          obtain ⟨rfl, h1, h2⟩ := hc
          obtain ⟨q1, rfl, g1⟩ := tyName_of h2
          obtain ⟨t, rfl, p1, he⟩ := p.inv1
          exact isi_rule C (by assumption) h1 p1 he g1
        · cases h
      · cases h
    · split at h
      · split at h
        · rename_i hb _ hc
          cases h
          obtain ⟨rfl, h1, h2⟩ := hc
          exact blt_rule C (by assumption) h1 p h2
        · cases h
      · cases h
  · split at h
    · rename_i hb
      cases h
      subst hb
      obtain ⟨t, rfl, p1, h1⟩ := p.inv1
      exact r_rev h1
    · cases h
  · split at h
    · rename_i hb
      cases h
      subst hb
      obtain ⟨t, u, rfl, p1, h1, p2, h2⟩ := p.inv2
      exact pe_ix (r_idx C.hu) h1 h2 (ix_of p2)
    · cases h
  · cases h
theorem rd_ofK {K : PySem.W.Frag} {H : Hp} {Z : Addr → Prop} (k : KD) : RD K H Z (ofK k) (kV (toK k)) := by
  cases k with
  | inl i => exact rd_int.mpr rfl
  | inr s => exact rd_str.mpr rfl
theorem rgV_rd {K : PySem.W.Frag} {H : Hp} {Z : Addr → Prop} : ∀ (a : Int) (n : Nat), RDs K H Z (rangeD a n) ((List.range n).map fun i => V.int (a + (i : Nat)))
  | a, 0 => RDs.nil_iff.mpr rfl
  | a, n + 1 => by
    have := rgV_rd (K := K) (H := H) (Z := Z) (a + 1) n
    rw [List.range_succ_eq_map, List.map_cons, List.map_map]
    refine RDs.mk (rd_int.mpr (by simp)) ?_
    have e : (List.range n).map ((fun i : Nat => V.int (a + (i : Nat))) ∘ Nat.succ) = (List.range n).map fun i => V.int (a + 1 + (i : Nat)) := List.map_congr_left fun i _ => by
      show V.int (a + ((i + 1 : Nat) : Int)) = V.int (a + 1 + (i : Nat))
      congr 1; omega
    rw [e]
    exact this
theorem lrg_rule (C : CxOk X sc N glob) (h : opArgs N .lrg sc ex = some l) (p : PEL X l ts) : PE X ex (fun σ H Q => tCh ts σ H fun vs H' => rOp X.K .lrg vs H' Q) := by
  simp only [opArgs] at h
  split at h
  · rename_i x px y py a pp pos
    split at h
    · rename_i hc
      obtain ⟨rfl, h1, rfl, h2⟩ := hc
      cases h
      obtain ⟨t, rfl, p1, he⟩ := p.inv1
      refine PE.mono (pe_listRg C.calm (C.glx h1) (C.bn _ (by decide)) (prg_1 (C.glx h2) (C.bn _ (by decide)) (Vm.PE.up he) (star1 p1 _)) (star1 rfl _)) fun σ H Q hh => ?_
      refine up_of hh fun x H1 ⟨Z, ds, d, r, e, k⟩ => ?_
      obtain ⟨q, rfl, rp⟩ := RVs.one r
      change oLrg [q] = some d at e
      unfold oLrg at e
      split at e
      · rename_i n e1
        injection e1 with e1 _
        subst e1
        split at e
        · rename_i hb
          cases e
          refine ⟨n, rv_int.mp rp, ⟨by omega, by omega, by omega, by omega, by omega⟩, fun q hq => k _ _ (post_lst hq ?_)⟩
          unfold rgV
          rw [Int.sub_zero]
          exact rgV_rd 0 n.toNat
        · cases e
      · cases e
    · cases h
  · cases h
theorem inT_pe (C : CxOk X sc N glob) {n : String} (h2 : glC sc (Str.ofString n) = true) (h4 : isTab n = true) (hm : ∃ p, X.mg (Str.ofString n) = some (.ref p)) {px : Pos} : ∃ p, X.mg (Str.ofString n) = some (.ref p) ∧ PE X (.Name (Str.ofString n) px) (tC (.ref p)) := by
  obtain ⟨a, ha⟩ := hm
  exact ⟨a, ha, pe_glob (C.glx h2) ha rfl (by
    unfold isTab at h4
    simp only [Bool.or_eq_true, beq_iff_eq] at h4
    rcases h4 with (rfl | rfl) | rfl <;> decide +kernel)⟩
theorem in_tab (C : CxOk X sc N glob) {n : String} (h3 : N.contains (Str.ofString n) = true) (h4 : isTab n = true) :
    ∃ p, X.mg (Str.ofString n) = some (.ref p) ∧ (∀ {o : CmpOp} {neg : Bool}, (o = .In ∧ neg = false) ∨ (o = .NotIn ∧ neg = true) → OpR X (compareOp o) (fun x y H Q => (∃ s, x = .str (Str.ofString s) ∧ y = .ref p ∧ Q (.bl (neg ^^ (lkT (tabOf n) s).isSome)) H))) := by
  obtain ⟨p, hp, t1, t2⟩ := C.tb n h4 h3
  obtain ⟨es, m, hl, hk, hlow, -⟩ : ∃ es m, X.K.lookup p = some ⟨.type "dict", none, .dict es m, #[]⟩ ∧ PySem.W.KeysLit X.w.params es.toList ∧ (p == sysModules) = false ∧ True := by
    have : ∃ s, lkT (tabOf n) s = none := by
      unfold isTab at h4
      simp only [Bool.or_eq_true, beq_iff_eq] at h4
      rcases h4 with (rfl | rfl) | rfl <;> exact ⟨"", by decide +kernel⟩
    obtain ⟨s, hs⟩ := this
    obtain ⟨es, m, a, b, c, _⟩ := t2 s hs
    exact ⟨es, m, a, b, c, trivial⟩
  have D : KDict X.K X.w p es m := ⟨hl, hk, hlow⟩
  have ns : ∀ s, ∃ r, PySem.W.nsIn X.K p (Str.ofString s) = some r ∧ r.isSome = (lkT (tabOf n) s).isSome := by
    intro s
    cases hs : lkT (tabOf n) s with
    | none => obtain ⟨es, m, _, _, _, e⟩ := t2 s hs; exact ⟨none, e, rfl⟩
    | some k => obtain ⟨es, m, u, _, _, e, _⟩ := t1 s k hs; exact ⟨some u, e, rfl⟩
  refine ⟨p, hp, ?_⟩
  rintro o neg (⟨rfl, rfl⟩ | ⟨rfl, rfl⟩)
  · intro pins s σ H x y v u Q I rx ry h
    obtain ⟨z, rfl, rfl, q⟩ := h
    obtain ⟨r, e, er⟩ := ns z
    exact op_in_kd D pins s σ H _ _ v u Q I rx ry ⟨_, r, rfl, rfl, e, by rw [er]; simpa using q⟩
  · intro pins s σ H x y v u Q I rx ry h
    obtain ⟨z, rfl, rfl, q⟩ := h
    obtain ⟨r, e, er⟩ := ns z
    exact op_notIn_kd D pins s σ H _ _ v u Q I rx ry ⟨_, r, rfl, rfl, e, by rw [er]; simpa using q⟩
theorem inT_args {n : String} {neg : Bool} (h : opArgs N (if neg = true then .ninT n else .inT n) sc ex = some l) : ∃ k x px pos, ex = .Compare k [if neg = true then .NotIn else .In] [.Name x px] pos ∧ l = [k] ∧ x = Str.ofString n ∧ glC sc (Str.ofString n) = true ∧ N.contains (Str.ofString n) = true ∧ isTab n = true := by
  cases neg <;> simp only [Bool.false_eq_true, if_false, if_true, opArgs] at h ⊢ <;> split at h
  · rename_i k x px pos
    split at h
    · rename_i hc
      cases h
      exact ⟨k, x, px, pos, rfl, rfl, hc.1, hc.2.1, hc.2.2.1, hc.2.2.2⟩
    · cases h
  · cases h
  · rename_i k x px pos
    split at h
    · rename_i hc
      cases h
      exact ⟨k, x, px, pos, rfl, rfl, hc.1, hc.2.1, hc.2.2.1, hc.2.2.2⟩
    · cases h
  · cases h
theorem inT_rop {n : String} {neg : Bool} {K : PySem.W.Frag} {x : V} {H : Hp} {Q : VK} (h : rOp K (if neg = true then .ninT n else .inT n) [x] H Q) : ∃ s, x = .str (Str.ofString s) ∧ Q (.bl (neg ^^ (lkT (tabOf n) s).isSome)) H := by
  obtain ⟨Z, ds, d, r, e, k⟩ := h
  obtain ⟨q, rfl, rp⟩ := RVs.one r
  have e2 : oInT neg n [q] = some d := by cases neg <;> exact e
  unfold oInT at e2
  split at e2
  · rename_i s e1
    injection e1 with e1 _
    subst e1
    cases e2
    exact ⟨s, rv_str.mp rp, k _ _ post_bl⟩
  · cases e2
theorem inT_rule (C : CxOk X sc N glob) {n : String} {neg : Bool} (h : opArgs N (if neg = true then .ninT n else .inT n) sc ex = some l) (p : PEL X l ts) : PE X ex (fun σ H Q => tCh ts σ H fun vs H' => rOp X.K (if neg = true then .ninT n else .inT n) vs H' Q) := by
  obtain ⟨k, x, px, pos, rfl, rfl, rfl, h2, h3, h4⟩ := inT_args h
  obtain ⟨t, rfl, p1, he⟩ := p.inv1
  obtain ⟨a, ha, rule⟩ := in_tab C h3 h4
  obtain ⟨a', ha', hg⟩ := inT_pe C h2 h4 ⟨a, ha⟩ (px := px)
  rw [ha] at ha'
  cases ha'
  refine PE.mono (pe_cmpR (rule (neg := neg) (by cases neg <;> simp)) (Vm.PE.up he) hg (mark_of (show plainH (.Name (Str.ofString n) px) = true from rfl) _)) fun σ H Q hh => up_of hh fun x H1 q => ?_
  obtain ⟨s, rfl, q2⟩ := inT_rop (K := X.K) (neg := neg) (n := n) (x := x) (H := H1) q
  exact ⟨s, rfl, rfl, q2⟩
theorem inT_ruleT (C : CxOk X sc N glob) {n : String} {neg : Bool} (h : opArgs N (if neg = true then .ninT n else .inT n) sc ex = some l) (p : PEL X l ts) : PT X ex (fun σ H Q => tCh ts σ H fun vs H' => rOp X.K (if neg = true then .ninT n else .inT n) vs H' fun x H'' => ∃ k, x = .bl k ∧ Q k H'') := by
  obtain ⟨k, x, px, pos, rfl, rfl, rfl, h2, h3, h4⟩ := inT_args h
  obtain ⟨t, rfl, p1, he⟩ := p.inv1
  obtain ⟨a, ha, rule⟩ := in_tab C h3 h4
  obtain ⟨a', ha', hg⟩ := inT_pe C h2 h4 ⟨a, ha⟩ (px := px)
  rw [ha] at ha'
  cases ha'
  refine PT.mono (pt_cmpR (rule (neg := neg) (by cases neg <;> simp)) (Vm.PE.up he) hg (mark_of (show plainH (.Name (Str.ofString n) px) = true from rfl) _)) fun σ H Q hh => up_of hh fun x H1 q => ?_
  obtain ⟨s, rfl, q2⟩ := inT_rop (K := X.K) (neg := neg) (n := n) (x := x) (H := H1) q
  exact ⟨s, rfl, rfl, q2⟩
theorem op_rule (C : CxOk X sc N glob) (h : opArgs N f sc ex = some l) (p : PEL X l ts) : PE X ex (fun σ H Q => tCh ts σ H fun vs H' => rOp X.K f vs H' Q) := by
  cases hf : spO f with
  | false =>
    rw [opArgs_ne hf] at h
    exact op_rule0 C h p
  | true =>
    cases f <;> first | (cases hf; done) | skip
    rotate_left
    · exact lrg_rule C h p
    · exact inT_rule (neg := false) C h p
    · exact inT_rule (neg := true) C h p
    rename_i n
    simp only [opArgs] at h
    split at h
    · rename_i x px k pk
      split at h
      · rename_i hc
        obtain ⟨rfl, h2, h3, h4, h5⟩ := hc
        cases h
        obtain ⟨t, rfl, p1, h1⟩ := p.inv1
        obtain ⟨a, ha, tb, -⟩ := C.tb n h4 h3
        have hg : PE X (.Name (Str.ofString n) px) (tC (.ref a)) := pe_glob (C.glx h2) ha rfl (by
          unfold isTab at h4
          simp only [Bool.or_eq_true, beq_iff_eq] at h4
          rcases h4 with (rfl | rfl) | rfl <;> decide +kernel)
        refine PE.mono (pe_ix ix_kdict hg (Vm.PE.up h1) (ix_of h5)) fun σ H Q hh => ?_
        refine up_of hh fun x H1 hh => ?_
        obtain ⟨Z, ds, d, r, e, kk⟩ := hh
        obtain ⟨q, rfl, rp⟩ := RVs.one r
        change oTab n [q] = some d at e
        unfold oTab at e
        split at e
        · rename_i s e1
          injection e1 with e1 _
          subst e1
          obtain ⟨kd, hk, rfl⟩ := Option.map_eq_some_iff.mp e
          exact ⟨a, Str.ofString s, kV (toK kd), rfl, rv_str.mp rp, tb s kd hk, kk _ _ (post_rd (rd_ofK kd) rfl)⟩
        · cases e
      · cases h
    · cases h
/-- a comparison as a test -/
def isCmp : OpK → Bool
  | .lt | .le | .gt | .ge | .eq | .ne | .inn | .nin | .isN | .noN | .inT _ | .ninT _ => true
  | _ => false
theorem op_ruleT (C : CxOk X sc N glob) (hf : isCmp f = true) (h : opArgs N f sc ex = some l) (p : PEL X l ts) :
    PT X ex (fun σ H Q => tCh ts σ H fun vs H' => rOp X.K f vs H' fun x H'' => ∃ k, x = .bl k ∧ Q k H'') := by
  cases hs : spO f with
  | true =>
    cases f <;> first | (cases hs; done) | (cases hf; done) | skip
    · exact inT_ruleT (neg := false) C h p
    · exact inT_ruleT (neg := true) C h p
  | false =>
  rw [opArgs_ne hs] at h
  unfold opArgs0 at h
  split at h
  · split at h
    · rename_i hb
      cases f <;> first | (cases hf; done) | (cases hb; done)
    · cases h
  · split at h
    · rename_i hb
      subst hb
      cases hf
    · cases h
  · split at h
    · rename_i hb
      cases h
      obtain ⟨t, u, rfl, p1, h1, p2, h2⟩ := p.inv2
      have hm := mark_of p2
      cases f <;> first | (cases hb; done) | skip
      all_goals cases hb
      · exact pt_cmpR (r_cmp op_lt rfl) h1 h2 (hm _)
      · exact pt_cmpR (r_cmp op_le rfl) h1 h2 (hm _)
      · exact pt_cmpR (r_cmp op_gt rfl) h1 h2 (hm _)
      · exact pt_cmpR (r_cmp op_ge rfl) h1 h2 (hm _)
      · exact pt_cmpR (r_eq C.hu) h1 h2 (hm _)
      · exact pt_cmpR (r_ne C.hu) h1 h2 (hm _)
      · exact pt_cmpR (r_inn C.hu) h1 h2 (hm _)
      · exact pt_cmpR (r_nin C.hu) h1 h2 (hm _)
    · split at h
      · split at h
        · rename_i hb
          cases h
          obtain ⟨t, rfl, p1, h1⟩ := p.inv1
          rcases hb with ⟨rfl, rfl⟩ | ⟨rfl, rfl⟩
          · exact PT.mono (pt_cmpR r_isN (Vm.PE.up h1) pe_non (nomark _)) fun σ H Q h => up_of h fun x H1 q => ⟨rfl, q⟩
          · exact PT.mono (pt_cmpR r_noN (Vm.PE.up h1) pe_non (nomark _)) fun σ H Q h => up_of h fun x H1 q => ⟨rfl, q⟩
        · cases h
      · cases h
  · split at h
    · cases hf
    · cases hf
    · split at h
      · rename_i hb
        cases f <;> first | (cases hf; done) | (cases hb; done)
      · cases h
  · split at h
    · rename_i hb
      subst hb
      cases hf
    · cases h
  · split at h
    · rename_i hb
      subst hb
      cases hf
    · cases h
  · cases h
end
end Vm

set_option Elab.async false
set_option linter.all false
set_option maxRecDepth 100000
/-! V9: a text and the machine's words for it. -/
namespace Vm
open PySem PySem.Spec PyProof.Rows L2

structure Tb where
  N : List Str
  fn : Nat → Option String
def agK (c : D) : Expr → Bool
  | .Constant k _ _ => match k, c with
    | .int i, .int j => i == j
    | .str s, .str t => decide (s = Str.ofString t)
    | .bool a, .bl b => a == b
    | .none, .non => true
    | _, _ => false
  | _ => false
def agV (N : List Str) (sc : Scope) (i : Nat) : Expr → Bool
  | .Name x _ => decide (N[i]? = some x) && visC sc x && decide ((x == ("__debug__" : Str)) = false) && decide ((x == ("__classdict__" : Str)) = false)
  | _ => false
/-- a target: names stored, all of them in the scope -/
def locC (sc : Scope) (x : Str) : Bool := match sc.names.lookup x with
  | some .local => true | some .cell => true
  | _ => false
mutual
def agT (N : List Str) (sc : Scope) : Tg → Expr → Bool
  | .n i, .Name x _ => decide (N[i]? = some x) && locC sc x
  | .cons a b, .Tuple es _ _ => agTs N sc (.cons a b) es
  | _, _ => false
def agTs (N : List Str) (sc : Scope) : Tg → List Expr → Bool
  | .nil, [] => true
  | .cons a b, e :: es => agT N sc a e && agTs N sc b es
  | _, _ => false
end
/-- the names of a target, with their slots -/
def tgOwn (N : List Str) : Tg → List (Str × Nat)
  | .n i => match N[i]? with
    | some x => [(x, i)]
    | none => []
  | .nil => []
  | .cons a b => tgOwn N a ++ tgOwn N b
def isTup : Expr → Bool
  | .Tuple _ _ _ => true
  | _ => false
def itArgs (k : ItK) (sc : Scope) (tg it : Expr) : Option (List Expr) := match k with
  | .pl => some [it]
  | .rg1 => match it with
    | .Call (.Name x _) [a] [] _ => if x = Str.ofString "range" ∧ glC sc (Str.ofString "range") = true then some [a] else none
    | _ => none
  | .rg2 => match it with
    | .Call (.Name x _) [a, b] [] _ => if x = Str.ofString "range" ∧ glC sc (Str.ofString "range") = true then some [a, b] else none
    | _ => none
  | .en => match it with
    | .Call (.Name x _) [a] [] _ => if x = Str.ofString "enumerate" ∧ glC sc (Str.ofString "enumerate") = true ∧ isTup tg = true then some [a] else none
    | _ => none
  | .zp => match it with
    | .Call (.Name x _) [a, b] [] _ => if x = Str.ofString "zip" ∧ glC sc (Str.ofString "zip") = true ∧ isTup tg = true then some [a, b] else none
    | _ => none
  | .rg3 => none
def keysOf : List (Option Expr) → List Expr → Option (List Expr)
  | [], [] => some []
  | some k :: ks, v :: vs => (keysOf ks vs).map fun r => k :: v :: r
  | _, _ => none
def mopOk : OpK → I → Bool
  | .get2, .cons _ (.cons z .nil) => !lentE z
  | .get2, _ => false
  | _, _ => true
def mutN : MK → String
  | .app => "append" | .pop => "pop" | .pop1 => "pop" | .ext => "extend" | .clr => "clear" | .ins => "insert" | .put => "" | .dpop => "pop"
/-- what may be a test -/
def tstE : I → Bool
  | .var _ => true
  | .op _ _ => true
  | .mop _ _ _ => true
  | .ch _ _ _ _ _ => true
  | .and_ _ => true
  | .or_ _ => true
  | .not_ _ => true
  | .call _ _ => true
  | _ => false
def tstL : I → Bool
  | .cons a r => tstE a && tstL r
  | _ => true
/-- no set display as what is walked -/
def noSet : Expr → Bool
  | .Set _ _ _ => false
  | _ => true

mutual
def agE (T : Tb) : I → Scope → Expr → Bool
  | .var i, sc, ex => agV T.N sc i ex
  | .mv i, sc, ex => agV T.N sc i ex
  | .fv i, sc, ex => agV T.N sc i ex
  | .k c, _, ex => agK c ex
  | .g x, sc, ex => match ex with
    | .Name y _ => decide (y = Str.ofString x) && glC sc (Str.ofString x) && decide ((Str.ofString x == ("__debug__" : Str)) = false)
    | _ => false
  | .op f es, sc, ex => match opArgs T.N f sc ex with
    | some l => agL T es sc l
    | none => false
  | .mop f o es, sc, ex => match mopArgs f ex with
    | some (x, l) => agE T o sc x && agL T es sc l && mopOk f es
    | none => false
  | .slc x lo hi, sc, ex => match ex with
    | .Subscript v (.Slice l h none _) _ => agE T x sc v && agL T lo sc l.toList && agL T hi sc h.toList
    | _ => false
  | .ch f h a b c, sc, ex => match ex with
    | .Compare l [o1, o2] [m, r] _ => decide (cmpO f = some o1) && decide (cmpO h = some o2) && agE T a sc l && agE T b sc m && agE T c sc r
    | _ => false
  | .and_ es, sc, ex => match ex with
    | .BoolOp .And l _ => agL T es sc l && tstL es
    | _ => false
  | .or_ es, sc, ex => match ex with
    | .BoolOp .Or l _ => agL T es sc l && tstL es
    | _ => false
  | .not_ a, sc, ex => match ex with
    | .UnaryOp .Not x _ => agE T a sc x && tstE a
    | _ => false
  | .ite c a b, sc, ex => match ex with
    | .IfExp x y z _ => agE T c sc x && agE T a sc y && agE T b sc z && tstE c
    | _ => false
  | .lst es, sc, ex => match ex with
    | .List l _ => agL T es sc l
    | _ => false
  | .tup es, sc, ex => match ex with
    | .Tuple l _ _ => agL T es sc l
    | _ => false
  | .dic es, sc, ex => match ex with
    | .Dict ks vs _ => match keysOf ks vs with
      | some l => agL T es sc l && decide (ks.length ≤ 15)
      | none => false
    | _ => false
  | .lc elt tg k es ifs, sc, ex => match ex with
    | .ListComp x [⟨t, it, fs, z⟩] scope _ => decide (z = 0) && blkC T.N sc scope (tgOwn T.N tg) && agT T.N scope tg t && noSet it &&
      (match itArgs k sc t it with
        | some l => agL T es sc l
        | none => false) && agE T elt (relS scope sc) x && agL T ifs (relS scope sc) fs && decide (fs.length ≤ 1) && tstL ifs
    | _ => false
  | .call d es, sc, ex => match ex with
    | .Call (.Name x _) l [] _ => (match T.fn d with
      | some n => decide (x = Str.ofString n) && glC sc x && decide ((x == ("__debug__" : Str)) = false)
      | none => false) && agL T es sc l
    | _ => false
  | .mut m i es, sc, ex => match ex with
    | .Call (.Attribute o a apos) l [] cpos => agV T.N sc i o && decide (a = Str.ofString (mutN m)) && (apos.endLine == cpos.line) && decide (l.length ≤ 3) && agL T es sc l
    | _ => false
  | _, _, _ => false
def agL (T : Tb) : I → Scope → List Expr → Bool
  | .nil, _, [] => true
  | .cons a r, sc, e :: es => agE T a sc e && agL T r sc es
  | _, _, _ => false
end

/-! ### what may not stand where -/
theorem agE_plain {T : Tb} {a : I} {sc : Scope} {ex : Expr} (h : agE T a sc ex = true) : plainH ex = true := by
  cases ex <;> first | rfl | skip
  all_goals (cases a <;> first | (simp [agE, agV, agK] at h; done) | skip)
  all_goals (unfold agE at h)
  all_goals first
    | (rename_i f es; cases f <;> first | (simp [opArgs, opArgs0] at h; done))
    | (rename_i f o es; unfold mopArgs at h; simp at h; done)
theorem agL_plain {T : Tb} : ∀ {a : I} {sc : Scope} {l : List Expr}, agL T a sc l = true → ∀ e ∈ l, plainH e = true
  | .nil, _, [], _, _, h => by cases h
  | .cons a r, sc, e :: es, hl, x, h => by
    unfold agL at hl
    rw [Bool.and_eq_true] at hl
    rcases List.mem_cons.mp h with rfl | h
    · exact agE_plain hl.1
    · exact agL_plain hl.2 x h
  | .nil, _, _ :: _, hl, _, _ => by simp [agL] at hl
  | .cons _ _, _, [], hl, _, _ => by simp [agL] at hl
  | .var _, _, _, hl, _, _ => by simp [agL] at hl
  | .mv _, _, _, hl, _, _ => by simp [agL] at hl
  | .fv _, _, _, hl, _, _ => by simp [agL] at hl
  | .k _, _, _, hl, _, _ => by simp [agL] at hl
  | .g _, _, _, hl, _, _ => by simp [agL] at hl
  | .op _ _, _, _, hl, _, _ => by simp [agL] at hl
  | .mop _ _ _, _, _, hl, _, _ => by simp [agL] at hl
  | .slc _ _ _, _, _, hl, _, _ => by simp [agL] at hl
  | .ch _ _ _ _ _, _, _, hl, _, _ => by simp [agL] at hl
  | .and_ _, _, _, hl, _, _ => by simp [agL] at hl
  | .or_ _, _, _, hl, _, _ => by simp [agL] at hl
  | .not_ _, _, _, hl, _, _ => by simp [agL] at hl
  | .ite _ _ _, _, _, hl, _, _ => by simp [agL] at hl
  | .lst _, _, _, hl, _, _ => by simp [agL] at hl
  | .tup _, _, _, hl, _, _ => by simp [agL] at hl
  | .dic _, _, _, hl, _, _ => by simp [agL] at hl
  | .lc _ _ _ _ _, _, _, hl, _, _ => by simp [agL] at hl
  | .call _ _, _, _, hl, _, _ => by simp [agL] at hl
  | .mut _ _ _, _, _, hl, _, _ => by simp [agL] at hl
end Vm

set_option Elab.async false
set_option linter.all false
set_option maxRecDepth 100000
/-! V10: what is walked. -/
namespace Vm
open PySem PySem.Spec PyProof.Rows L2

/-- J yields the items xs, as long as what is never changed stands -/
def WkD (fz : Bool) (K : PySem.W.Frag) (J : It) (xs : List D) (H1 : Hp) (Z1 : Addr → Prop) : Prop := ∀ (i : Nat) (H : Hp) (Z : Addr → Prop), Still H1 Z1 H Z → (fz = false → Same H1 H) → (∀ b, Z b → H b ≠ none) →
  (∀ d, xs[i]? = some d → J.go i H ∧ ∀ x H', J.yld i H x H' → Grow H Z H' Z ∧ RD K H' Z d x) ∧ (i = xs.length → J.stop i H)
/-- frozen operands -/
def RDl (K : PySem.W.Frag) (H : Hp) (Z : Addr → Prop) : List D → List V → Prop := RDs K H Z

theorem PI.mono {X : Cx} {tg it : Expr} {t t' : TI} (h : PI X tg it t) (m : ∀ σ H R, t' σ H R → t σ H R) : PI X tg it t' := ⟨fun pins s σ H R I q => h.run pins s σ H R I (m σ H R q)⟩
section
variable {fz : Bool} {K : PySem.W.Frag} {H H' : Hp} {Z Z' : Addr → Prop}
theorem rangeD_get : ∀ (a : Int) (n i : Nat) (d : D), (rangeD a n)[i]? = some d → i < n ∧ d = .int (a + i)
  | a, 0, i, d, h => by simp [rangeD] at h
  | a, n + 1, 0, d, h => by simp [rangeD] at h; subst h; simp
  | a, n + 1, i + 1, d, h => by
    simp only [rangeD, List.getElem?_cons_succ] at h
    obtain ⟨h1, h2⟩ := rangeD_get (a + 1) n i d h
    refine ⟨by omega, ?_⟩
    rw [h2]
    congr 1
    omega
theorem rangeD_length : ∀ (a : Int) (n : Nat), (rangeD a n).length = n
  | a, 0 => rfl
  | a, n + 1 => by simp [rangeD, rangeD_length]
theorem enumD_get : ∀ (xs : List D) (k i : Nat) (d : D), (enumD k xs)[i]? = some d → ∃ x, xs[i]? = some x ∧ d = .tup [.int ((k + i : Nat) : Int), x]
  | [], k, i, d, h => by simp [enumD] at h
  | x :: xs, k, 0, d, h => by simp [enumD] at h; exact ⟨x, rfl, by rw [← h]; rfl⟩
  | x :: xs, k, i + 1, d, h => by
    simp only [enumD, List.getElem?_cons_succ] at h
    obtain ⟨y, h1, h2⟩ := enumD_get xs (k + 1) i d h
    exact ⟨y, by simpa using h1, by rw [h2]; congr 4; omega⟩
theorem enumD_length : ∀ (xs : List D) (k : Nat), (enumD k xs).length = xs.length
  | [], k => rfl
  | x :: xs, k => by simp [enumD, enumD_length]
theorem zipD_get : ∀ (xs ys : List D) (i : Nat) (d : D), (zipD xs ys)[i]? = some d → ∃ x y, xs[i]? = some x ∧ ys[i]? = some y ∧ d = .tup [x, y]
  | [], ys, i, d, h => by simp [zipD] at h
  | x :: xs, [], i, d, h => by simp [zipD] at h
  | x :: xs, y :: ys, 0, d, h => by simp [zipD] at h; exact ⟨x, y, rfl, rfl, h.symm⟩
  | x :: xs, y :: ys, i + 1, d, h => by
    simp only [zipD, List.getElem?_cons_succ] at h
    obtain ⟨u, v, h1, h2, h3⟩ := zipD_get xs ys i d h
    exact ⟨u, v, by simpa using h1, by simpa using h2, h3⟩
theorem zipD_length : ∀ (xs ys : List D), (zipD xs ys).length = min xs.length ys.length
  | [], ys => by simp [zipD]
  | x :: xs, [] => by simp [zipD]
  | x :: xs, y :: ys => by simp [zipD, zipD_length]
theorem RDs.still' {xs : List D} {vs : List V} (r : RDs K H Z xs vs) (k : Still H Z H' Z') : RDs K H' Z' xs vs := RDs.still k r
theorem stand {a : Addr} {vs : List V} (k : Still H Z H' Z') (sm : fz = false → Same H H') (h : H a = some (.lst vs)) (z : fz = true → Z a) : H' a = some (.lst vs) := by
  cases fz with
  | true => exact k.z _ _ h (z rfl)
  | false => exact sm rfl _ _ h
theorem walk_itl {a : Addr} {vs : List V} {xs : List D} (h : H a = some (.lst vs)) (z : fz = true → Z a) (r : RDs K H Z xs vs) : WkD fz K (Itl K a) xs H Z := by
  intro i H1 Z1 k sm zd
  have h1 := stand k sm h z
  have r1 := r.still' k
  refine ⟨fun d hd => ?_, fun hi => ?_⟩
  · obtain ⟨v, hv, rv⟩ := r1.get hd
    refine ⟨⟨vs, v, SqL.of h1, hv⟩, fun x H' y => ?_⟩
    obtain ⟨rfl, hy⟩ := y
    have := hy vs (SqL.of h1)
    rw [hv] at this
    cases this
    exact ⟨Grow.refl, rv⟩
  · exact ⟨vs, SqL.of h1, by rw [← r.length, hi]; exact Nat.le_refl _⟩
theorem walk_itt {a : Addr} {vs : List V} {xs : List D} (h : SqT K H a vs) (r : RDs K H Z xs vs) : WkD fz K (Itt K a) xs H Z := by
  intro i H1 Z1 k sm zd
  have h1 := k.sqt h
  have r1 := r.still' k
  refine ⟨fun d hd => ?_, fun hi => ?_⟩
  · obtain ⟨v, hv, rv⟩ := r1.get hd
    refine ⟨⟨vs, v, h1, hv⟩, fun x H' y => ?_⟩
    obtain ⟨rfl, hy⟩ := y
    have := hy vs h1
    rw [hv] at this
    cases this
    exact ⟨Grow.refl, rv⟩
  · exact ⟨vs, h1, by rw [← r.length, hi]; exact Nat.le_refl _⟩
theorem chars_get {s : String} {i : Nat} {d : D} (h : ((s.toList.map fun c => D.str (String.ofList [c])))[i]? = some d) : ∃ c, s.toList[i]? = some c ∧ (Str.ofString s).cps[i]? = some c.toNat ∧ d = .str (String.ofList [c]) := by
  rw [List.getElem?_map] at h
  obtain ⟨c, h1, h2⟩ := Option.map_eq_some_iff.mp h
  refine ⟨c, h1, ?_, h2.symm⟩
  rw [← Array.getElem?_toList, str_cps, List.getElem?_map, h1]
  rfl
theorem cps_size (s : String) : (Str.ofString s).cps.size = s.toList.length := by
  rw [← Array.length_toList, str_cps, List.length_map]
theorem walk_its {s : String} : WkD fz K (Its (Str.ofString s)) (s.toList.map fun c => .str (String.ofList [c])) H Z := by
  intro i H1 Z1 k sm zd
  refine ⟨fun d hd => ?_, fun hi => ?_⟩
  · obtain ⟨c, h1, h2, rfl⟩ := chars_get hd
    refine ⟨?_, fun x H' y => ?_⟩
    · show i < (Str.ofString s).cps.size
      exact (Array.getElem?_eq_some_iff.mp h2).1
    · obtain ⟨rfl, c', hc', rfl⟩ := y
      rw [h2] at hc'
      cases hc'
      exact ⟨Grow.refl, rd_str.mpr (by rw [one_of])⟩
  · show (Str.ofString s).cps.size ≤ i
    rw [hi, cps_size, List.length_map]
    exact Nat.le_refl _
theorem walk_itr {a : Int} {n : Nat} : WkD fz K (Itr a n) (rangeD a n) H Z := by
  intro i H1 Z1 k sm zd
  refine ⟨fun d hd => ?_, fun hi => ?_⟩
  · obtain ⟨h1, rfl⟩ := rangeD_get _ _ _ _ hd
    refine ⟨h1, fun x H' y => ?_⟩
    obtain ⟨rfl, rfl⟩ := y
    exact ⟨Grow.refl, rd_int.mpr rfl⟩
  · rw [rangeD_length] at hi
    exact Nat.le_of_eq hi.symm
theorem grow_tup {T : Addr} {vs : List V} (hT : H T = none) : Grow H Z (upd H T (.tup vs)) Z := ⟨same_new hT, fun _ z => z, fun _ z => .inl z⟩
theorem walk_ite {a : Addr} {vs : List V} {xs : List D} (h : H a = some (.lst vs)) (z : fz = true → Z a) (r : RDs K H Z xs vs) : WkD fz K (Ite K a) (enumD 0 xs) H Z := by
  intro i H1 Z1 k sm zd
  have h1 := stand k sm h z
  have r1 := r.still' k
  refine ⟨fun d hd => ?_, fun hi => ?_⟩
  · obtain ⟨x0, hx, rfl⟩ := enumD_get _ _ _ _ hd
    obtain ⟨v, hv, rv⟩ := r1.get hx
    refine ⟨⟨vs, v, SqL.of h1, hv⟩, fun x H' y => ?_⟩
    obtain ⟨T, w, rfl, hT, rfl, hy⟩ := y
    have := hy vs (SqL.of h1)
    rw [hv] at this
    cases this
    refine ⟨grow_tup hT, rd_tup.mpr ⟨T, _, rfl, SqT.of upd_same, ?_⟩⟩
    refine RDs.mk (rd_int.mpr (by rw [Nat.zero_add])) (RDs.mk (RD.still (still_new hT) rv) (RDs.nil_iff.mpr rfl))
  · rw [enumD_length] at hi
    exact ⟨vs, SqL.of h1, by rw [← r.length, hi]; exact Nat.le_refl _⟩

/-! ### zip over lists, tuples, texts -/
inductive Src where
  | l (a : Addr) | t (a : Addr) | s (x : Str)
def SrcAt (K : PySem.W.Frag) (H : Hp) : Src → List V → Prop
  | .l a, vs => SqL K H a vs
  | .t a, vs => SqT K H a vs
  | .s x, vs => vs = x.cps.toList.map fun c => .str ⟨#[c]⟩
def SrcV : Src → V
  | .l a => .ref a
  | .t a => .ref a
  | .s x => .str x
def SrcIt (tk : Tok) (it : Addr) (i : Nat) (h : Heap) : Src → Prop
  | .l a => h.IsListIter it a i
  | .t a => h.IsTupleIter it a i
  | .s x => h.IsStrIter it (strIterType x) x tk i
def Itzz (K : PySem.W.Frag) (a b : Src) : It :=
  ⟨fun i H => ∃ (xs ys : List V) (x y : V), SrcAt K H a xs ∧ SrcAt K H b ys ∧ xs[i]? = some x ∧ ys[i]? = some y,
    fun i H v H' => ∃ T x y, v = .ref T ∧ H T = none ∧ H' = upd H T (.tup [x, y]) ∧ (∀ xs, SrcAt K H a xs → xs[i]? = some x) ∧ ∀ ys, SrcAt K H b ys → ys[i]? = some y,
    fun i H => ∃ xs ys : List V, SrcAt K H a xs ∧ SrcAt K H b ys ∧ (i = min xs.length ys.length)⟩
end
section
variable {X : Cx} {pins : List (Addr × Obj)} {σ : L2.St} {H : Hp} {s : Shared}
theorem SrcAt.inj (I : Inv X pins σ H s) {a : Src} {xs ys : List V} (h : SrcAt X.K H a xs) (h' : SrcAt X.K H a ys) : xs = ys := by
  cases a with
  | l a => exact I.list_inj h h'
  | t a => exact I.tuple_inj h h'
  | s x => exact h.trans h'.symm
theorem SrcIt.live {tk : Tok} {it : Addr} {i : Nat} {h : Heap} {a : Src} (st : SrcIt tk it i h a) : ∃ o, h.get? it = some o ∧ ∀ v, o.data ≠ .cell v := by
  cases a with
  | l a => obtain ⟨o, e, _, d⟩ := st; exact ⟨o, e, fun v q => by rw [d] at q; cases q⟩
  | t a => obtain ⟨o, e, _, d⟩ := st; exact ⟨o, e, fun v q => by rw [d] at q; cases q⟩
  | s a => obtain ⟨o, e, _, d⟩ := st; exact ⟨o, e, fun v q => by rw [d] at q; cases q⟩
theorem SrcIt.at {tk : Tok} {it : Addr} {i : Nat} {h h' : Heap} {a : Src} (st : SrcIt tk it i h a) (k : ∀ o, h.get? it = some o → h'.get? it = some o) : SrcIt tk it i h' a := by
  cases a with
  | l a => exact Heap.IsListIter.at st k
  | t a => exact Heap.IsTupleIter.at st k
  | s a => obtain ⟨o, e, c, d⟩ := st; exact ⟨o, k o e, c, d⟩
/-- the draws of one source, as it stands now -/
theorem src_draws (I : Inv X pins σ H s) {A : Around} (hh : A.handled = none) {a : Src} {vs : List V} (h : SrcAt X.K H a vs) (tk : Tok) (it : Addr) (hn : ∀ b o, s.heap.get? b = some o → SrcV a = .ref b → b ≠ it) :
    ∃ (fp : List Addr) (P : Nat → Value → Prop) (St : Nat → Heap → Prop), Draws X.prog X.w A it (it :: fp) vs.length P St ∧ (∀ i u, P i u → ∃ x, vs[i]? = some x ∧ RelV x u) ∧ (∀ i, SrcIt tk it i s.heap a → St i s.heap) ∧ (∀ i h, St i h → SrcIt tk it i h a) ∧
      ∀ b ∈ fp, ∃ o, s.heap.get? b = some o ∧ SrcV a = .ref b := by
  cases a with
  | l a =>
    obtain ⟨its, rv, p, _⟩ := I.list h
    obtain ⟨o, hp, _⟩ := id p.isList
    have D := Draws.list (prog := X.prog) (w := X.w) hh it a (hn a o hp rfl) its.toArray
    rw [List.size_toArray, ← rv.length] at D
    refine ⟨[a], _, _, D, fun i u hu => ?_, fun i st => ⟨st, p.isList⟩, fun i h st => st.1, fun b hb => ?_⟩
    · have hu' : its[i]? = some u := by simpa using hu
      cases q : vs[i]? with
      | none =>
        rw [rv.none_of q] at hu'
        cases hu'
      | some x =>
        obtain ⟨u', e, r⟩ := rv.get q
        rw [hu'] at e
        cases e
        exact ⟨x, rfl, r⟩
    · have : b = a := by simpa using hb
      subst this
      exact ⟨o, hp, rfl⟩
  | t a =>
    obtain ⟨its, rv, p, _⟩ := I.tuple h
    have p' : s.heap.IsTuple a its.toArray := p
    obtain ⟨o, hp, _⟩ := id p
    have D := Draws.tuple (prog := X.prog) (w := X.w) hh it a (hn a o hp rfl) its.toArray
    rw [List.size_toArray, ← rv.length] at D
    refine ⟨[a], _, _, D, fun i u hu => ?_, fun i st => ⟨st, p'⟩, fun i h st => st.1, fun b hb => ?_⟩
    · have hu' : its[i]? = some u := by simpa using hu
      cases q : vs[i]? with
      | none =>
        rw [rv.none_of q] at hu'
        cases hu'
      | some x =>
        obtain ⟨u', e, r⟩ := rv.get q
        rw [hu'] at e
        cases e
        exact ⟨x, rfl, r⟩
    · have : b = a := by simpa using hb
      subst this
      exact ⟨o, hp, rfl⟩
  | s x =>
    have D := Draws.text (prog := X.prog) (w := X.w) hh it x tk
    have e : vs = x.cps.toList.map fun c => .str ⟨#[c]⟩ := h
    have hl : vs.length = x.cps.size := by rw [e, List.length_map, Array.length_toList]
    rw [← hl] at D
    refine ⟨[], _, _, D, fun i u hu => ?_, fun i st => st, fun i h st => st, fun b hb => by cases hb⟩
    obtain ⟨c, t, hc, rfl⟩ := hu
    refine ⟨.str ⟨#[c]⟩, ?_, ⟨t, rfl⟩⟩
    rw [e, List.getElem?_map, Array.getElem?_toList, hc]
    rfl
theorem zz_no {N : Nat} (h : N + 1 < N) : False := by omega
theorem zz_mem {c N : Nat} (h : c ∈ [N + 4, N + 3, N, N + 1]) : c ∈ [N + 4, N + 2, N + 3, N, N + 1] := by simp at h ⊢; omega
theorem zz_lt {c N n : Nat} (h : c ∈ [N + 4, N + 2, N + 3, N, N + 1]) (l : N + 4 < n) : c < n := by simp at h; omega
theorem turn_zipD {P : Program} {w : World} {K : PySem.W.Frag} {elts : List Expr} {kk : Nat} {tpos : Pos} {a b : Src} {t1 t2 : Tok} {N : Nat}
    (n1 : ∀ c, SrcV a = .ref c → c < N) (n2 : ∀ c, SrcV b = .ref c → c < N) :
    Turn P w K (.Tuple elts kk tpos) (Itzz K a b) [N + 4, N + 2, N + 3, N, N + 1] (N + 4) (fun i h => IsZip h (N + 4) (N + 2) (N + 3) .none ∧ IsTupOf2 h (N + 2) (.ref N) (.ref (N + 1)) ∧ (∃ x y, IsTupOf2 h (N + 3) x y) ∧ SrcIt t1 N i h a ∧ SrcIt t2 (N + 1) i h b) where
  mem := by simp
  obj := fun i h st c hc => by
    obtain ⟨hz, eI, ⟨x, y, eO⟩, s1, s2⟩ := st
    have e' : c = N + 4 ∨ c = N + 2 ∨ c = N + 3 ∨ c = N ∨ c = N + 1 := by simpa using hc
    rcases e' with q | q | q | q | q
    · rw [q]; exact ⟨_, hz, fun v q => nomatch q⟩
    · rw [q]; exact ⟨_, eI, fun v q => nomatch q⟩
    · rw [q]; exact ⟨_, eO, fun v q => nomatch q⟩
    · rw [q]; exact s1.live
    · rw [q]; exact s2.live
  keep := fun i h h' st k => by
    obtain ⟨hz, eI, ⟨x, y, eO⟩, s1, s2⟩ := st
    exact ⟨k _ (by simp) _ hz, k _ (by simp) _ eI, ⟨x, y, k _ (by simp) _ eO⟩, s1.at fun o q => k N (by simp) o q, s2.at fun o q => k (N + 1) (by simp) o q⟩
  item := by
    intro X hP hw hK hc i pins s σ H E I hf st hg
    subst hP hw hK
    obtain ⟨hz, hTI, hTO, s1, s2⟩ := st
    obtain ⟨xs, ys, x, y, qx, qy, hx, hy⟩ := hg
    have hzl : N + 4 < s.heap.objs.size := Heap.lt_size hz
    obtain ⟨fp1, P1, St1, D1, p1, b1, c1, f1⟩ := src_draws I (A := X.A.in1) (I.ok.hd hc) qx t1 N fun c o _ e q => by have := n1 c e; rw [q] at this; exact Nat.lt_irrefl _ this
    obtain ⟨fp2, P2, St2, D2, p2, b2, c2, f2⟩ := src_draws I (A := X.A.in1) (I.ok.hd hc) qy t2 (N + 1) fun c o _ e q => by have := n2 c e; rw [q] at this; exact zz_no this
    have W := WalksT.zipD2 (zip_sep2 (N := N) (fun b hb => by obtain ⟨_, _, e⟩ := f1 b hb; exact n1 b e) (fun b hb => by obtain ⟨_, _, e⟩ := f2 b hb; exact n2 b e)) D1 D2
    have hlt : i < min xs.length ys.length := by
      have h1 := (List.getElem?_eq_some_iff.mp hx).1
      have h2 := (List.getElem?_eq_some_iff.mp hy).1
      omega
    refine W.item i s _ _ hlt ⟨hz, hTI, hTO, b1 i s1, b2 i s2⟩ fun T vals h' tk pv hTs hT mid hk => ?_
    obtain ⟨u1, u2, q1, q2, rfl⟩ := pv
    obtain ⟨x', e1, r1⟩ := p1 i u1 q1
    obtain ⟨y', e2, r2⟩ := p2 i u2 q2
    rw [hx] at e1; cases e1
    rw [hy] at e2; cases e2
    refine ⟨_, rfl, W.go elts kk tpos i T { s with heap := h', toks := tk } _ _ mid fun h'' st' hk' => ?_⟩
    have apart := W.apart i T h' mid
    obtain ⟨oT, eT, cT, nT, dT⟩ := hT
    have hT2 : h''.get? T = some oT := hk' T oT apart eT
    have hTn : H T = none := I.hok.fresh hTs
    have new : ObjOk X.prog X.w (upd H T (.tup [x, y])) h'' T (.tup [x, y]) :=
      ⟨by show 2 ≤ sizeLine; decide, [u1, u2], .cons r1 (.cons r2 .nil), ⟨oT, hT2, cT, nT, dT⟩⟩
    have kk2 : ∀ c o, c ∉ [N + 4, N + 2, N + 3, N, N + 1] → s.heap.get? c = some o → h''.get? c = some o := fun c o hb q => by
      have nb : c ∉ [N + 4, N + 3, N, N + 1] := fun hm => hb (zz_mem hm)
      exact hk' c o nb (hk c o nb q)
    have I1 : Inv X pins σ (upd H T (.tup [x, y])) { s with heap := h'', toks := tk } := I.turnedNew (ch := [N + 4, N + 2, N + 3, N, N + 1]) kk2 hf hTs new
    obtain ⟨z1, z2, z3, z4, z5⟩ := st'
    refine ⟨.ref T, _, I1, rfl, ⟨T, x, y, rfl, hTn, rfl, fun l hl => by rw [SrcAt.inj I hl qx]; exact hx, fun l hl => by rw [SrcAt.inj I hl qy]; exact hy⟩, ⟨z1, z2, z3, c1 _ _ z4, c2 _ _ z5⟩, fun c hcm => ?_⟩
    have hcl : c < s.heap.objs.size := zz_lt hcm hzl
    rw [upd_ne (Nat.ne_of_lt (Nat.lt_of_lt_of_le hcl hTs))]
    exact (hf c hcm).1
  done := by
    intro X hP hw hK hc i pins s σ H E I hf st hg
    subst hP hw hK
    obtain ⟨hz, hTI, hTO, s1, s2⟩ := st
    obtain ⟨xs, ys, qx, qy, rfl⟩ := hg
    obtain ⟨fp1, P1, St1, D1, p1, b1, c1, f1⟩ := src_draws I (A := X.A.in1) (I.ok.hd hc) qx t1 N fun c o _ e q => by have := n1 c e; rw [q] at this; exact Nat.lt_irrefl _ this
    obtain ⟨fp2, P2, St2, D2, p2, b2, c2, f2⟩ := src_draws I (A := X.A.in1) (I.ok.hd hc) qy t2 (N + 1) fun c o _ e q => by have := n2 c e; rw [q] at this; exact zz_no this
    have W := WalksT.zipD2 (zip_sep2 (N := N) (fun b hb => by obtain ⟨_, _, e⟩ := f1 b hb; exact n1 b e) (fun b hb => by obtain ⟨_, _, e⟩ := f2 b hb; exact n2 b e)) D1 D2
    refine W.done s _ _ ⟨hz, hTI, hTO, b1 _ s1, b2 _ s2⟩ fun h' tk hk => ⟨rfl, I.turnedL (t' := tk) (ch := [N + 4, N + 2, N + 3, N, N + 1]) (fun c o hb q => ?_) hf⟩
    exact hk c o (fun hm => hb (zz_mem hm)) q
  self := fun A i s Q E st h => wpAny_pyIter_zip st.1 h
/-- how a source begins -/
theorem src_begins (I : Inv X pins σ H s) {a : Src} {vs : List V} {u : Value} (h : SrcAt X.K H a vs) (r : RelV (SrcV a) u) : ∃ (o : Obj) (Hb : Heap → Prop) (tk : Tok), Begins u o Hb ∧ Hb s.heap ∧ (∀ it h', h'.get? it = some o → SrcIt tk it 0 h' a) ∧ ∀ c, SrcV a = .ref c → c < s.heap.objs.size := by
  cases a with
  | l a =>
    obtain rfl : u = Value.ref a := r
    obtain ⟨its, rv, p, _⟩ := I.list h
    refine ⟨_, _, 0, begins_list a its.toArray, p.isList, fun it h' e => ⟨_, e, rfl, rfl⟩, fun c e => ?_⟩
    cases e
    obtain ⟨o, hp, _⟩ := id p.isList
    exact Heap.lt_size hp
  | t a =>
    obtain rfl : u = Value.ref a := r
    obtain ⟨its, rv, p, _⟩ := I.tuple h
    refine ⟨_, _, 0, begins_tuple a its.toArray, p, fun it h' e => ⟨_, e, rfl, rfl⟩, fun c e => ?_⟩
    cases e
    obtain ⟨o, hp, _⟩ := id p
    exact Heap.lt_size hp
  | s x =>
    obtain ⟨t, rfl⟩ := r
    exact ⟨_, _, t, begins_text x t, trivial, fun it h' e => ⟨_, e, rfl, rfl⟩, fun c e => by cases e⟩
def iZz (K : PySem.W.Frag) (ta : TA) : TI := fun σ H R => ta σ H fun vs H1 => ∃ a b xs ys, vs = [SrcV a, SrcV b] ∧ SrcAt K H1 a xs ∧ SrcAt K H1 b ys ∧ R (Itzz K a b) H1
theorem pi_zz {e e2 : Expr} {ta : TA} {p pos tpos : Pos} {elts : List Expr} {kk : Nat} (hg : Gl X "zip") (hm : X.mg "zip" = none) (ha : PA X [e, e2] ta)
    (hs : starEach [e, e2] X.env = (false, eval e X.env) :: starEach [e2] X.env) (hpl : (backTo pos (starEach [e2] X.env)).any (·.1) = false) :
    PI X (.Tuple elts kk tpos) (.Call (.Name "zip" p) [e, e2] [] pos) (iZz X.K ta) := by
  refine ⟨fun pins s σ H R I h => ?_⟩
  refine Call_ (ld_blt I hg hm PyProof.Rows.boot_zip (PyProof.Rows.callWith_type1 (thn (ha.run pos pins s σ H _ I h) fun us s1 ⟨vs, H1, I1, r1, q1⟩ => ?_) hs hpl))
  obtain ⟨a, b, xs, ys, ex, qx, qy, q⟩ := q1
  subst ex
  obtain ⟨u1, u2, rfl, ru1, ru2⟩ := vals2 r1
  obtain ⟨o1, B1, k1, g1, h1, j1, m1⟩ := src_begins I1 qx ru1
  obtain ⟨o2, B2, k2, g2, h2, j2, m2⟩ := src_begins I1 qy ru2
  refine zip_begins2 g1 g2 h1 h2 fun h' hz hTI hTO e1 e2 hsz hk => wpAny_pyIter_zip hz ?_
  have I2 : Inv X pins σ H1 { s1 with heap := h' } := I1.kept (t' := s1.toks) hk
  refine ⟨s1.heap.objs.size + 4, [s1.heap.objs.size + 4, s1.heap.objs.size + 2, s1.heap.objs.size + 3, s1.heap.objs.size, s1.heap.objs.size + 1], _, _, H1, rfl, I2, turn_zipD (a := a) (b := b) (t1 := k1) (t2 := k2) m1 m2, ⟨hz, hTI, ⟨_, _, hTO⟩, j1 _ _ e1, j2 _ _ e2⟩, fun c hcm => ?_, q⟩
  have e' : c = s1.heap.objs.size + 4 ∨ c = s1.heap.objs.size + 2 ∨ c = s1.heap.objs.size + 3 ∨ c = s1.heap.objs.size ∨ c = s1.heap.objs.size + 1 := by simpa using hcm
  have hle : s1.heap.objs.size ≤ c := by
    rcases e' with z | z | z | z | z
    · rw [z]; exact Nat.le_add_right _ _
    · rw [z]; exact Nat.le_add_right _ _
    · rw [z]; exact Nat.le_add_right _ _
    · rw [z]; exact Nat.le_refl _
    · rw [z]; exact Nat.le_add_right _ _
  exact I1.fpOk hle (I1.hok.fresh hle)
end
section
variable {fz : Bool} {K : PySem.W.Frag} {H H' : Hp} {Z Z' : Addr → Prop}
theorem lst_z {xs : List D} {a : Addr} (r : RD K H Z (.lst xs) (.ref a)) : Z a := by
  obtain ⟨b, vs, e, _, z, _⟩ := rd_lst.mp r
  cases e
  exact z
/-- data that may be walked, as a source -/
theorem src_of {d : D} {v : V} {xs : List D} (r : RV K H Z d v) (rf : fz = true → RD K H Z d v) (h : seqD d = some xs) : ∃ a vs, v = SrcV a ∧ SrcAt K H a vs ∧ RDs K H Z xs vs ∧ ∀ H' Z', Still H Z H' Z' → (fz = false → Same H H') → SrcAt K H' a vs := by
  cases d <;> first | (cases h; done) | skip
  · cases h
    obtain ⟨s, rfl⟩ : ∃ s, s = Str.ofString ‹String› := ⟨_, rfl⟩
    refine ⟨.s _, _, rv_str.mp r, rfl, ?_, fun H' Z' _ _ => rfl⟩
    rw [str_cps, List.map_map]
    generalize String.toList _ = l
    induction l with
    | nil => exact RDs.nil_iff.mpr rfl
    | cons c l ih => exact RDs.mk (rd_str.mpr (by rw [one_of]; rfl)) ih
  · cases h
    obtain ⟨a, vs, rfl, h1, h2⟩ := rv_tup.mp r
    exact ⟨.t a, vs, rfl, h1, h2, fun H' Z' k _ => k.sqt h1⟩
  · cases h
    obtain ⟨a, vs, rfl, h1, h2⟩ := rv_lst.mp r
    exact ⟨.l a, vs, rfl, SqL.of h1, h2, fun H' Z' k sm => SqL.of (stand k sm h1 fun f => lst_z (rf f))⟩
theorem SrcAt.inj' {K : PySem.W.Frag} {H : Hp} {a : Src} {xs : List V} (h : SrcAt K H a xs) : True := trivial
theorem walk_zz {a b : Src} {vs ws : List V} {xs ys : List D} (h1 : ∀ H' Z', Still H Z H' Z' → (fz = false → Same H H') → SrcAt K H' a vs) (h2 : ∀ H' Z', Still H Z H' Z' → (fz = false → Same H H') → SrcAt K H' b ws) (r1 : RDs K H Z xs vs) (r2 : RDs K H Z ys ws) :
    WkD fz K (Itzz K a b) (zipD xs ys) H Z := by
  intro i H1 Z1 k sm zd
  have a1 := h1 _ _ k sm
  have a2 := h2 _ _ k sm
  have q1 := r1.still' k
  have q2 := r2.still' k
  refine ⟨fun d hd => ?_, fun hi => ?_⟩
  · obtain ⟨x0, y0, hx, hy, rfl⟩ := zipD_get _ _ _ _ hd
    obtain ⟨v, hv, rv⟩ := q1.get hx
    obtain ⟨w, hw, rw'⟩ := q2.get hy
    refine ⟨⟨vs, ws, v, w, a1, a2, hv, hw⟩, fun x H' y => ?_⟩
    obtain ⟨T, v', w', rfl, hT, rfl, f1, f2⟩ := y
    have e1 := f1 vs a1
    have e2 := f2 ws a2
    rw [hv] at e1; cases e1
    rw [hw] at e2; cases e2
    exact ⟨grow_tup hT, rd_tup.mpr ⟨T, _, rfl, SqT.of upd_same, RDs.mk (RD.still (still_new hT) rv) (RDs.mk (RD.still (still_new hT) rw') (RDs.nil_iff.mpr rfl))⟩⟩
  · rw [zipD_length] at hi
    exact ⟨vs, ws, a1, a2, by rw [← r1.length, ← r2.length]; exact hi⟩
end

/-! ### by the word -/
section
variable {X : Cx} {sc : Scope} {N : List Str} {glob : String → Option D} {l : List Expr} {ts : List TE}
def tIt (fz : Bool) (K : PySem.W.Frag) (k : ItK) (ts : List TE) : TI := fun σ H R => tCh ts σ H fun vs H1 => ∃ Z ds xs, RVs K H1 Z ds vs ∧ (fz = true → RDs K H1 Z ds vs) ∧ itD k ds = some xs ∧ ∀ J, WkD fz K J xs H1 Z → R J H1
theorem rds1 {K : PySem.W.Frag} {H : Hp} {Z : Addr → Prop} {ds : List D} {x : V} (rd : RDs K H Z ds [x]) : ∃ d, ds = [d] ∧ RD K H Z d x := by
  cases ds with
  | nil => exact absurd (RDs.nil_iff.mp rd) (by simp)
  | cons d ds =>
    obtain ⟨v, r, e1, h1, h2⟩ := RDs.cons_iff.mp rd
    injection e1 with e1 e2
    subst e1 e2
    cases ds with
    | nil => exact ⟨d, rfl, h1⟩
    | cons d' ds' =>
      obtain ⟨_, _, e3, _⟩ := RDs.cons_iff.mp h2
      cases e3
theorem rds2 {K : PySem.W.Frag} {H : Hp} {Z : Addr → Prop} {ds : List D} {x y : V} (rd : RDs K H Z ds [x, y]) : ∃ d d', ds = [d, d'] ∧ RD K H Z d x ∧ RD K H Z d' y := by
  cases ds with
  | nil => exact absurd (RDs.nil_iff.mp rd) (by simp)
  | cons d ds =>
    obtain ⟨v, r, e1, h1, h2⟩ := RDs.cons_iff.mp rd
    injection e1 with e1 e2
    subst e1 e2
    obtain ⟨d', rfl, h3⟩ := rds1 h2
    exact ⟨d, d', rfl, h1, h3⟩
theorem rds11 {K : PySem.W.Frag} {H : Hp} {Z : Addr → Prop} {d : D} {x : V} (rd : RDs K H Z [d] [x]) : RD K H Z d x := by
  obtain ⟨_, e, r⟩ := rds1 rd
  cases e
  exact r
theorem rds22 {K : PySem.W.Frag} {H : Hp} {Z : Addr → Prop} {d d' : D} {x y : V} (rd : RDs K H Z [d, d'] [x, y]) : RD K H Z d x ∧ RD K H Z d' y := by
  obtain ⟨_, _, e, r⟩ := rds2 rd
  cases e
  exact r
theorem isTup_of {tg : Expr} (h : isTup tg = true) : ∃ es k p, tg = .Tuple es k p := by
  cases tg <;> first | (cases h; done) | exact ⟨_, _, _, rfl⟩
theorem PI.any {X : Cx} {tg it : Expr} {t1 t2 : TI} (h1 : PI X tg it t1) (h2 : PI X tg it t2) : PI X tg it (fun σ H R => t1 σ H R ∨ t2 σ H R) := ⟨fun pins s σ H R I q => q.elim (h1.run pins s σ H R I) (h2.run pins s σ H R I)⟩
theorem it_rule {fz : Bool} (C : CxOk X sc N glob) {k : ItK} {tg it : Expr} (h : itArgs k sc tg it = some l) (p : PEL X l ts) : PI X tg it (tIt fz X.K k ts) := by
  unfold itArgs at h
  split at h
  · cases h
    obtain ⟨t, rfl, p1, he⟩ := p.inv1
    -- the value's own kind says how
    refine ⟨fun pins s σ H R I hh => ?_⟩
    obtain ⟨he⟩ := he
    have run := he pins s σ H _ I hh
    refine thn run fun u s1 ⟨x, H1, I1, r1, Z, ds, xs, rv, rf, e, q⟩ => ?_
    obtain ⟨d, rfl, rd1⟩ := RVs.one rv
    have rf1 : fz = true → RD X.K H1 Z d x := fun f => rds11 (rf f)
    change seqD d = some xs at e
    have once : PE X (.Constant .none 0 ⟨0, 0, 0, 0⟩) (tC .non) := pe_non
    cases d <;> first | (cases e; done) | skip
    · cases e
      rw [rv_str.mp rd1] at r1
      obtain ⟨t, rfl⟩ := r1
      cases ha : (Str.ofString ‹String›).cps.all (· < 128)
      · exact wpAny_pyIter_wide ha (pi_one (tk := s1.toks) I1 _ (turn_str _ _ t "str_iterator" (.inr rfl)) ⟨_, Heap.get?_push_size _ rfl, rfl, rfl⟩ (q _ walk_its))
      · exact wpAny_pyIter_ascii ha (pi_one (tk := s1.toks) I1 _ (turn_str _ _ t "str_ascii_iterator" (.inl rfl)) ⟨_, Heap.get?_push_size _ rfl, rfl, rfl⟩ (q _ walk_its))
    · cases e
      obtain ⟨a, vs, rfl, h1, h2⟩ := rv_tup.mp rd1
      obtain rfl : u = Value.ref a := r1
      obtain ⟨its, rv, ht, hz⟩ := I1.tuple h1
      refine wpAny_pyIter_tuple (show s1.heap.IsTuple a its.toArray from ht) ?_
      refine ⟨s1.heap.objs.size, [s1.heap.objs.size], _, _, H1, rfl, I1.kept (t' := s1.toks) fun b o e => Heap.get?_push_of_some _ e, turn_tuple a _, ⟨_, Heap.get?_push_size _ rfl, rfl, rfl⟩, fun b hb => ?_, q _ (walk_itt h1 h2)⟩
      have e : b = s1.heap.objs.size := by simpa using hb
      subst e
      exact I1.fpOk (Nat.le_refl _) (I1.hok.fresh (Nat.le_refl _))
    · cases e
      obtain ⟨a, vs, rfl, h1, h2⟩ := rv_lst.mp rd1
      have hz : fz = true → Z a := fun f => lst_z (rf1 f)
      obtain rfl : u = Value.ref a := r1
      obtain ⟨its, rv, pl, _⟩ := I1.list (SqL.of h1)
      refine wpAny_pyIter_list pl.isList ?_
      refine ⟨s1.heap.objs.size, [s1.heap.objs.size], _, _, H1, rfl, I1.kept (t' := s1.toks) fun b o e => Heap.get?_push_of_some _ e, turn_list a _, ⟨_, Heap.get?_push_size _ rfl, rfl, rfl⟩, fun b hb => ?_, q _ (walk_itl h1 hz h2)⟩
      have e : b = s1.heap.objs.size := by simpa using hb
      subst e
      exact I1.fpOk (Nat.le_refl _) (I1.hok.fresh (Nat.le_refl _))
  · split at h
    · split at h
      · rename_i hc
        cases h
        obtain ⟨rfl, h1⟩ := hc
        obtain ⟨t, rfl, p1, he⟩ := p.inv1
        refine PI.mono (pi_range1 (C.glx h1) (C.bn _ (by decide)) (pa_cons (Vm.PE.up he) pa_nil (star_cons p1 _ _)) (star1 p1 _)) fun σ H R hh => up_of hh fun x H1 ⟨Z, ds, xs, rv, rf, e, q⟩ => ?_
        obtain ⟨d, rfl, rd1⟩ := RVs.one rv
        have rf1 : fz = true → RD X.K H1 Z d x := fun f => rds11 (rf f)
        cases d <;> first | (cases e; done) | skip
        simp only [itD] at e
        split at e
        · rename_i hb
          cases e
          exact ⟨_, by rw [rv_int.mp rd1], by omega, by omega, q _ walk_itr⟩
        · cases e
      · cases h
    · cases h
  · split at h
    · split at h
      · rename_i hc
        cases h
        obtain ⟨rfl, h1⟩ := hc
        obtain ⟨t, u, rfl, p1, he, p2, he2⟩ := p.inv2
        refine PI.mono (pi_range2 (C.glx h1) (C.bn _ (by decide)) (pa_cons (Vm.PE.up he) (pa_cons (Vm.PE.up he2) pa_nil (star_cons p2 _ _)) (star_cons p1 _ _)) (star2 p1 p2 _) (star1 p2 _)) fun σ H R hh => up_of hh fun x H0 hh => up_of hh fun y H1 ⟨Z, ds, xs, rv, rf, e, q⟩ => ?_
        obtain ⟨d, d', rfl, rd1, rd2⟩ := RVs.two rv
        have rf1 : fz = true → RD X.K H1 Z d x := fun f => (rds22 (rf f)).1
        have rf2 : fz = true → RD X.K H1 Z d' y := fun f => (rds22 (rf f)).2
        cases d <;> first | (cases e; done) | skip
        cases d' <;> first | (cases e; done) | skip
        simp only [itD] at e
        split at e
        · rename_i hb
          cases e
          exact ⟨_, _, by rw [rv_int.mp rd1, rv_int.mp rd2], by omega, q _ walk_itr⟩
        · cases e
      · cases h
    · cases h
  · split at h
    · split at h
      · rename_i hc
        cases h
        obtain ⟨rfl, h1, h2⟩ := hc
        obtain ⟨es, kk, p3, rfl⟩ := isTup_of h2
        obtain ⟨t, rfl, p1, he⟩ := p.inv1
        refine PI.mono (pi_enum (C.glx h1) (C.bn _ (by decide)) (pa_cons (Vm.PE.up he) pa_nil (star_cons p1 _ _)) (star1 p1 _)) fun σ H R hh => up_of hh fun x H1 ⟨Z, ds, xs, rv, rf, e, q⟩ => ?_
        obtain ⟨d, rfl, rd1⟩ := RVs.one rv
        have rf1 : fz = true → RD X.K H1 Z d x := fun f => rds11 (rf f)
        cases d <;> first | (cases e; done) | skip
        cases e
        obtain ⟨a, vs, rfl, g1, g2⟩ := rv_lst.mp rd1
        exact ⟨a, vs, rfl, SqL.of g1, q _ (walk_ite g1 (fun f => lst_z (rf1 f)) g2)⟩
      · cases h
    · cases h
  · split at h
    · split at h
      · rename_i hc
        cases h
        obtain ⟨rfl, h1, h2⟩ := hc
        obtain ⟨es, kk, p3, rfl⟩ := isTup_of h2
        obtain ⟨t, u, rfl, p1, he, p2, he2⟩ := p.inv2
        refine PI.mono (pi_zz (C.glx h1) (C.bn _ (by decide)) (pa_cons (Vm.PE.up he) (pa_cons (Vm.PE.up he2) pa_nil (star_cons p2 _ _)) (star_cons p1 _ _)) (star_cons p1 _ _) (nostar (by simpa using p2))) fun σ H R hh => up_of hh fun x H0 hh => up_of hh fun y H1 ⟨Z, ds, xs, rv, rf, e, q⟩ => ?_
        obtain ⟨d, d', rfl, rd1, rd2⟩ := RVs.two rv
        have rf1 : fz = true → RD X.K H1 Z d x := fun f => (rds22 (rf f)).1
        have rf2 : fz = true → RD X.K H1 Z d' y := fun f => (rds22 (rf f)).2
        simp only [itD] at e
        split at e
        · rename_i xs ys e1 e2
          cases e
          obtain ⟨a, vs, rfl, g1, g2, g3⟩ := src_of rd1 rf1 e1
          obtain ⟨b, ws, rfl, k1, k2, k3⟩ := src_of rd2 rf2 e2
          exact ⟨a, b, vs, ws, rfl, g1, k1, q _ (walk_zz g3 k3 g2 k2)⟩
        · cases e
      · cases h
    · cases h
  · cases h
end
end Vm

set_option Elab.async false
set_option linter.all false
set_option maxRecDepth 100000
/-! V11: targets; quiet expressions. -/
namespace Vm
open PySem PySem.Spec PyProof.Rows L2

theorem PG.mono {X : Cx} {t : Expr} {g g' : TG} (h : PG X t g) (m : ∀ v σ H Q, g' v σ H Q → g v σ H Q) : PG X t g' := ⟨fun pins s σ H v u Q I r q => h.run pins s σ H v u Q I r (m v σ H Q q)⟩
theorem PGs.mono {X : Cx} {t : List Expr} {g g' : TGs} (h : PGs X t g) (m : ∀ v σ H Q, g' v σ H Q → g v σ H Q) : PGs X t g' := ⟨fun pins s σ H v u Q I r q => h.run pins s σ H v u Q I r (m v σ H Q q)⟩
def upG (g : TG) : TG := fun v σ H Q => ∃ G : L2.St → Hp → Prop, g v σ H G ∧ ∀ σ' H', G σ' H' → Q σ' H'
theorem PG.up {X : Cx} {t : Expr} {g : TG} (h : PG X t g) : PG X t (upG g) := ⟨fun pins s σ H v u Q I r ⟨G, q, w⟩ => thn (h.run pins s σ H v u G I r q) fun _ s1 ⟨σ1, H1, I1, q1⟩ => ⟨σ1, H1, I1, w _ _ q1⟩⟩
def upGs (g : TGs) : TGs := fun v σ H Q => ∃ G : L2.St → Hp → Prop, g v σ H G ∧ ∀ σ' H', G σ' H' → Q σ' H'
theorem PGs.up {X : Cx} {t : List Expr} {g : TGs} (h : PGs X t g) : PGs X t (upGs g) := ⟨fun pins s σ H v u Q I r ⟨G, q, w⟩ => thn (h.run pins s σ H v u G I r q) fun _ s1 ⟨σ1, H1, I1, q1⟩ => ⟨σ1, H1, I1, w _ _ q1⟩⟩

/-- only these slots may differ -/
def Off (vs : List Nat) (σ σ' : L2.St) : Prop := σ'.length = σ.length ∧ ∀ i, i ∉ vs → σ'[i]? = σ[i]?
theorem Off.refl {vs : List Nat} {σ : L2.St} : Off vs σ σ := ⟨rfl, fun _ _ => rfl⟩
theorem Off.trans {vs : List Nat} {σ σ1 σ2 : L2.St} (a : Off vs σ σ1) (b : Off vs σ1 σ2) : Off vs σ σ2 := ⟨b.1.trans a.1, fun i h => (b.2 i h).trans (a.2 i h)⟩
theorem Off.mono {vs ws : List Nat} {σ σ' : L2.St} (a : Off vs σ σ') (h : ∀ i, i ∈ vs → i ∈ ws) : Off ws σ σ' := ⟨a.1, fun i n => a.2 i fun m => n (h i m)⟩
theorem Off.set {i : Nat} {σ : L2.St} {x : Option V} : Off [i] σ (σ.set i x) := ⟨by rw [List.length_set], fun j h => by rw [List.getElem?_set_ne (fun e => h (by rw [e]; exact List.mem_singleton.mpr rfl))]⟩
theorem Off.symm {vs : List Nat} {σ σ' : L2.St} (a : Off vs σ σ') : Off vs σ' σ := ⟨a.1.symm, fun i h => (a.2 i h).symm⟩
theorem wipe_off : ∀ (vs : List Nat) (σ : L2.St), Off vs σ (wipe σ vs)
  | [], σ => Off.refl
  | v :: vs, σ => ((wipe_off vs σ).mono fun i h => List.mem_cons_of_mem _ h).trans (Off.set.mono fun i h => by rw [List.mem_singleton.mp h]; exact List.mem_cons_self)
theorem wipe_none : ∀ (vs : List Nat) (σ : L2.St) (i : Nat), i ∈ vs → i < σ.length → (wipe σ vs)[i]? = some none
  | v :: vs, σ, i, h, hl => by
    unfold wipe
    by_cases e : v = i
    · subst e
      exact List.getElem?_set_self (by rw [wipe_length]; exact hl)
    · rw [List.getElem?_set_ne e]
      rcases List.mem_cons.mp h with rfl | h
      · exact absurd rfl e
      · exact wipe_none vs σ i h hl
theorem wipe_eq {vs : List Nat} {σ σ' : L2.St} (a : Off vs σ σ') : wipe σ' vs = wipe σ vs := by
  apply List.ext_getElem?
  intro i
  by_cases h : i ∈ vs
  · by_cases hl : i < σ.length
    · rw [wipe_none vs σ i h hl, wipe_none vs σ' i h (by rw [a.1]; exact hl)]
    · rw [List.getElem?_eq_none (by rw [wipe_length, a.1]; omega), List.getElem?_eq_none (by rw [wipe_length]; omega)]
  · rw [(wipe_off vs σ').2 i h, (wipe_off vs σ).2 i h, a.2 i h]

section
variable {K : PySem.W.Frag} {H H' : Hp} {Z Z' : Addr → Prop} {σ : L2.St} {e : Env} {A : Nat → Addr → Prop}
/-- fewer boxes -/
def Sub (A' A : Nat → Addr → Prop) : Prop := ∀ i b, A' i b → A i b
theorem Sub.w {A' A : Nat → Addr → Prop} (h : Sub A' A) : ∀ b, W A' b → W A b := fun b ⟨i, a⟩ => ⟨i, h i b a⟩
theorem Sub.refl {A : Nat → Addr → Prop} : Sub A A := fun _ _ h => h
theorem Sub.trans {A B C : Nat → Addr → Prop} (a : Sub A B) (b : Sub B C) : Sub A C := fun i x h => b i x (a i x h)
theorem sub_uA {A : Nat → Addr → Prop} {i : Nat} : Sub (uA A i noA) A := fun j b h => by
  by_cases e : j = i
  · rw [e, uA_same] at h; exact h.elim
  · rw [uA_ne e] at h; exact h
theorem ER.forgets : ∀ {vs : List Nat} {e : Env} {A : Nat → Addr → Prop}, ER K H Z σ e A → ∃ A', ER K H Z σ (Vm.forget vs e) A' ∧ Sub A' A ∧ ∀ i ∈ vs, ∀ b, ¬ A' i b
  | [], e, A, E => ⟨A, E, Sub.refl, fun i h => by cases h⟩
  | v :: vs, e, A, E => by
    obtain ⟨A', E', s, n⟩ := ER.forgets (vs := vs) (E.forget v)
    refine ⟨A', E', s.trans sub_uA, fun i h b a => ?_⟩
    rcases List.mem_cons.mp h with rfl | h
    · have := s _ _ a
      rw [uA_same] at this
      exact this
    · exact n i h b a
theorem forget_none : ∀ {vs : List Nat} {e : Env} {i : Nat}, i ∈ vs → ∀ o, (forget vs e)[i]? ≠ some (some o)
  | v :: vs, e, i, h, o => by
    unfold forget
    by_cases hv : i ∈ vs
    · exact forget_none hv o
    · rcases List.mem_cons.mp h with rfl | h
      · have key : ∀ {vs : List Nat} {e : Env}, i ∉ vs → (forget vs e)[i]? = e[i]? := by
          intro vs
          induction vs with
          | nil => intro e _; rfl
          | cons w vs ih =>
            intro e hn
            unfold forget
            rw [ih (fun m => hn (List.mem_cons_of_mem _ m)), List.getElem?_set_ne (fun q => hn (by rw [q]; exact List.mem_cons_self))]
        rw [key hv]
        intro q
        by_cases hl : i < e.length
        · rw [List.getElem?_set_self hl] at q; cases q
        · rw [List.getElem?_eq_none (by simpa using hl)] at q; cases q
      · exact absurd h hv
theorem forget_other : ∀ {vs : List Nat} {e : Env} {i : Nat}, i ∉ vs → (forget vs e)[i]? = e[i]?
  | [], e, i, _ => rfl
  | w :: vs, e, i, hn => by
    unfold forget
    rw [forget_other (fun m => hn (List.mem_cons_of_mem _ m)), List.getElem?_set_ne (fun q => hn (by rw [q]; exact List.mem_cons_self))]
/-- what is forgotten may have any value -/
theorem ER.off {vs : List Nat} (E : ER K H Z σ (Vm.forget vs e) A) {σ' : L2.St} (o : Off vs σ σ') : ER K H Z σ' (Vm.forget vs e) A :=
  E.vals o.1 fun i x v h hv => by
    by_cases hi : i ∈ vs
    · exact absurd h (forget_none hi x)
    · rw [o.2 i hi]; exact hv
theorem ER.setD (E : ER K H Z σ e A) {i : Nat} {d : D} {v : V} (r : RD K H Z d v) (hi : i < e.length) : ER K H Z (σ.set i (some v)) (e.set i (some (.d d))) (uA A i noA) :=
  E.set (o := .d d) (B := noA) ⟨r, fun _ h => h⟩ (fun _ _ _ h => h) (fun _ h => h.elim) hi
end

/-! ### targets -/
section
variable {X : Cx} {sc : Scope} {N : List Str} {glob : String → Option D}
def gTg (K : PySem.W.Frag) (tg : Tg) : TG := fun v σ H Q => ∃ Z e A d e', ER K H Z σ e A ∧ RD K H Z d v ∧ tgSet tg d e = some e' ∧ ∀ σ' A', ER K H Z σ' e' A' → Sub A' A → Off (tgSlots tg) σ σ' → Q σ' H
def gTgs (K : PySem.W.Frag) (tg : Tg) : TGs := fun vs σ H Q => ∃ Z e A ds e', ER K H Z σ e A ∧ RDs K H Z ds vs ∧ tgSets tg ds e = some e' ∧ ∀ σ' A', ER K H Z σ' e' A' → Sub A' A → Off (tgSlots tg) σ σ' → Q σ' H
theorem loc_of {x : Str} (h : locC sc x = true) : Loc sc x := by
  unfold locC at h
  split at h <;> first | exact .inl (by assumption) | exact .inr (by assumption) | cases h
theorem asg_star {e : Expr} (h : plainH e = true) (es : List Expr) (env : PySem.Env) : assignEach (e :: es) env = (false, assign e env) :: assignEach es env := by
  cases e <;> first | rfl | cases h
theorem agT_plain {tg : Tg} {t : Expr} (h : agT N sc tg t = true) : plainH t = true := by
  cases t <;> first | rfl | skip
  all_goals (cases tg <;> simp [agT] at h)
theorem agTs_plain : ∀ {tg : Tg} {l : List Expr}, agTs N sc tg l = true → ∀ t ∈ l, plainH t = true
  | .nil, [], _, t, h => by cases h
  | .cons a b, e :: es, hl, t, h => by
    simp only [agTs, Bool.and_eq_true] at hl
    rcases List.mem_cons.mp h with rfl | h
    · exact agT_plain hl.1
    · exact agTs_plain hl.2 t h
  | .nil, _ :: _, hl, _, _ => by simp [agTs] at hl
  | .cons _ _, [], hl, _, _ => by simp [agTs] at hl
  | .n _, [], hl, _, _ => by simp [agTs] at hl
  | .n _, _ :: _, hl, _, _ => by simp [agTs] at hl
theorem asg_each : ∀ {l : List Expr} {env : PySem.Env}, (∀ t ∈ l, plainH t = true) → assignEach l env = l.map fun t => (false, assign t env)
  | [], env, _ => rfl
  | t :: l, env, h => by rw [asg_star (h t List.mem_cons_self), asg_each fun x hx => h x (List.mem_cons_of_mem _ hx)]; rfl
theorem tgs_len {scT : Scope} : ∀ (tg : Tg) (l : List Expr) (xs : List D) (e e' : Env), agTs N scT tg l = true → tgSets tg xs e = some e' → xs.length = l.length
  | .nil, [], [], _, _, _, _ => rfl
  | .nil, [], _ :: _, _, _, _, h => by simp [tgSets] at h
  | .cons a b, t :: l, x :: xs, e, e', h, he => by
    simp only [agTs, Bool.and_eq_true] at h
    simp only [tgSets] at he
    split at he
    · rename_i e1 he1
      rw [List.length_cons, List.length_cons, tgs_len b l xs _ _ h.2 he]
    · cases he
  | .cons a b, t :: l, [], _, _, _, h => by simp [tgSets] at h
  | .nil, _ :: _, _, _, _, h, _ => by simp [agTs] at h
  | .cons _ _, [], _, _, _, h, _ => by simp [agTs] at h
  | .n _, [], _, _, _, h, _ => by simp [agTs] at h
  | .n _, _ :: _, _, _, _, h, _ => by simp [agTs] at h
mutual
theorem tg_rule (C : CxOk X sc N glob) {scT : Scope} (hf : ∀ (x : Str), locC scT x = true → Loc X.env.scope x ∧ (X.fn x = true ∨ X.env.scope.names.lookup x = some .local)) : ∀ (tg : Tg) (t : Expr), agT N scT tg t = true → PG X t (gTg X.K tg)
  | .n i, t, h => by
    cases t <;> first | (simp [agT] at h; done) | skip
    rename_i x p
    simp only [agT, Bool.and_eq_true, decide_eq_true_eq] at h
    refine PG.mono (pg_name (X := X) (i := i) (by rw [C.hN]; exact C.nd) (by rw [C.hN]; exact h.1) (hf x h.2).1 (hf x h.2).2) fun v σ H Q ⟨Z, e, A, d, e', E, r, he, k⟩ => ?_
    simp only [tgSet] at he
    split at he
    · rename_i hi
      cases he
      exact k _ _ (E.setD r hi) sub_uA Off.set
    · cases he
  | .nil, t, h => by cases t <;> simp [agT] at h
  | .cons a b, t, h => by
    cases t <;> first | (simp [agT] at h; done) | skip
    rename_i es k p
    simp only [agT] at h
    have hp := agTs_plain h
    have h2 := tgs_rule C hf (.cons a b) es h
    have ea := asg_each (env := X.env) hp
    refine PG.mono (pg_tup (n := es.length) C.calm h2 (by rw [ea, List.length_map]) (by rw [ea, List.findIdx?_map]; exact List.findIdx?_eq_none_iff.mpr fun _ _ => rfl)) fun v σ H Q ⟨Z, e, A, d, e', E, r, he, k⟩ => ?_
    cases d <;> first | (simp [tgSet] at he; done) | skip
    rename_i xs
    simp only [tgSet] at he
    obtain ⟨q, vs, rfl, hq, rs⟩ := rd_tup.mp r
    refine ⟨q, vs, rfl, hq, ?_, Z, e, A, xs, e', E, rs, he, k⟩
    rw [← rs.length]
    exact tgs_len (.cons a b) es xs e e' h he
theorem tgs_rule (C : CxOk X sc N glob) {scT : Scope} (hf : ∀ (x : Str), locC scT x = true → Loc X.env.scope x ∧ (X.fn x = true ∨ X.env.scope.names.lookup x = some .local)) : ∀ (tg : Tg) (l : List Expr), agTs N scT tg l = true → PGs X l (gTgs X.K tg)
  | .nil, [], h => PGs.mono pgs_nil fun vs σ H Q ⟨Z, e, A, ds, e', E, r, he, k⟩ => by
    cases ds with
    | cons d ds => simp [tgSets] at he
    | nil =>
      simp only [tgSets] at he
      cases he
      exact ⟨RDs.nil_iff.mp r, k _ _ E Sub.refl Off.refl⟩
  | .cons a b, t :: l, h => by
    simp only [agTs, Bool.and_eq_true] at h
    have hp := agT_plain h.1
    have h1 := PG.up (tg_rule C hf a t h.1)
    have h2 := PGs.up (tgs_rule C hf b l h.2)
    refine PGs.mono (pgs_cons h1 h2 (by rw [asg_star hp]; rfl)) fun vs σ H Q ⟨Z, e, A, ds, e', E, r, he, k⟩ => ?_
    cases ds with
    | nil => simp [tgSets] at he
    | cons d ds =>
      simp only [tgSets] at he
      split at he
      · rename_i e1 he1
        obtain ⟨v, vr, rfl, r1, r2⟩ := RDs.cons_iff.mp r
        refine ⟨v, vr, rfl, fun σ1 H1 => H1 = H ∧ ∃ A1, ER X.K H Z σ1 e1 A1 ∧ Sub A1 A ∧ Off (tgSlots a) σ σ1, ⟨Z, e, A, d, e1, E, r1, he1, fun σ' A' E' s o => ⟨rfl, A', E', s, o⟩⟩, fun σ1 H1 ⟨eH, A1, E1, s1, o1⟩ => ?_⟩
        subst eH
        refine ⟨fun σ2 H2 => Q σ2 H2, ⟨Z, e1, A1, ds, e', E1, r2, he, fun σ' A' E' s o => k _ _ E' (s.trans s1) ?_⟩, fun _ _ q => q⟩
        exact (o1.mono fun i hi => List.mem_append_left _ hi).trans (o.mono fun i hi => List.mem_append_right _ hi)
      · cases he
  | .nil, _ :: _, h => by simp [agTs] at h
  | .cons _ _, [], h => by simp [agTs] at h
  | .n _, [], h => by simp [agTs] at h
  | .n _, _ :: _, h => by simp [agTs] at h
end
end
end Vm

set_option Elab.async false
set_option linter.all false
set_option maxRecDepth 100000
/-! V12: quiet expressions: what the machine says is what the text does. -/
namespace Vm
open PySem PySem.Spec PyProof.Rows L2

/-- methods -/
def rMopG (K : PySem.W.Frag) (f : OpK) (es : I) (x : V) (xs : List V) (H : Hp) (Q : VK) : Prop := ∃ Z dx ds d, RV K H Z dx x ∧ RVs K H Z ds xs ∧ (f = .get2 → ∃ k z y w, ds = [k, z] ∧ xs = [y, w] ∧ RD K H Z z w) ∧ opD f (dx :: ds) = some d ∧ ∀ v H', OPost K H Z f d v H' → Q v H'
def clsO (f : OpK) : String := match mthO f with
  | some (T, _) => T
  | none => ""
section
variable {X : Cx} {sc : Scope} {N : List Str} {glob : String → Option D} {ex o : Expr} {f : OpK} {l : List Expr} {ts : List TE} {to : TE}
theorem ty_of {K : PySem.W.Frag} {H : Hp} {Z : Addr → Prop} {d : D} {x : V} {T n : String} (hm : mthO f = some (T, n)) (h : tyD f d = true) (r : RV K H Z d x) : tyW K T x H := by
  cases f <;> first | (cases hm; done) | skip
  all_goals cases hm
  all_goals (cases d <;> first | (cases h; done) | skip)
  · rw [rv_str.mp r]; exact .inl rfl
  · obtain ⟨a, vs, rfl, h1, _⟩ := rv_dct.mp r; exact .inr ⟨rfl, a, vs, rfl, h1⟩
  · obtain ⟨a, vs, rfl, h1, _⟩ := rv_dct.mp r; exact .inr ⟨rfl, a, vs, rfl, h1⟩
  all_goals (rw [rv_str.mp r]; exact .inl rfl)
theorem notcall0 {o : Expr} (h : isCall0 o = false) : ∀ x p q, o ≠ .Call (.Name x p) [] [] q := by
  rintro x p q rfl
  cases h
theorem mop_rule (C : CxOk X sc N glob) (h : mopArgs f ex = some (o, l)) (po : PE X o to) (p : PEL X l ts) (es : I) :
    PE X ex (fun σ H Q => to σ H fun x H1 => tyW X.K (clsO f) x H1 ∧ tCh ts σ H1 fun vs H2 => rMopG X.K f es x vs H2 Q) := by
  unfold mopArgs at h
  split at h
  · split at h
    · rename_i T n hm
      split at h
      · rename_i hc
        cases h
        obtain ⟨rfl, hline, hcall, hlen⟩ := hc
        have hb := base_of (Str.ofString n) X.env (notcall0 hcall)
        have hcls : clsO f = T := by unfold clsO; rw [hm]
        rw [hcls]
        cases f <;> first | (cases hm; done) | skip
        all_goals cases hm
        · cases p with
          | nil => exact PE.mono (pe_mop0 PySem.F.plainAttrs_str PySem.F.slot_str_join PySem.F.type_str_join (r := fun _ _ _ _ => False) (fun _ _ _ _ _ _ _ _ _ _ _ _ z => z.elim) (Vm.PE.up po) hb hline) fun σ H Q hh => up_of hh fun x H1 ⟨ty, Z, dx, ds, d, r, rs, _, e, k⟩ => ⟨ty, by
              cases ds with
              | nil => cases dx <;> cases e
              | cons _ _ => obtain ⟨_, _, e2, _⟩ := rs; cases e2⟩
          | cons hp he hr =>
            refine pe_mop PySem.F.plainAttrs_str PySem.F.slot_str_join PySem.F.type_str_join (r := rMopG X.K .join es) (MtR.imp r_join fun x xs H Q ⟨Z, dx, ds, d, r, rs, _, e, k⟩ => ⟨Z, dx :: ds, d, ⟨x, xs, rfl, r, rs⟩, e, k⟩) po (PEL.cons hp he hr).pa hb (PEL.cons hp he hr).plain hlen hline
        · cases p with
          | nil => exact PE.mono (pe_mop0 PySem.F.plainAttrs_dict PySem.F.slot_dict_get PySem.F.type_dict_get (r := fun _ _ _ _ => False) (fun _ _ _ _ _ _ _ _ _ _ _ _ z => z.elim) (Vm.PE.up po) hb hline) fun σ H Q hh => up_of hh fun x H1 ⟨ty, Z, dx, ds, d, r, rs, _, e, k⟩ => ⟨ty, by
              cases ds with
              | nil => cases dx <;> cases e
              | cons _ _ => obtain ⟨_, _, e2, _⟩ := rs; cases e2⟩
          | cons hp he hr =>
            refine pe_mop PySem.F.plainAttrs_dict PySem.F.slot_dict_get PySem.F.type_dict_get (r := rMopG X.K .get1 es) (MtR.imp (r_get1 C.hu) fun x xs H Q ⟨Z, dx, ds, d, r, rs, _, e, k⟩ => ⟨Z, dx :: ds, d, ⟨x, xs, rfl, r, rs⟩, e, k⟩) po (PEL.cons hp he hr).pa hb (PEL.cons hp he hr).plain hlen hline
        · cases p with
          | nil => exact PE.mono (pe_mop0 PySem.F.plainAttrs_dict PySem.F.slot_dict_get PySem.F.type_dict_get (r := fun _ _ _ _ => False) (fun _ _ _ _ _ _ _ _ _ _ _ _ z => z.elim) (Vm.PE.up po) hb hline) fun σ H Q hh => up_of hh fun x H1 ⟨ty, Z, dx, ds, d, r, rs, _, e, k⟩ => ⟨ty, by
              cases ds with
              | nil => cases dx <;> cases e
              | cons _ _ => obtain ⟨_, _, e2, _⟩ := rs; cases e2⟩
          | cons hp he hr =>
            refine pe_mop PySem.F.plainAttrs_dict PySem.F.slot_dict_get PySem.F.type_dict_get (r := rMopG X.K .get2 es) (MtR.imp (r_get2 C.hu) fun x xs H Q ⟨Z, dx, ds, d, r, rs, g2, e, k⟩ => ?_) po (PEL.cons hp he hr).pa hb (PEL.cons hp he hr).plain hlen hline
            obtain ⟨k0, z, y, w, rfl, rfl, rz⟩ := g2 rfl
            obtain ⟨a, b, e1, ra, rb⟩ := RVs.two rs
            cases e1
            exact ⟨Z, _, d, ⟨dx, k0, z, rfl, ⟨x, [y], rfl, r, y, [], rfl, ra, rfl⟩, rfl, rz⟩, e, k⟩
        · cases p with
          | nil => exact PE.mono (pe_mop0 PySem.F.plainAttrs_str PySem.F.slot_str_upper PySem.F.type_str_upper (r := rMopG X.K .upper es) (MtR.imp r_upper fun x xs H Q ⟨Z, dx, ds, d, r, rs, _, e, k⟩ => ⟨Z, dx :: ds, d, ⟨x, xs, rfl, r, rs⟩, e, k⟩) (Vm.PE.up po) hb hline) fun σ H Q hh => up_of hh fun x H1 h => h
          | cons hp he hr =>
            exact pe_mop PySem.F.plainAttrs_str PySem.F.slot_str_upper PySem.F.type_str_upper (r := rMopG X.K .upper es) (MtR.imp r_upper fun x xs H Q ⟨Z, dx, ds, d, r, rs, _, e, k⟩ => ⟨Z, dx :: ds, d, ⟨x, xs, rfl, r, rs⟩, e, k⟩) po (PEL.cons hp he hr).pa hb (PEL.cons hp he hr).plain hlen hline
        · cases p with
          | nil => exact PE.mono (pe_mop0 PySem.F.plainAttrs_str PySem.F.slot_str_lower PySem.F.type_str_lower (r := rMopG X.K .lower es) (MtR.imp r_lower fun x xs H Q ⟨Z, dx, ds, d, r, rs, _, e, k⟩ => ⟨Z, dx :: ds, d, ⟨x, xs, rfl, r, rs⟩, e, k⟩) (Vm.PE.up po) hb hline) fun σ H Q hh => up_of hh fun x H1 h => h
          | cons hp he hr =>
            exact pe_mop PySem.F.plainAttrs_str PySem.F.slot_str_lower PySem.F.type_str_lower (r := rMopG X.K .lower es) (MtR.imp r_lower fun x xs H Q ⟨Z, dx, ds, d, r, rs, _, e, k⟩ => ⟨Z, dx :: ds, d, ⟨x, xs, rfl, r, rs⟩, e, k⟩) po (PEL.cons hp he hr).pa hb (PEL.cons hp he hr).plain hlen hline
        · cases p with
          | nil => exact PE.mono (pe_mop0 PySem.F.plainAttrs_str PySem.F.slot_str_isupper PySem.F.type_str_isupper (r := rMopG X.K .isupper es) (MtR.imp r_isupper fun x xs H Q ⟨Z, dx, ds, d, r, rs, _, e, k⟩ => ⟨Z, dx :: ds, d, ⟨x, xs, rfl, r, rs⟩, e, k⟩) (Vm.PE.up po) hb hline) fun σ H Q hh => up_of hh fun x H1 h => h
          | cons hp he hr =>
            exact pe_mop PySem.F.plainAttrs_str PySem.F.slot_str_isupper PySem.F.type_str_isupper (r := rMopG X.K .isupper es) (MtR.imp r_isupper fun x xs H Q ⟨Z, dx, ds, d, r, rs, _, e, k⟩ => ⟨Z, dx :: ds, d, ⟨x, xs, rfl, r, rs⟩, e, k⟩) po (PEL.cons hp he hr).pa hb (PEL.cons hp he hr).plain hlen hline
        · cases p with
          | nil => exact PE.mono (pe_mop0 PySem.F.plainAttrs_str PySem.F.slot_str_islower PySem.F.type_str_islower (r := rMopG X.K .islower es) (MtR.imp r_islower fun x xs H Q ⟨Z, dx, ds, d, r, rs, _, e, k⟩ => ⟨Z, dx :: ds, d, ⟨x, xs, rfl, r, rs⟩, e, k⟩) (Vm.PE.up po) hb hline) fun σ H Q hh => up_of hh fun x H1 h => h
          | cons hp he hr =>
            exact pe_mop PySem.F.plainAttrs_str PySem.F.slot_str_islower PySem.F.type_str_islower (r := rMopG X.K .islower es) (MtR.imp r_islower fun x xs H Q ⟨Z, dx, ds, d, r, rs, _, e, k⟩ => ⟨Z, dx :: ds, d, ⟨x, xs, rfl, r, rs⟩, e, k⟩) po (PEL.cons hp he hr).pa hb (PEL.cons hp he hr).plain hlen hline
        · cases p with
          | nil => exact PE.mono (pe_mop0 PySem.F.plainAttrs_str PySem.F.slot_str_split PySem.F.type_str_split (r := fun _ _ _ _ => False) (fun _ _ _ _ _ _ _ _ _ _ _ _ z => z.elim) (Vm.PE.up po) hb hline) fun σ H Q hh => up_of hh fun x H1 ⟨ty, Z, dx, ds, d, r, rs, _, e, k⟩ => ⟨ty, by
              cases ds with
              | nil => cases dx <;> cases e
              | cons _ _ => obtain ⟨_, _, e2, _⟩ := rs; cases e2⟩
          | cons hp he hr =>
            exact pe_mop PySem.F.plainAttrs_str PySem.F.slot_str_split PySem.F.type_str_split (r := rMopG X.K .split es) (MtR.imp r_split fun x xs H Q ⟨Z, dx, ds, d, r, rs, _, e, k⟩ => ⟨Z, dx :: ds, d, ⟨x, xs, rfl, r, rs⟩, e, k⟩) po (PEL.cons hp he hr).pa hb (PEL.cons hp he hr).plain hlen hline
      · cases h
    · cases h
  · cases h
end

/-! ### readings of quiet expressions -/
section
variable (G : Gs) (K : PySem.W.Frag)
def tQ (c : Bool) (a : I) : TE := fun σ H Q => ∃ Z e A d, ER K H Z σ e A ∧ q G c a e = some d ∧ ∀ v H' Z', Grow H Z H' Z' → (∀ b, Z' b → H' b ≠ none) → RV K H' Z' d v → (c = true ∨ lentE a = false → RD K H' Z' d v) → Q v H'
def tQL (c : Bool) : I → List TE
  | .cons a r => tQ G K c a :: tQL c r
  | _ => []
/-- what the operands are -/
def RXs (H : Hp) (Z : Addr → Prop) (c : Bool) : I → List D → List V → Prop
  | .cons a r, ds, vs => ∃ d ds' v vs', ds = d :: ds' ∧ vs = v :: vs' ∧ RV K H Z d v ∧ (c = true ∨ lentE a = false → RD K H Z d v) ∧ RXs H Z c r ds' vs'
  | _, ds, vs => ds = [] ∧ vs = []
def qL (c : Bool) (es : I) (e : Env) : Option (List D) := if c = true then qcs G es e else qs G es e
end
section
variable {G : Gs} {K : PySem.W.Frag} {H H' : Hp} {Z Z' : Addr → Prop} {c : Bool}
theorem RXs.grow : ∀ {es : I} {ds : List D} {vs : List V}, RXs K H Z c es ds vs → Grow H Z H' Z' → RXs K H' Z' c es ds vs
  | .cons a r, ds, vs, h, g => by
    obtain ⟨d, ds', v, vs', e1, e2, h1, h2, h3⟩ := h
    exact ⟨d, ds', v, vs', e1, e2, h1.grow g, fun n => RD.still g.still (h2 n), RXs.grow h3 g⟩
  | .nil, _, _, h, _ => h
  | .var _, _, _, h, _ => h
  | .mv _, _, _, h, _ => h
  | .fv _, _, _, h, _ => h
  | .k _, _, _, h, _ => h
  | .g _, _, _, h, _ => h
  | .op _ _, _, _, h, _ => h
  | .mop _ _ _, _, _, h, _ => h
  | .slc _ _ _, _, _, h, _ => h
  | .ch _ _ _ _ _, _, _, h, _ => h
  | .and_ _, _, _, h, _ => h
  | .or_ _, _, _, h, _ => h
  | .not_ _, _, _, h, _ => h
  | .ite _ _ _, _, _, h, _ => h
  | .lst _, _, _, h, _ => h
  | .tup _, _, _, h, _ => h
  | .dic _, _, _, h, _ => h
  | .lc _ _ _ _ _, _, _, h, _ => h
  | .call _ _, _, _, h, _ => h
  | .mut _ _ _, _, _, h, _ => h
theorem RXs.rvs : ∀ {es : I} {ds : List D} {vs : List V}, RXs K H Z c es ds vs → RVs K H Z ds vs := by
  intro es
  induction es with
  | cons a r _ ih =>
    intro ds vs h
    obtain ⟨d, ds', v, vs', rfl, rfl, h1, h2, h3⟩ := h
    exact ⟨v, vs', rfl, h1, ih h3⟩
  | _ =>
    intro ds vs h
    obtain ⟨rfl, rfl⟩ := h
    exact rfl
theorem RXs.rds : ∀ {es : I} {ds : List D} {vs : List V}, RXs K H Z true es ds vs → RDs K H Z ds vs := by
  intro es
  induction es with
  | cons a r _ ih =>
    intro ds vs h
    obtain ⟨d, ds', v, vs', rfl, rfl, h1, h2, h3⟩ := h
    exact RDs.mk (h2 (.inl rfl)) (ih h3)
  | _ =>
    intro ds vs h
    obtain ⟨rfl, rfl⟩ := h
    exact RDs.nil_iff.mpr rfl
theorem qL_cons {a r : I} {e : Env} {ds : List D} (h : qL G c (.cons a r) e = some ds) : ∃ d ds', q G c a e = some d ∧ qL G c r e = some ds' ∧ ds = d :: ds' := by
  unfold qL at h
  cases c with
  | true =>
    simp only [if_true] at h
    unfold qcs at h
    split at h
    · rename_i d ds' h1 h2
      cases h
      exact ⟨d, ds', h1, h2, rfl⟩
    · cases h
  | false =>
    simp only [Bool.false_eq_true, if_false] at h
    unfold qs at h
    split at h
    · rename_i d ds' h1 h2
      cases h
      exact ⟨d, ds', h1, h2, rfl⟩
    · cases h
theorem qL_nil {e : Env} {ds : List D} (h : qL G c .nil e = some ds) : ds = [] := by
  unfold qL at h
  cases c with
  | true => simp only [if_true] at h; unfold qcs at h; cases h; rfl
  | false => simp only [Bool.false_eq_true, if_false] at h; unfold qs at h; cases h; rfl
/-- operands in a row -/
theorem chainQ {σ : L2.St} : ∀ {es : I} {H : Hp} {Z : Addr → Prop} {e : Env} {A : Nat → Addr → Prop} {ds : List D} {R : List V → Hp → Prop}, ER K H Z σ e A → qL G c es e = some ds →
    (∀ vs H' Z', Grow H Z H' Z' → (∀ b, Z' b → H' b ≠ none) → RXs K H' Z' c es ds vs → R vs H') → tCh (tQL G K c es) σ H R := by
  intro es
  induction es with
  | cons a r _ ih =>
    intro H Z e A ds R E h k
    obtain ⟨d, ds', h1, h2, rfl⟩ := qL_cons h
    refine ⟨Z, e, A, d, E, h1, fun v H1 Z1 g zd rv rd => ?_⟩
    refine ih (E.grow g zd) h2 fun vs H2 Z2 g2 zd2 rx => ?_
    exact k (v :: vs) H2 Z2 (g.trans g2) zd2 ⟨d, ds', v, vs, rfl, rfl, rv.grow g2, fun n => RD.still g2.still (rd n), rx⟩
  | nil =>
    intro H Z e A ds R E h k
    rw [qL_nil h] at k
    exact k [] H Z Grow.refl E.zd ⟨rfl, rfl⟩
  | _ =>
    intro H Z e A ds R E h k
    unfold qL at h
    cases c <;> simp [qcs, qs] at h
/-- what an operator left, frozen -/
theorem post_frz {f : OpK} {d : D} {v : V} (p : OPost K H Z f d v H') (zd : ∀ b, Z b → H b ≠ none) : ∃ Z', Grow H Z H' Z' ∧ (∀ b, Z' b → H' b ≠ none) ∧ RD K H' Z' d v := by
  have dom : ∀ b, Z b → H' b ≠ none := fun b z n => zd b z (p.same.free n)
  rcases p.res with ⟨r, _⟩ | ⟨_, q, hq, r⟩
  · exact ⟨Z, ⟨p.same, fun _ z => z, fun _ z => .inl z⟩, dom, r⟩
  · refine ⟨fun b => Z b ∨ b = q, ⟨p.same, fun _ z => .inl z, fun b z => z.elim .inl fun e => .inr (by rw [e]; exact hq)⟩, fun b z => ?_, ?_⟩
    · rcases z with z | rfl
      · exact dom b z
      · have := r.mut (b := b) rfl
        intro n
        rw [n] at this
        exact this
    · have := r.toRD
      rw [toD_ownOf] at this
      exact this
end
end Vm

set_option Elab.async false
set_option linter.all false
set_option maxRecDepth 100000
/-! V13: quiet expressions: the theorem. -/
namespace Vm
open PySem PySem.Spec PyProof.Rows L2

section
variable (G : Gs) (K : PySem.W.Frag)
def tQT (a : I) : TT := fun σ H Q => ∃ Z e A b, ER K H Z σ e A ∧ q G false a e = some (.bl b) ∧ ∀ H' Z', Grow H Z H' Z' → (∀ b, Z' b → H' b ≠ none) → Q b H'
def tQTs (a : I) : TT := fun σ H Q => ∃ Z e A b, ER K H Z σ e A ∧ qTs G a e = some b ∧ ∀ H' Z', Grow H Z H' Z' → (∀ b, Z' b → H' b ≠ none) → Q b H'
def tQB (f : Env → Option D) : TE := fun σ H Q => ∃ Z e A b, ER K H Z σ e A ∧ f e = some (.bl b) ∧ ∀ H' Z', Grow H Z H' Z' → (∀ b, Z' b → H' b ≠ none) → Q (.bl b) H'
def tQBT (f : Env → Option D) : TT := fun σ H Q => ∃ Z e A b, ER K H Z σ e A ∧ f e = some (.bl b) ∧ ∀ H' Z', Grow H Z H' Z' → (∀ b, Z' b → H' b ≠ none) → Q b H'
end
theorem relS_at {scope sc : Scope} {x : Str} {k : NameKind} (h : scope.names.lookup x = some k) (hk : k ≠ .free) : (relS scope sc).names.lookup x = some k := by
  have key : ∀ l : List (Str × NameKind), l.lookup x = some k → (l.map fun p : Str × NameKind => if (p.2 == .free && sc.kind == .function && sc.names.lookup p.1 == some .cell) = true then (p.1, NameKind.cell) else (p.1, p.2)).lookup x = some k := by
    intro l
    induction l with
    | nil => intro h; cases h
    | cons p r ih =>
      intro h
      obtain ⟨n, k0⟩ := p
      rw [List.map_cons]
      by_cases e : (x == n) = true
      · rw [List.lookup_cons, e] at h
        have h' : some k0 = some k := h
        cases h'
        have : (k == NameKind.free) = false := by cases k <;> first | rfl | exact absurd rfl hk
        have e1 : (k == NameKind.free && sc.kind == ScopeKind.function && List.lookup n sc.names == some NameKind.cell) = false := by rw [this]; rfl
        simp only [e1, Bool.false_eq_true, if_false, List.lookup_cons, e]
      · have e2 : (x == n) = false := by simpa using e
        rw [List.lookup_cons, e2] at h
        have h' : List.lookup x r = some k := h
        split <;> (rw [List.lookup_cons]; simp only [e2]; exact ih h')
  exact key _ h
section
variable {X : Cx} {sc : Scope} {N : List Str} {glob : String → Option D} {f : OpK} {l : List Expr} {ts : List TE}
theorem CxOk.blk (C : CxOk X sc N glob) (s : Shared) (H : Hp) (scope : Scope) (c : Addr) (cl : List (Str × Addr)) (fp : List Addr) : CxOk (X.blk s H scope (compEnvC scope cl c X.env) fp) (relS scope sc) N glob :=
  ⟨C.hN, C.nd, by rw [← C.sc]; rfl, C.calm, C.hu, C.bn, C.gl, C.tb⟩
theorem blk_loc (C : CxOk X sc N glob) (s : Shared) (H : Hp) (scope : Scope) (c : Addr) (cl : List (Str × Addr)) (fp : List Addr) (x : Str) (h : locC scope x = true) :
    Loc (X.blk s H scope (compEnvC scope cl c X.env) fp).env.scope x ∧ ((X.blk s H scope (compEnvC scope cl c X.env) fp).fn x = true ∨ (X.blk s H scope (compEnvC scope cl c X.env) fp).env.scope.names.lookup x = some .local) := by
  have e : (X.blk s H scope (compEnvC scope cl c X.env) fp).env.scope = relS scope sc := by rw [← C.sc]; rfl
  rw [e]
  unfold locC at h
  split at h
  · rename_i hl
    have := relS_at (sc := sc) hl (by decide)
    exact ⟨.inl this, .inr this⟩
  · rename_i hl
    have := relS_at (sc := sc) hl (by decide)
    refine ⟨.inr this, .inl ?_⟩
    show (scope.names.lookup x == some .cell) = true
    rw [hl]
    rfl
  · cases h
theorem own_slots {scT : Scope} : ∀ (tg : Tg), (∀ t, agT N scT tg t = true → (tgOwn N tg).map (·.2) = tgSlots tg) ∧ (∀ l, agTs N scT tg l = true → (tgOwn N tg).map (·.2) = tgSlots tg) := by
  intro tg
  induction tg with
  | n i =>
    refine ⟨fun t h => ?_, fun l h => by cases l <;> simp [agTs] at h⟩
    cases t <;> first | (simp [agT] at h; done) | skip
    simp only [agT, Bool.and_eq_true, decide_eq_true_eq] at h
    simp only [tgOwn, h.1, tgSlots, List.map_cons, List.map_nil]
  | nil =>
    exact ⟨fun t h => by cases t <;> simp [agT] at h, fun l h => rfl⟩
  | cons a b iha ihb =>
    have key : ∀ l, agTs N scT (.cons a b) l = true → (tgOwn N (.cons a b)).map (·.2) = tgSlots (.cons a b) := by
      intro l h
      cases l with
      | nil => simp [agTs] at h
      | cons t l =>
        simp only [agTs, Bool.and_eq_true] at h
        simp only [tgOwn, tgSlots, List.map_append, iha.1 t h.1, ihb.2 l h.2]
    refine ⟨fun t h => ?_, key⟩
    cases t <;> first | (simp [agT] at h; done) | skip
    simp only [agT] at h
    exact key _ h
/-- a test's text whose value is looked at -/
def plainT : Expr → Bool
  | .BoolOp _ _ _ => false
  | .UnaryOp .Not _ _ => false
  | .IfExp _ _ _ _ => false
  | .Compare _ _ _ _ => false
  | _ => true
theorem tst_of {e : Expr} (h : plainT e = true) (env : PySem.Env) : ∀ whole, isTrue e env whole = (do let v ← whole; standAt e.pos; holding [v] (truthy v)) := by
  intro whole
  cases e <;> first | (cases h; done) | rfl | skip
  rename_i o x p
  cases o <;> first | (cases h; done) | rfl
theorem cmp_of (C : CxOk X sc N glob) {o : CmpOp} (h : cmpO f = some o) : OpR X (compareOp o) (fun x y H Q => rOp X.K f [x, y] H Q) := by
  cases f <;> first | (cases h; done) | skip
  all_goals cases h
  · exact r_cmp op_lt rfl
  · exact r_cmp op_le rfl
  · exact r_cmp op_gt rfl
  · exact r_cmp op_ge rfl
  · exact r_eq C.hu
  · exact r_ne C.hu
  · exact r_inn C.hu
  · exact r_nin C.hu
theorem agK_rule {c : D} {ex : Expr} (h : agK c ex = true) : ∃ v, PE X ex (tC v) ∧ (∀ K H Z, RD K H Z c v) ∧ flat c = true := by
  cases ex <;> first | (cases h; done) | skip
  rename_i k j p
  cases k <;> cases c <;> first | (cases h; done) | skip
  all_goals simp only [agK] at h
  · exact ⟨.non, pe_non, fun _ _ _ => rd_non.mpr rfl, rfl⟩
  · have := beq_iff_eq.mp h
    subst this
    exact ⟨.bl _, pe_bl, fun _ _ _ => rd_bl.mpr rfl, rfl⟩
  · have := beq_iff_eq.mp h
    subst this
    exact ⟨.int _, pe_int, fun _ _ _ => rd_int.mpr rfl, rfl⟩
  · have := of_decide_eq_true h
    subst this
    exact ⟨.str _, pe_str, fun _ _ _ => rd_str.mpr rfl, rfl⟩
theorem var_rule (C : CxOk X sc N glob) {i : Nat} {ex : Expr} (h : agV N sc i ex = true) : PE X ex (tVar i) := by
  cases ex <;> first | (cases h; done) | skip
  simp only [agV, Bool.and_eq_true, decide_eq_true_eq] at h
  obtain ⟨⟨⟨h1, h2⟩, h3⟩, h4⟩ := h
  exact pe_var (by rw [C.hN]; exact h1) (by rw [C.sc]; exact vis_of h2) h3 h4
end
end Vm

set_option Elab.async false
set_option linter.all false
set_option maxRecDepth 100000
/-! V14: quiet expressions: the theorem. -/
namespace Vm
open PySem PySem.Spec PyProof.Rows L2

section
variable {T : Tb} {G : Gs}
theorem qs_qL {es : I} {e : Env} {ds : List D} (h : qs G es e = some ds) : qL G false es e = some ds := h
theorem qcs_qL {es : I} {e : Env} {ds : List D} (h : qcs G es e = some ds) : qL G true es e = some ds := h
/-- the turns of a quiet comprehension -/
theorem q_lc {X : Cx} {sc : Scope} (C : CxOk X sc T.N G.glob) {c : Bool} {elt : I} {tg : Tg} {k : ItK} {es ifs : I} {x t it : Expr} {fs : List Expr} {scope : Scope} {pos : Pos} {l : List Expr}
    (hb : blkC T.N sc scope (tgOwn T.N tg) = true) (ht : agT T.N scope tg t = true) (hn : noSet it = true) (hl : itArgs k sc t it = some l)
    (pes : PEL X l (tQL G X.K false es))
    (pel : ∀ s H c cl fp, PE (X.blk s H scope (compEnvC scope cl c X.env) fp) x (tQ G X.K true elt))
    (pif : ∀ s H c cl fp, PTs (X.blk s H scope (compEnvC scope cl c X.env) fp) fs (tQTs G X.K ifs)) :
    PE X (.ListComp x [⟨t, it, fs, 0⟩] scope pos) (tQ G X.K c (.lc elt tg k es ifs)) := by
  have hi : PI X t it (tIt false X.K k (tQL G X.K false es)) := it_rule C hl pes
  have ok : BlkOk X.N X.env.scope scope (tgOwn T.N tg) := by rw [C.hN, C.sc]; exact blkOk_by hb
  have hg : ∀ s H c cl fp, PG (X.blk s H scope (compEnvC scope cl c X.env) fp) t (gTg X.K tg) := fun s H c cl fp => tg_rule (C.blk s H scope c cl fp) (scT := scope) (fun x h => blk_loc C s H scope c cl fp x h) tg t ht
  refine PE.mono (pe_lc C.calm (by rw [C.hN]; exact C.nd) hi ok hg pif pel (by cases it <;> first | (cases hn; done) | exact fun _ => rfl)) fun σ H0 Q ⟨Z0, e, A, d, E0, hq, k0⟩ => ?_
  have hvs : (tgOwn T.N tg).map (·.2) = tgSlots tg := (own_slots tg).1 t ht
  rw [hvs]
  simp only [q] at hq
  split at hq
  · rename_i ds hds
    split at hq
    · rename_i xs hxs
      split at hq
      · rename_i hbig
        split at hq
        · rename_i ys hys
          cases hq
          refine chainQ E0 (qs_qL hds) fun vs H1 Z1 g1 zd1 rx => ⟨Z1, ds, xs, rx.rvs, fun z => (nomatch z), hxs, fun J wk D hD => ?_⟩
          generalize hfd : (fun x => match tgSet tg x (forget (tgSlots tg) e) with
            | some e' => match qTs G ifs e' with
              | some true => match q G true elt e' with
                | some y => some (some y)
                | none => none
              | some false => some none
              | none => none
            | none => none) = fn at hys
          refine ⟨fun i m H => m = xs.length - i ∧ i ≤ xs.length ∧ ∃ Z acc vacc, Grow H1 Z1 H Z ∧ (∀ b, Z b → H b ≠ none) ∧ ¬ Z D ∧ H D = some (.lst vacc) ∧ RDs X.K H Z acc vacc ∧ acc.length ≤ i ∧ ∃ rest, qLp fn (xs.drop i) = some rest ∧ acc ++ rest = ys,
            ⟨xs.length, by simp, Nat.zero_le _, Z1, [], [], ⟨same_new hD, fun _ z => z, fun _ z => .inl z⟩, fun b z n => zd1 b z ((same_new hD).free n), fun z => zd1 D z hD, upd_same, RDs.nil_iff.mpr rfl, Nat.le_refl _, ys, by simpa using hys, rfl⟩, ?_⟩
          rintro i m H ⟨rfl, hil, Z, acc, vacc, g, zd, nD, hDa, ra, hla, rest, hr, hsum⟩
          have st : Still H1 Z1 H Z := g.still
          obtain ⟨wgo, wst⟩ := wk i H Z st (fun _ => g.same) zd
          by_cases hlt : i < xs.length
          · right
            have hx : xs[i]? = some xs[i] := List.getElem?_eq_getElem hlt
            obtain ⟨go, yl⟩ := wgo _ hx
            rw [List.drop_eq_getElem_cons hlt] at hr
            simp only [qLp] at hr
            refine ⟨go, fun H' => ∃ m', m' < xs.length - i ∧ (m' = xs.length - (i + 1) ∧ i + 1 ≤ xs.length ∧ ∃ Z acc vacc, Grow H1 Z1 H' Z ∧ (∀ b, Z b → H' b ≠ none) ∧ ¬ Z D ∧ H' D = some (.lst vacc) ∧ RDs X.K H' Z acc vacc ∧ acc.length ≤ i + 1 ∧ ∃ rest, qLp fn (xs.drop (i + 1)) = some rest ∧ acc ++ rest = ys), fun H' h => h, fun y H2 hy => ?_⟩
            obtain ⟨g2, rdy⟩ := yl y H2 hy
            have zd2 : ∀ b, Z b → H2 b ≠ none := fun b z n => zd b z (g2.same.free n)
            have E2 : ER X.K H2 Z σ e A := (E0.grow (g1.trans (g.trans g2)) zd2)
            obtain ⟨A3, E3, s3, _⟩ := E2.forgets (vs := tgSlots tg)
            have E4 := E3.off (wipe_off (tgSlots tg) σ)
            rw [← hfd] at hr
            dsimp only at hr
            split at hr
            · cases hr
            · rename_i hfn
              -- left out
              split at hfn
              · rename_i e' he'
                refine ⟨Z, _, _, _, e', E4, rdy, he', fun σ' A' E' s' off => ⟨wipe_eq ((wipe_off _ σ).trans off), ?_⟩⟩
                split at hfn
                · split at hfn <;> cases hfn
                · rename_i hts
                  refine ⟨Z, e', A', false, E', hts, fun H3 Z3 g3 zd3 => ?_⟩
                  refine iteF ?_
                  refine ⟨xs.length - (i + 1), by omega, rfl, hlt, Z3, acc, vacc, g.trans (g2.trans g3), zd3, fun z => ?_, g3.same _ _ (g2.same _ _ hDa), (ra.still' g2.still).still' g3.still, by omega, rest, by rw [← hfd]; exact hr, hsum⟩
                  rcases g3.zn D z with z | z
                  · exact nD z
                  · rw [g2.same _ _ hDa] at z; cases z
                · cases hfn
              · cases hfn
            · rename_i y' hfn
              split at hr
              · rename_i rest' hr'
                cases hr
                split at hfn
                · rename_i e' he'
                  refine ⟨Z, _, _, _, e', E4, rdy, he', fun σ' A' E' s' off => ⟨wipe_eq ((wipe_off _ σ).trans off), ?_⟩⟩
                  split at hfn
                  · rename_i hts
                    split at hfn
                    · rename_i y2 hy2
                      cases hfn
                      refine ⟨Z, e', A', true, E', hts, fun H3 Z3 g3 zd3 => ?_⟩
                      refine iteT ?_
                      refine ⟨Z3, e', A', y', E'.grow g3 zd3, hy2, fun v H4 Z4 g4 zd4 rv rd => ?_⟩
                      have hD4 : H4 D = some (.lst vacc) := g4.same _ _ (g3.same _ _ (g2.same _ _ hDa))
                      have nD3 : ¬ Z3 D := fun z => by
                        rcases g3.zn D z with z | z
                        · exact nD z
                        · rw [g2.same _ _ hDa] at z; cases z
                      have nD4 : ¬ Z4 D := fun z => by
                        rcases g4.zn D z with z | z
                        · exact nD3 z
                        · rw [g3.same _ _ (g2.same _ _ hDa)] at z; cases z
                      have r4 := ((ra.still' g2.still).still' g3.still).still' g4.still
                      have lacc : vacc.length < sizeLine := by rw [← ra.length, ← big_line]; omega
                      have up : Still H4 Z4 (upd H4 D (.lst (vacc ++ [v]))) Z4 := ⟨fun b o h z => by rw [upd_ne (fun q : b = D => nD4 (q ▸ z))]; exact h, fun b o h n => by
                        rw [upd_ne (fun q => ?_)]
                        · exact h
                        · rw [q, hD4] at h
                          cases h
                          exact n trivial, fun _ z => z⟩
                      refine ⟨vacc, hD4, lacc, xs.length - (i + 1), by omega, rfl, hlt, Z4, acc ++ [y'], vacc ++ [v], ?_, fun b z n => ?_, nD4, upd_same, ?_, by rw [List.length_append, List.length_singleton]; omega, rest', by rw [← hfd]; exact hr', by rw [List.append_assoc]; exact hsum⟩
                      · have g5 := g.trans (g2.trans (g3.trans g4))
                        exact ⟨fun b o h => by rw [upd_ne (fun q => by rw [q, hD] at h; cases h)]; exact g5.same b o h, g5.zm, g5.zn⟩
                      · rw [upd_ne (fun q : b = D => nD4 (q ▸ z))] at n
                        exact zd4 b z n
                      · exact (r4.app (RDs.mk (rd (.inl rfl)) (RDs.nil_iff.mpr rfl))).still' up
                    · cases hfn
                  · cases hfn
                  · cases hfn
                · cases hfn
              · cases hr
          · left
            have hi : i = xs.length := by omega
            refine ⟨wst hi, ?_⟩
            subst hi
            rw [List.drop_length] at hr
            simp only [qLp] at hr
            cases hr
            rw [List.append_nil] at hsum
            subst hsum
            have gZ : Grow H0 Z0 H (fun b => Z b ∨ b = D) := ⟨(g1.trans g).same, fun b z => .inl ((g1.trans g).zm b z), fun b z => z.elim ((g1.trans g).zn b) fun q => .inr (by rw [q]; exact g1.same.free hD)⟩
            have zd' : ∀ b, (Z b ∨ b = D) → H b ≠ none := fun b z => z.elim (zd b) fun q => by rw [q, hDa]; exact fun z => nomatch z
            have rl : RD X.K H (fun b => Z b ∨ b = D) (.lst acc) (.ref D) := rd_lst.mpr ⟨D, vacc, rfl, hDa, .inr rfl, RDs.still (Still.of_z fun b z => .inl z) ra⟩
            exact k0 _ _ _ gZ zd' rl.toRV fun _ => rl
        · cases hq
      · cases hq
    · cases hq
  · cases hq
theorem mopOk_get2 {es : I} (h : mopOk .get2 es = true) : ∃ a z, es = .cons a (.cons z .nil) ∧ lentE z = false := by
  unfold mopOk at h
  split at h
  · rename_i a z _
    exact ⟨a, z, rfl, by simpa using h⟩
  · cases h
  · rename_i n1 n2
    first | exact absurd rfl n1 | exact (n1 rfl).elim | exact (n2 rfl).elim
theorem qAnd_bl : ∀ (es : I) (e : Env) (d : D), qAnd G es e = some d → ∃ b, d = .bl b := by
  intro es
  induction es with
  | cons a r _ ih =>
    intro e d h
    unfold qAnd at h
    split at h
    · split at h <;> first | (cases h; exact ⟨_, rfl⟩) | cases h
    · split at h
      · exact ih e d h
      · cases h; exact ⟨_, rfl⟩
      · cases h
  | _ => intro e d h; simp [qAnd] at h
theorem qOr_bl : ∀ (es : I) (e : Env) (d : D), qOr G es e = some d → ∃ b, d = .bl b := by
  intro es
  induction es with
  | cons a r _ ih =>
    intro e d h
    unfold qOr at h
    split at h
    · split at h <;> first | (cases h; exact ⟨_, rfl⟩) | cases h
    · split at h
      · cases h; exact ⟨_, rfl⟩
      · exact ih e d h
      · cases h
  | _ => intro e d h; simp [qOr] at h
/-- a slice's part -/
def tQI (G : Gs) (K : PySem.W.Frag) (a : I) : L2.St → Hp → (Option Int → Hp → Prop) → Prop := fun σ H Q => ∃ Z e A i, ER K H Z σ e A ∧ qI G a e = some i ∧ ∀ H' Z', Grow H Z H' Z' → (∀ b, Z' b → H' b ≠ none) → Q i H'
theorem PO.mono {X : Cx} {e : Option Expr} {t t' : TO} (h : PO X e t) (m : ∀ σ H Q, t' σ H Q → t σ H Q) : PO X e t' := ⟨fun pins s σ H Q I q => h.run pins s σ H Q I (m σ H Q q)⟩
theorem q_var {X : Cx} {sc : Scope} {i : Nat} {ex : Expr} (C : CxOk X sc T.N G.glob) (c : Bool) (h : agE T (.var i) sc ex = true) : PE X ex (tQ G X.K c (.var i)) := by
  simp only [agE] at h
  refine PE.mono (var_rule C h) fun σ H Q ⟨Z, e, A, d, E, hq, k⟩ => ?_
  simp only [q] at hq
  split at hq
  · rename_i o ho
    obtain ⟨v, hv, r⟩ := E.rep i o ho
    refine ⟨v, hv, ?_⟩
    split at hq
    · rename_i hc
      split at hq
      · cases hq
        exact k v H Z Grow.refl E.zd r.toRV fun _ => r.1
      · cases hq
    · rename_i hc
      cases hq
      exact k v H Z Grow.refl E.zd r.toRV fun n => n.elim (fun z => absurd z hc) fun z => by cases z
  · cases hq
theorem q_op {X : Cx} {sc : Scope} {f : OpK} {es : I} {ex : Expr} {l : List Expr} (C : CxOk X sc T.N G.glob) (c : Bool) (hl : opArgs T.N f sc ex = some l) (p : PEL X l (tQL G X.K false es)) : PE X ex (tQ G X.K c (.op f es)) := by
  refine PE.mono (op_rule C hl p) fun σ H Q ⟨Z, e, A, d, E, hq, k⟩ => ?_
  simp only [q] at hq
  split at hq
  · rename_i ds hds
    refine chainQ E (qs_qL hds) fun vs H1 Z1 g1 zd1 rx => ⟨Z1, ds, d, rx.rvs, hq, fun v H2 po => ?_⟩
    obtain ⟨Z2, g2, zd2, rd⟩ := post_frz po zd1
    exact k v H2 Z2 (g1.trans g2) zd2 rd.toRV fun _ => rd
  · cases hq
theorem q_mop {X : Cx} {sc : Scope} {f : OpK} {o es : I} {ex x : Expr} {l : List Expr} (C : CxOk X sc T.N G.glob) (c : Bool) (hl : mopArgs f ex = some (x, l)) (po : PE X x (tQ G X.K false o)) (p : PEL X l (tQL G X.K false es)) (h3 : mopOk f es = true) :
    PE X ex (tQ G X.K c (.mop f o es)) := by
  refine PE.mono (mop_rule C hl po p es) fun σ H Q ⟨Z, e, A, d, E, hq, k⟩ => ?_
  simp only [q] at hq
  split at hq
  · rename_i d0 ds hd0 hds
    split at hq
    · rename_i hty
      refine ⟨Z, e, A, d0, E, hd0, fun v H1 Z1 g1 zd1 rv _ => ⟨?_, ?_⟩⟩
      · unfold mopArgs at hl
        split at hl
        · split at hl
          · rename_i T' n hm
            have hcls : clsO f = T' := by unfold clsO; rw [hm]
            rw [hcls]
            exact ty_of hm hty rv
          · cases hl
        · cases hl
      · refine chainQ (E.grow g1 zd1) (qs_qL hds) fun vs H2 Z2 g2 zd2 rx => ⟨Z2, d0, ds, d, rv.grow g2, rx.rvs, fun hf => ?_, hq, fun v' H3 po' => ?_⟩
        · subst hf
          obtain ⟨a, z, rfl, hlz⟩ := mopOk_get2 h3
          obtain ⟨p1, p2, v1, vs1, rfl, rfl, _, _, rx2⟩ := rx
          obtain ⟨q1, q2, w1, ws1, rfl, rfl, _, hw, rx3⟩ := rx2
          obtain ⟨rfl, rfl⟩ := rx3
          exact ⟨p1, q1, v1, w1, rfl, rfl, hw (.inr hlz)⟩
        · obtain ⟨Z3, g3, zd3, rd⟩ := post_frz po' zd2
          exact k v' H3 Z3 (g1.trans (g2.trans g3)) zd3 rd.toRV fun _ => rd
    · cases hq
  · cases hq
/-! ### a dict, displayed -/
def prs : List TE → List (TE × TE)
  | a :: b :: r => (a, b) :: prs r
  | _ => []
def pairV : List V → List (V × V)
  | a :: b :: r => (a, b) :: pairV r
  | _ => []
theorem tP_eq : ∀ (n : Nat) (ts : List TE), ts.length = 2 * n → ∀ (σ : L2.St) (H : Hp) (Q : List (V × V) → Hp → Prop), tPairs (prs ts) σ H Q = tCh ts σ H fun vs H' => Q (pairV vs) H'
  | 0, [], _, σ, H, Q => rfl
  | 0, _ :: _, h, _, _, _ => by simp at h
  | n + 1, [], h, _, _, _ => by simp at h
  | n + 1, [_], h, _, _, _ => by simp at h; omega
  | n + 1, a :: b :: r, h, σ, H, Q => by
    have ih := tP_eq n r (by simp only [List.length_cons] at h; omega)
    show a σ H (fun x H1 => b σ H1 fun y H2 => tPairs (prs r) σ H2 fun ps H3 => Q ((x, y) :: ps) H3) = a σ H fun x H1 => b σ H1 fun y H2 => tCh r σ H2 fun vs H' => Q (pairV (x :: y :: vs)) H'
    congr 1
    funext x H1
    congr 1
    funext y H2
    exact ih σ H2 _
theorem pps_of {X : Cx} {pos : Pos} : ∀ {ks : List (Option Expr)} {vs l : List Expr} {ts : List TE}, keysOf ks vs = some l → PEL X l ts → PPs X pos ks vs (prs ts) ∧ ks.all (·.isSome) = true ∧ ks.length = vs.length ∧ ts.length = 2 * ks.length
  | [], [], l, ts, h, p => by
    cases h
    cases p
    exact ⟨pps_nil, rfl, rfl, rfl⟩
  | some k :: ks, v :: vs, l, ts, h, p => by
    simp only [keysOf] at h
    obtain ⟨r, hr, rfl⟩ := Option.map_eq_some_iff.mp h
    cases p with
    | cons hp he p =>
      cases p with
      | cons hp2 he2 p =>
        obtain ⟨h1, h2, h3, h4⟩ := pps_of (pos := pos) hr p
        exact ⟨pps_cons he he2 h1, by simpa using h2, by simp [h3], by simp only [List.length_cons]; omega⟩
  | [], _ :: _, l, ts, h, p => by simp [keysOf] at h
  | none :: _, _, l, ts, h, p => by simp [keysOf] at h
  | some _ :: _, [], l, ts, h, p => by simp [keysOf] at h
theorem pair_rk {K : PySem.W.Frag} {H : Hp} {Z : Addr → Prop} : ∀ {ds : List D} {ps : List (D × D)} {vs : List V}, pairD ds = some ps → RDs K H Z ds vs → ∃ kvs : List (Key × V), pairV vs = kvs.map (fun kv => (kV kv.1, kv.2)) ∧ RKs K H Z ps kvs
  | [], ps, vs, h, r => by
    cases h
    rw [RDs.nil_iff.mp r]
    exact ⟨[], rfl, RKs.nil_iff.mpr rfl⟩
  | [a], ps, vs, h, r => by cases h
  | a :: b :: ds, ps, vs, h, r => by
    simp only [pairD] at h
    split at h
    · rename_i k ps' hk hps
      cases h
      obtain ⟨v, r1, rfl, ra, r⟩ := RDs.cons_iff.mp r
      obtain ⟨w, r2, rfl, rb, r⟩ := RDs.cons_iff.mp r
      obtain ⟨kvs, e, rk⟩ := pair_rk hps r
      have ev : v = kV (toK k) := key_v hk ra.toRV
      exact ⟨(toK k, w) :: kvs, by rw [pairV, e, ev]; rfl, RKs.cons_iff.mpr ⟨k, w, kvs, rfl, hk, rb, rk⟩⟩
    · cases h
theorem keys_rk {K : PySem.W.Frag} {H : Hp} {Z : Addr → Prop} : ∀ {ps : List (D × D)} {kvs : List (Key × V)}, RKs K H Z ps kvs → (ps.map fun p => keyD p.1).Nodup → (kvs.map (·.1)).Nodup
  | [], kvs, r, _ => by rw [RKs.nil_iff.mp r]; exact List.nodup_nil
  | p :: ps, kvs, r, h => by
    obtain ⟨k, v, r', rfl, hk, rd, rr⟩ := RKs.cons_iff.mp r
    rw [List.map_cons, List.nodup_cons] at h
    rw [List.map_cons, List.nodup_cons]
    refine ⟨fun z => h.1 ?_, keys_rk rr h.2⟩
    clear h r rd
    have : ∀ {ps : List (D × D)} {kvs : List (Key × V)}, RKs K H Z ps kvs → toK k ∈ kvs.map (·.1) → some k ∈ ps.map fun p => keyD p.1 := by
      intro ps
      induction ps with
      | nil => intro kvs r z; rw [RKs.nil_iff.mp r] at z; cases z
      | cons q ps ih =>
        intro kvs r z
        obtain ⟨k2, v2, r2, rfl, hk2, _, rr2⟩ := RKs.cons_iff.mp r
        rw [List.map_cons] at z ⊢
        rcases List.mem_cons.mp z with z | z
        · rw [hk2, toK_inj z]; exact List.mem_cons_self
        · exact List.mem_cons_of_mem _ (ih rr2 z)
    rw [hk]
    exact this rr z
theorem merge_nodup : ∀ (kvs acc : List (Key × V)), ((acc ++ kvs).map (·.1)).Nodup → mergeK acc kvs = acc ++ kvs
  | [], acc, _ => by rw [List.append_nil]; rfl
  | p :: r, acc, h => by
    have hn : ¬ ((acc.any fun kv => decide (kv.1 = p.1)) = true) := by
      intro z
      obtain ⟨kv, hm, hk⟩ := List.any_eq_true.mp z
      rw [List.map_append, List.nodup_append] at h
      exact h.2.2 kv.1 (List.mem_map.mpr ⟨kv, hm, rfl⟩) p.1 (by simp) (of_decide_eq_true hk)
    have hp : putK acc p.1 p.2 = acc ++ [p] := by unfold putK; rw [if_neg hn]
    show mergeK (putK acc p.1 p.2) r = _
    rw [hp, merge_nodup r (acc ++ [p]) (by rw [List.append_assoc]; exact h), List.append_assoc]
    rfl
theorem q_disp {X : Cx} {es : I} {ks : List (Option Expr)} {vs l : List Expr} {pos : Pos} (c : Bool) (hl : keysOf ks vs = some l) (h15 : ks.length ≤ 15) (p : PEL X l (tQL G X.K true es)) : PE X (.Dict ks vs pos) (tQ G X.K c (.dic es)) := by
  obtain ⟨hp, ha, hlen, hts⟩ := pps_of (pos := pos) hl p
  by_cases h0 : ks = []
  · subst h0
    have : vs = [] := List.length_eq_zero_iff.mp hlen.symm
    subst this
    cases hl
    have hes : ∀ e ds, qcs G es e = some ds → ds = [] := by
      intro e ds hds
      cases es <;> first | (simp only [qcs] at hds; first | (cases hds; rfl) | cases hds) | cases p
    refine PE.mono pe_dnewK fun σ H Q ⟨Z, e, A, d, E, hq, k⟩ => ?_
    simp only [q] at hq
    split at hq
    · rename_i ds hds
      rw [hes e ds hds] at hq
      simp only [pairD, List.length_nil, List.map_nil, List.nodup_nil, and_true] at hq
      rw [if_pos (by omega)] at hq
      cases hq
      intro p hp
      obtain ⟨Z2, g2, zd2, rd⟩ := post_frz (f := .add) (post_dct hp (RKs.nil_iff.mpr rfl)) E.zd
      exact k _ _ Z2 g2 zd2 rd.toRV fun _ => rd
    · cases hq
  · refine PE.mono (pe_disp hp ha hlen h0 h15) fun σ H Q ⟨Z, e, A, d, E, hq, k⟩ => ?_
    simp only [q] at hq
    split at hq
    · rename_i ds hds
      split at hq
      · rename_i ps hps
        split at hq
        · rename_i hc
          cases hq
          intro D hD
          have g0 : Grow H Z (upd H D (.dK [])) Z := ⟨same_new hD, fun _ z => z, fun _ z => .inl z⟩
          have zd0 : ∀ b, Z b → upd H D (.dK []) b ≠ none := fun b z n => E.zd b z ((same_new hD).free n)
          rw [tP_eq _ _ hts]
          refine chainQ (E.grow g0 zd0) (qcs_qL hds) fun vs H1 Z1 g1 zd1 rx => ?_
          have hD1 : H1 D = some (.dK []) := g1.same _ _ upd_same
          have nZ1 : ¬ Z1 D := fun z => (g1.zn D z).elim (fun z => E.zd D z hD) fun n => by rw [upd_same] at n; cases n
          obtain ⟨kvs, e1, rk⟩ := pair_rk hps rx.rds
          refine ⟨hD1, kvs, e1, by rw [← rk.length]; exact hc.1, ?_⟩
          have hm : mergeK [] kvs = kvs := merge_nodup kvs [] (by rw [List.nil_append]; exact keys_rk rk hc.2)
          rw [hm]
          have hs : ∀ b o, H b = some o → upd H1 D (.dK kvs) b = some o := fun b o hb => by
            rw [upd_ne (fun q : b = D => by rw [q, hD] at hb; cases hb)]
            exact g1.same _ _ (g0.same _ _ hb)
          have st : Still H1 Z1 (upd H1 D (.dK kvs)) (fun b => Z1 b ∨ b = D) := ⟨fun b o hb z => by rw [upd_ne (fun q : b = D => nZ1 (q ▸ z))]; exact hb, fun b o hb n => by
            rw [upd_ne (fun q : b = D => ?_)]
            · exact hb
            · rw [q, hD1] at hb
              cases hb
              exact n trivial, fun _ z => .inl z⟩
          have gF : Grow H Z (upd H1 D (.dK kvs)) (fun b => Z1 b ∨ b = D) := ⟨hs, fun b z => .inl (g1.zm b (g0.zm b z)), fun b z => z.elim (fun z => (g1.zn b z).elim .inl fun n => .inr (g0.same.free n)) fun q => .inr (by rw [q]; exact hD)⟩
          have rd : RD X.K (upd H1 D (.dK kvs)) (fun b => Z1 b ∨ b = D) (.dct ps) (.ref D) := rd_dct.mpr ⟨D, kvs, rfl, .inl upd_same, .inr rfl, RKs.still st rk⟩
          exact k _ _ _ gF (fun b z n => z.elim (fun z => by
            by_cases q : b = D
            · rw [q, upd_same] at n; cases n
            · rw [upd_ne q] at n; exact zd1 b z n) fun q => by rw [q, upd_same] at n; cases n) rd.toRV fun _ => rd
        · cases hq
      · cases hq
    · cases hq
theorem opT_plain {N : List Str} {f : OpK} {sc : Scope} {ex : Expr} {l : List Expr} (h : opArgs N f sc ex = some l) (hf : isCmp f = false) : plainT ex = true := by
  cases ht : spO f with
  | true =>
    cases f <;> first | (cases ht; done) | (cases hf; done) | skip
    all_goals
      simp only [opArgs] at h
      split at h
      · rfl
      · cases h
  | false =>
  rw [opArgs_ne ht] at h
  unfold opArgs0 at h
  split at h <;> first | rfl | (cases h; done) | skip
  split at h
  · rename_i hb
    cases f <;> first | (cases hb; done) | (cases hf; done)
  · split at h
    · split at h
      · rename_i hb
        rcases hb with ⟨rfl, _⟩ | ⟨rfl, _⟩ <;> cases hf
      · cases h
    · cases h
theorem lm2 (o1 o2 : CmpOp) (b c : Expr) (h : behindInMarks o2 c = false) : lastMarks [o1, o2] [b, c] = false := by
  simp only [lastMarks]
  exact h
theorem PW.mono {X : Cx} {e : Expr} {t t' : TT} (h : PW X e t) (m : ∀ σ H Q, t' σ H Q → t σ H Q) : PW X e t' := ⟨fun wh pins s σ H Q I q => h.run wh pins s σ H Q I (m σ H Q q)⟩
theorem PTs.mono {X : Cx} {e : List Expr} {t t' : TT} (h : PTs X e t) (m : ∀ σ H Q, t' σ H Q → t σ H Q) : PTs X e t' := ⟨fun pins s σ H Q I q => h.run pins s σ H Q I (m σ H Q q)⟩
theorem qt_plain {X : Cx} {a : I} {ex : Expr} (h : PE X ex (tQ G X.K false a)) (hp : plainT ex = true) : PT X ex (tQT G X.K a) :=
  PT.mono (pt_val h (tst_of hp _)) fun σ H Q ⟨Z, e, A, b, E, hq, k⟩ => ⟨Z, e, A, _, E, hq, fun v H' Z' g zd rv _ => ⟨b, rv_bl.mp rv, k H' Z' g zd⟩⟩
mutual
/-- QUIET EXPRESSIONS -/
theorem q_ok : ∀ (a : I) {X : Cx} {sc : Scope} (C : CxOk X sc T.N G.glob) (c : Bool) (ex : Expr), agE T a sc ex = true → quiet a = true → PE X ex (tQ G X.K c a)
  | .var i, X, sc, C, c, ex, h, _ => q_var C c h
  | .k x, X, sc, C, c, ex, h, _ => by
    simp only [agE] at h
    obtain ⟨v, p, r, _⟩ := agK_rule h
    refine PE.mono p fun σ H Q ⟨Z, e, A, d, E, hq, k⟩ => ?_
    simp only [q] at hq
    cases hq
    exact k v H Z Grow.refl E.zd (r _ _ _).toRV fun _ => r _ _ _
  | .g x, X, sc, C, c, ex, h, _ => by
    simp only [agE] at h
    cases ex <;> first | (cases h; done) | skip
    simp only [Bool.and_eq_true, decide_eq_true_eq] at h
    obtain ⟨⟨rfl, h2⟩, h3⟩ := h
    refine ⟨fun pins s σ H Q I ⟨Z, e, A, d, E, hq, k⟩ => ?_⟩
    simp only [q] at hq
    obtain ⟨u, v, hm, r, rd⟩ := C.gl x d hq
    exact (pe_glob (X := X) (C.glx h2) hm r h3).run pins s σ H Q I (k v H Z Grow.refl E.zd (rd H Z).toRV fun _ => rd H Z)
  | .op f es, X, sc, C, c, ex, h, hz => by
    simp only [agE] at h
    split at h
    · rename_i l hl
      simp only [quiet] at hz
      exact q_op C c hl (qs_ok es C false l h hz)
    · cases h
  | .mop f o es, X, sc, C, c, ex, h, hz => by
    simp only [agE] at h
    split at h
    · rename_i x l hl
      simp only [Bool.and_eq_true] at h
      simp only [quiet, Bool.and_eq_true] at hz
      exact q_mop C c hl (q_ok o C false x h.1.1 hz.1) (qs_ok es C false l h.1.2 hz.2) h.2
    · cases h
  | .slc x lo hi, X, sc, C, c, ex, h, hz => by
    simp only [agE] at h
    split at h
    · rename_i v l hh p1 p2
      simp only [Bool.and_eq_true] at h
      obtain ⟨⟨h1, h2⟩, h3⟩ := h
      simp only [quiet, Bool.and_eq_true] at hz
      have px := q_ok x C false v h1 hz.1.1
      have pl := qI_ok lo C l h2 hz.1.2
      have ph := qI_ok hi C hh h3 hz.2
      refine PE.mono (pe_slice r_slc px pl ph) fun σ H Q ⟨Z, e, A, d, E, hq, k⟩ => ?_
      simp only [q] at hq
      split at hq
      · rename_i d0 i j hd0 hi' hj'
        refine ⟨Z, e, A, d0, E, hd0, fun v H1 Z1 g1 zd1 rv _ => ?_⟩
        refine ⟨Z1, e, A, i, E.grow g1 zd1, hi', fun H2 Z2 g2 zd2 => ?_⟩
        refine ⟨Z2, e, A, j, (E.grow g1 zd1).grow g2 zd2, hj', fun H3 Z3 g3 zd3 => ?_⟩
        refine ⟨Z3, d0, d, (rv.grow g2).grow g3, hq, fun v' H4 po => ?_⟩
        obtain ⟨Z4, g4, zd4, rd⟩ := post_frz po zd3
        exact k v' H4 Z4 (g1.trans (g2.trans (g3.trans g4))) zd4 rd.toRV fun _ => rd
      · cases hq
    · cases h
  | .ch f h' a b d', X, sc, C, c, ex, h, hz => by
    simp only [agE] at h
    split at h
    · rename_i l o1 o2 m r p
      simp only [Bool.and_eq_true, decide_eq_true_eq] at h
      obtain ⟨⟨⟨⟨c1, c2⟩, h1⟩, h2⟩, h3⟩ := h
      simp only [quiet, Bool.and_eq_true] at hz
      have pa := q_ok a C false l h1 hz.1.1
      have pb := q_ok b C false m h2 hz.1.2
      have pc := q_ok d' C false r h3 hz.2
      refine PE.mono (pe_chain (cmp_of C c1) (cmp_of C c2) pa pb pc (lm2 _ _ _ _ (mark_of (agE_plain h3) _))) fun σ H Q ⟨Z, e, A, d, E, hq, k⟩ => ?_
      simp only [q] at hq
      split at hq
      · rename_i x y z hx hy hz'
        refine ⟨Z, e, A, x, E, hx, fun v H1 Z1 g1 zd1 rx _ => ?_⟩
        refine ⟨Z1, e, A, y, E.grow g1 zd1, hy, fun w H2 Z2 g2 zd2 ry _ => ?_⟩
        split at hq
        · rename_i ho
          refine ⟨Z2, [x, y], .bl true, ⟨v, [w], rfl, rx.grow g2, w, [], rfl, ry, rfl⟩, ho, fun u H3 po => ?_⟩
          obtain ⟨Z3, g3, zd3, rd⟩ := post_frz po zd2
          refine ⟨true, rd_bl.mp rd, ?_⟩
          show _
          refine ite_tt ?_
          refine ⟨Z3, e, A, z, ((E.grow g1 zd1).grow g2 zd2).grow g3 zd3, hz', fun u2 H4 Z4 g4 zd4 rz _ => ?_⟩
          refine ⟨Z4, [y, z], d, ⟨w, [u2], rfl, (ry.grow g3).grow g4, u2, [], rfl, rz, rfl⟩, hq, fun u3 H5 po5 => ?_⟩
          obtain ⟨Z5, g5, zd5, rd5⟩ := post_frz po5 zd4
          exact k u3 H5 Z5 (g1.trans (g2.trans (g3.trans (g4.trans g5)))) zd5 rd5.toRV fun _ => rd5
        · rename_i ho
          cases hq
          refine ⟨Z2, [x, y], .bl false, ⟨v, [w], rfl, rx.grow g2, w, [], rfl, ry, rfl⟩, ho, fun u H3 po => ?_⟩
          obtain ⟨Z3, g3, zd3, rd⟩ := post_frz po zd2
          refine ⟨false, rd_bl.mp rd, ?_⟩
          show _
          refine ite_ff ?_
          exact k _ H3 Z3 (g1.trans (g2.trans g3)) zd3 (rv_bl.mpr rfl) fun _ => rd_bl.mpr rfl
        · cases hq
      · cases hq
    · cases h
  | .and_ es, X, sc, C, c, ex, h, hz => by
    simp only [agE] at h
    split at h
    · rename_i l p
      simp only [Bool.and_eq_true] at h
      simp only [quiet] at hz
      refine PE.mono (qAnd_ok es C l p h.1 hz) fun σ H Q ⟨Z, e, A, d, E, hq, k⟩ => ?_
      simp only [q] at hq
      obtain ⟨b, rfl⟩ := qAnd_bl es e d hq
      exact ⟨Z, e, A, b, E, hq, fun H' Z' g zd => k _ H' Z' g zd (rv_bl.mpr rfl) fun _ => rd_bl.mpr rfl⟩
    · cases h
  | .or_ es, X, sc, C, c, ex, h, hz => by
    simp only [agE] at h
    split at h
    · rename_i l p
      simp only [Bool.and_eq_true] at h
      simp only [quiet] at hz
      refine PE.mono (qOr_ok es C l p h.1 hz) fun σ H Q ⟨Z, e, A, d, E, hq, k⟩ => ?_
      simp only [q] at hq
      obtain ⟨b, rfl⟩ := qOr_bl es e d hq
      exact ⟨Z, e, A, b, E, hq, fun H' Z' g zd => k _ H' Z' g zd (rv_bl.mpr rfl) fun _ => rd_bl.mpr rfl⟩
    · cases h
  | .not_ a, X, sc, C, c, ex, h, hz => by
    simp only [agE] at h
    split at h
    · rename_i x p
      simp only [Bool.and_eq_true] at h
      simp only [quiet] at hz
      refine PE.mono (pe_not (q_ok a C false x h.1 hz)) fun σ H Q ⟨Z, e, A, d, E, hq, k⟩ => ?_
      simp only [q] at hq
      split at hq
      · rename_i b hb
        cases hq
        refine ⟨Z, e, A, .bl b, E, hb, fun v H1 Z1 g1 zd1 rv _ => ⟨b, rv_bl.mp rv, ?_⟩⟩
        exact k _ H1 Z1 g1 zd1 (rv_bl.mpr rfl) fun _ => rd_bl.mpr rfl
      · cases hq
    · cases h
  | .ite t a b, X, sc, C, c, ex, h, hz => by
    simp only [agE] at h
    split at h
    · rename_i x y z p
      simp only [Bool.and_eq_true] at h
      obtain ⟨⟨⟨h1, h2⟩, h3⟩, h4⟩ := h
      simp only [quiet, Bool.and_eq_true] at hz
      refine PE.mono (pe_ifExp (qT_ok t C x h1 hz.1.1 h4) (q_ok a C c y h2 hz.1.2) (q_ok b C c z h3 hz.2)) fun σ H Q ⟨Z, e, A, d, E, hq, k⟩ => ?_
      simp only [q] at hq
      split at hq
      · rename_i ht
        refine ⟨Z, e, A, true, E, ht, fun H1 Z1 g1 zd1 => iteT ⟨Z1, e, A, d, E.grow g1 zd1, hq, fun v H2 Z2 g2 zd2 rv rd => ?_⟩⟩
        exact k v H2 Z2 (g1.trans g2) zd2 rv fun n => n.elim (fun z => rd (.inl z)) fun z => by cases z
      · rename_i ht
        refine ⟨Z, e, A, false, E, ht, fun H1 Z1 g1 zd1 => iteF ⟨Z1, e, A, d, E.grow g1 zd1, hq, fun v H2 Z2 g2 zd2 rv rd => ?_⟩⟩
        exact k v H2 Z2 (g1.trans g2) zd2 rv fun n => n.elim (fun z => rd (.inl z)) fun z => by cases z
      · cases hq
    · cases h
  | .lst es, X, sc, C, c, ex, h, hz => by
    simp only [agE] at h
    split at h
    · rename_i l p
      simp only [quiet] at hz
      refine PE.mono (pe_lst (qs_ok es C true l h hz).pa) fun σ H Q ⟨Z, e, A, d, E, hq, k⟩ => ?_
      simp only [q] at hq
      split at hq
      · rename_i ds hds
        split at hq
        · rename_i hl
          cases hq
          refine chainQ E (qcs_qL hds) fun vs H1 Z1 g1 zd1 rx => ⟨by rw [← rx.rds.length, ← big_line]; exact hl, fun p hp => ?_⟩
          obtain ⟨Z2, g2, zd2, rd⟩ := post_frz (f := .add) (post_lst hp rx.rds) zd1
          exact k _ _ Z2 (g1.trans g2) zd2 rd.toRV fun _ => rd
        · cases hq
      · cases hq
    · cases h
  | .tup es, X, sc, C, c, ex, h, hz => by
    simp only [agE] at h
    split at h
    · rename_i l kk p
      simp only [quiet] at hz
      refine PE.mono (pe_tup (qs_ok es C true l h hz).pa) fun σ H Q ⟨Z, e, A, d, E, hq, k⟩ => ?_
      simp only [q] at hq
      split at hq
      · rename_i ds hds
        split at hq
        · rename_i hl
          cases hq
          refine chainQ E (qcs_qL hds) fun vs H1 Z1 g1 zd1 rx => ⟨by rw [← rx.rds.length, ← big_line]; exact hl, fun p hp => ?_⟩
          obtain ⟨Z2, g2, zd2, rd⟩ := post_frz (f := .add) (post_tup hp rx.rds) zd1
          exact k _ _ Z2 (g1.trans g2) zd2 rd.toRV fun _ => rd
        · cases hq
      · cases hq
    · cases h
  | .dic es, X, sc, C, c, ex, h, hz => by
    simp only [agE] at h
    split at h
    · rename_i ks vs p
      split at h
      · rename_i l hl
        simp only [Bool.and_eq_true, decide_eq_true_eq] at h
        simp only [quiet] at hz
        exact q_disp c hl h.2 (qs_ok es C true l h.1 hz)
      · cases h
    · cases h
  | .lc elt tg k es ifs, X, sc, C, c, ex, h, hz => by
    simp only [agE] at h
    split at h
    · rename_i x t it fs z scope p
      simp only [Bool.and_eq_true, decide_eq_true_eq] at h
      obtain ⟨⟨⟨⟨⟨⟨⟨⟨rfl, h1⟩, h2⟩, h3⟩, h4⟩, h5⟩, h6⟩, h7⟩, h8⟩ := h
      simp only [quiet, Bool.and_eq_true] at hz
      split at h4
      · rename_i l hl
        refine q_lc C h1 h2 h3 hl (qs_ok es C false l h4 hz.1.2) (fun s H cc cl fp => q_ok elt (C.blk s H scope cc cl fp) true x h5 hz.1.1) (fun s H cc cl fp => qTs_ok ifs (C.blk s H scope cc cl fp) fs h6 h7 h8 hz.2)
      · cases h4
    · cases h
  | .mv _, _, _, _, _, _, _, hz => by cases hz
  | .fv _, _, _, _, _, _, _, hz => by cases hz
  | .call _ _, _, _, _, _, _, _, hz => by cases hz
  | .mut _ _ _, _, _, _, _, _, _, hz => by cases hz
  | .nil, _, _, _, _, _, h, _ => by simp [agE] at h
  | .cons _ _, _, _, _, _, _, h, _ => by simp [agE] at h
theorem qs_ok : ∀ (es : I) {X : Cx} {sc : Scope} (C : CxOk X sc T.N G.glob) (c : Bool) (l : List Expr), agL T es sc l = true → quiet es = true → PEL X l (tQL G X.K c es)
  | .nil, X, sc, C, c, [], h, _ => .nil
  | .cons a r, X, sc, C, c, e :: l, h, hz => by
    simp only [agL, Bool.and_eq_true] at h
    simp only [quiet, Bool.and_eq_true] at hz
    exact .cons (agE_plain h.1) (q_ok a C c e h.1 hz.1) (qs_ok r C c l h.2 hz.2)
  | .nil, _, _, _, _, _ :: _, h, _ => by simp [agL] at h
  | .cons _ _, _, _, _, _, [], h, _ => by simp [agL] at h
  | .var _, _, _, _, _, _, h, _ => by simp [agL] at h
  | .mv _, _, _, _, _, _, h, _ => by simp [agL] at h
  | .fv _, _, _, _, _, _, h, _ => by simp [agL] at h
  | .k _, _, _, _, _, _, h, _ => by simp [agL] at h
  | .g _, _, _, _, _, _, h, _ => by simp [agL] at h
  | .op _ _, _, _, _, _, _, h, _ => by simp [agL] at h
  | .mop _ _ _, _, _, _, _, _, h, _ => by simp [agL] at h
  | .slc _ _ _, _, _, _, _, _, h, _ => by simp [agL] at h
  | .ch _ _ _ _ _, _, _, _, _, _, h, _ => by simp [agL] at h
  | .and_ _, _, _, _, _, _, h, _ => by simp [agL] at h
  | .or_ _, _, _, _, _, _, h, _ => by simp [agL] at h
  | .not_ _, _, _, _, _, _, h, _ => by simp [agL] at h
  | .ite _ _ _, _, _, _, _, _, h, _ => by simp [agL] at h
  | .lst _, _, _, _, _, _, h, _ => by simp [agL] at h
  | .tup _, _, _, _, _, _, h, _ => by simp [agL] at h
  | .dic _, _, _, _, _, _, h, _ => by simp [agL] at h
  | .lc _ _ _ _ _, _, _, _, _, _, h, _ => by simp [agL] at h
  | .call _ _, _, _, _, _, _, h, _ => by simp [agL] at h
  | .mut _ _ _, _, _, _, _, _, h, _ => by simp [agL] at h
theorem qI_ok : ∀ (es : I) {X : Cx} {sc : Scope} (C : CxOk X sc T.N G.glob) (o : Option Expr), agL T es sc o.toList = true → quiet es = true → PO X o (tQI G X.K es)
  | .nil, X, sc, C, none, h, _ => PO.mono po_none fun σ H Q ⟨Z, e, A, i, E, hq, k⟩ => by
    simp only [qI] at hq
    cases hq
    exact k H Z Grow.refl E.zd
  | .cons a .nil, X, sc, C, some x, h, hz => by
    simp only [Option.toList, agL, Bool.and_eq_true] at h
    simp only [quiet, Bool.and_eq_true] at hz
    refine PO.mono (po_some (q_ok a C false x h.1 hz.1)) fun σ H Q ⟨Z, e, A, i, E, hq, k⟩ => ?_
    simp only [qI] at hq
    split at hq
    · rename_i n hn
      cases hq
      exact ⟨Z, e, A, _, E, hn, fun v H' Z' g zd rv _ => ⟨n, rv_int.mp rv, k H' Z' g zd⟩⟩
    · cases hq
  | .cons _ (.cons _ _), _, _, _, some _, h, _ => by simp [Option.toList, agL] at h
  | .cons _ (.var _), _, _, _, some _, h, _ => by simp [Option.toList, agL] at h
  | .cons _ (.mv _), _, _, _, some _, h, _ => by simp [Option.toList, agL] at h
  | .cons _ (.fv _), _, _, _, some _, h, _ => by simp [Option.toList, agL] at h
  | .cons _ (.k _), _, _, _, some _, h, _ => by simp [Option.toList, agL] at h
  | .cons _ (.g _), _, _, _, some _, h, _ => by simp [Option.toList, agL] at h
  | .cons _ (.op _ _), _, _, _, some _, h, _ => by simp [Option.toList, agL] at h
  | .cons _ (.mop _ _ _), _, _, _, some _, h, _ => by simp [Option.toList, agL] at h
  | .cons _ (.slc _ _ _), _, _, _, some _, h, _ => by simp [Option.toList, agL] at h
  | .cons _ (.ch _ _ _ _ _), _, _, _, some _, h, _ => by simp [Option.toList, agL] at h
  | .cons _ (.and_ _), _, _, _, some _, h, _ => by simp [Option.toList, agL] at h
  | .cons _ (.or_ _), _, _, _, some _, h, _ => by simp [Option.toList, agL] at h
  | .cons _ (.not_ _), _, _, _, some _, h, _ => by simp [Option.toList, agL] at h
  | .cons _ (.ite _ _ _), _, _, _, some _, h, _ => by simp [Option.toList, agL] at h
  | .cons _ (.lst _), _, _, _, some _, h, _ => by simp [Option.toList, agL] at h
  | .cons _ (.tup _), _, _, _, some _, h, _ => by simp [Option.toList, agL] at h
  | .cons _ (.dic _), _, _, _, some _, h, _ => by simp [Option.toList, agL] at h
  | .cons _ (.lc _ _ _ _ _), _, _, _, some _, h, _ => by simp [Option.toList, agL] at h
  | .cons _ (.call _ _), _, _, _, some _, h, _ => by simp [Option.toList, agL] at h
  | .cons _ (.mut _ _ _), _, _, _, some _, h, _ => by simp [Option.toList, agL] at h
  | .var _, _, _, _, o, h, _ => by cases o <;> simp [Option.toList, agL] at h
  | .mv _, _, _, _, o, h, _ => by cases o <;> simp [Option.toList, agL] at h
  | .fv _, _, _, _, o, h, _ => by cases o <;> simp [Option.toList, agL] at h
  | .k _, _, _, _, o, h, _ => by cases o <;> simp [Option.toList, agL] at h
  | .g _, _, _, _, o, h, _ => by cases o <;> simp [Option.toList, agL] at h
  | .op _ _, _, _, _, o, h, _ => by cases o <;> simp [Option.toList, agL] at h
  | .mop _ _ _, _, _, _, o, h, _ => by cases o <;> simp [Option.toList, agL] at h
  | .slc _ _ _, _, _, _, o, h, _ => by cases o <;> simp [Option.toList, agL] at h
  | .ch _ _ _ _ _, _, _, _, o, h, _ => by cases o <;> simp [Option.toList, agL] at h
  | .and_ _, _, _, _, o, h, _ => by cases o <;> simp [Option.toList, agL] at h
  | .or_ _, _, _, _, o, h, _ => by cases o <;> simp [Option.toList, agL] at h
  | .not_ _, _, _, _, o, h, _ => by cases o <;> simp [Option.toList, agL] at h
  | .ite _ _ _, _, _, _, o, h, _ => by cases o <;> simp [Option.toList, agL] at h
  | .lst _, _, _, _, o, h, _ => by cases o <;> simp [Option.toList, agL] at h
  | .tup _, _, _, _, o, h, _ => by cases o <;> simp [Option.toList, agL] at h
  | .dic _, _, _, _, o, h, _ => by cases o <;> simp [Option.toList, agL] at h
  | .lc _ _ _ _ _, _, _, _, o, h, _ => by cases o <;> simp [Option.toList, agL] at h
  | .call _ _, _, _, _, o, h, _ => by cases o <;> simp [Option.toList, agL] at h
  | .mut _ _ _, _, _, _, o, h, _ => by cases o <;> simp [Option.toList, agL] at h
  | .nil, _, _, _, some _, h, _ => by simp [Option.toList, agL] at h
  | .cons _ _, _, _, _, none, h, _ => by simp [Option.toList, agL] at h
theorem qAnd_ok : ∀ (es : I) {X : Cx} {sc : Scope} (C : CxOk X sc T.N G.glob) (l : List Expr) (p : Pos), agL T es sc l = true → quiet es = true → PE X (.BoolOp .And l p) (tQB X.K (qAnd G es))
  | .cons a .nil, X, sc, C, [x], p, h, hz => by
    simp only [agL, Bool.and_eq_true] at h
    simp only [quiet, Bool.and_eq_true] at hz
    refine PE.mono (pe_one (q_ok a C false x h.1 hz.1)) fun σ H Q ⟨Z, e, A, b, E, hq, k⟩ => ?_
    simp only [qAnd] at hq
    split at hq
    · rename_i b' hb
      cases hq
      exact ⟨Z, e, A, _, E, hb, fun v H' Z' g zd rv _ => by rw [rv_bl.mp rv]; exact k H' Z' g zd⟩
    · cases hq
  | .cons a (.cons b r), X, sc, C, x :: y :: l, p, h, hz => by
    have h' : agE T a sc x = true ∧ agL T (.cons b r) sc (y :: l) = true := by simpa only [agL, Bool.and_eq_true] using h
    have hz' : quiet a = true ∧ quiet (.cons b r) = true := by simpa only [quiet, Bool.and_eq_true] using hz
    refine PE.mono (pe_and (q_ok a C false x h'.1 hz'.1) (qAnd_ok (.cons b r) C (y :: l) p h'.2 hz'.2)) fun σ H Q ⟨Z, e, A, t, E, hq, k⟩ => ?_
    unfold qAnd at hq
    simp only at hq
    split at hq
    · rename_i hb
      refine ⟨Z, e, A, _, E, hb, fun v H' Z' g zd rv _ => ⟨true, rv_bl.mp rv, iteT ⟨Z', e, A, t, E.grow g zd, hq, fun H2 Z2 g2 zd2 => k H2 Z2 (g.trans g2) zd2⟩⟩⟩
    · rename_i hb
      cases hq
      exact ⟨Z, e, A, _, E, hb, fun v H' Z' g zd rv _ => ⟨false, rv_bl.mp rv, iteF (k H' Z' g zd)⟩⟩
    · cases hq
  | .nil, _, _, _, [], _, _, _ => ⟨fun _ _ _ _ _ _ ⟨_, _, _, _, _, hq, _⟩ => by simp [qAnd] at hq⟩
  | .nil, _, _, _, _ :: _, _, h, _ => by simp [agL] at h
  | .cons _ _, _, _, _, [], _, h, _ => by simp [agL] at h
  | .cons _ .nil, _, _, _, _ :: _ :: _, _, h, _ => by simp [agL] at h
  | .cons _ (.cons _ _), _, _, _, [_], _, h, _ => by simp [agL] at h
  | .cons _ (.var _), _, _, _, [_], _, h, _ => by simp [agL] at h
  | .cons _ (.var _), _, _, _, _ :: _ :: _, _, h, _ => by simp [agL] at h
  | .cons _ (.mv _), _, _, _, [_], _, h, _ => by simp [agL] at h
  | .cons _ (.fv _), _, _, _, [_], _, h, _ => by simp [agL] at h
  | .cons _ (.mv _), _, _, _, _ :: _ :: _, _, h, _ => by simp [agL] at h
  | .cons _ (.fv _), _, _, _, _ :: _ :: _, _, h, _ => by simp [agL] at h
  | .cons _ (.k _), _, _, _, [_], _, h, _ => by simp [agL] at h
  | .cons _ (.k _), _, _, _, _ :: _ :: _, _, h, _ => by simp [agL] at h
  | .cons _ (.g _), _, _, _, [_], _, h, _ => by simp [agL] at h
  | .cons _ (.g _), _, _, _, _ :: _ :: _, _, h, _ => by simp [agL] at h
  | .cons _ (.op _ _), _, _, _, [_], _, h, _ => by simp [agL] at h
  | .cons _ (.op _ _), _, _, _, _ :: _ :: _, _, h, _ => by simp [agL] at h
  | .cons _ (.mop _ _ _), _, _, _, [_], _, h, _ => by simp [agL] at h
  | .cons _ (.mop _ _ _), _, _, _, _ :: _ :: _, _, h, _ => by simp [agL] at h
  | .cons _ (.slc _ _ _), _, _, _, [_], _, h, _ => by simp [agL] at h
  | .cons _ (.slc _ _ _), _, _, _, _ :: _ :: _, _, h, _ => by simp [agL] at h
  | .cons _ (.ch _ _ _ _ _), _, _, _, [_], _, h, _ => by simp [agL] at h
  | .cons _ (.ch _ _ _ _ _), _, _, _, _ :: _ :: _, _, h, _ => by simp [agL] at h
  | .cons _ (.and_ _), _, _, _, [_], _, h, _ => by simp [agL] at h
  | .cons _ (.and_ _), _, _, _, _ :: _ :: _, _, h, _ => by simp [agL] at h
  | .cons _ (.or_ _), _, _, _, [_], _, h, _ => by simp [agL] at h
  | .cons _ (.or_ _), _, _, _, _ :: _ :: _, _, h, _ => by simp [agL] at h
  | .cons _ (.not_ _), _, _, _, [_], _, h, _ => by simp [agL] at h
  | .cons _ (.not_ _), _, _, _, _ :: _ :: _, _, h, _ => by simp [agL] at h
  | .cons _ (.ite _ _ _), _, _, _, [_], _, h, _ => by simp [agL] at h
  | .cons _ (.ite _ _ _), _, _, _, _ :: _ :: _, _, h, _ => by simp [agL] at h
  | .cons _ (.lst _), _, _, _, [_], _, h, _ => by simp [agL] at h
  | .cons _ (.lst _), _, _, _, _ :: _ :: _, _, h, _ => by simp [agL] at h
  | .cons _ (.tup _), _, _, _, [_], _, h, _ => by simp [agL] at h
  | .cons _ (.tup _), _, _, _, _ :: _ :: _, _, h, _ => by simp [agL] at h
  | .cons _ (.dic _), _, _, _, [_], _, h, _ => by simp [agL] at h
  | .cons _ (.dic _), _, _, _, _ :: _ :: _, _, h, _ => by simp [agL] at h
  | .cons _ (.lc _ _ _ _ _), _, _, _, [_], _, h, _ => by simp [agL] at h
  | .cons _ (.lc _ _ _ _ _), _, _, _, _ :: _ :: _, _, h, _ => by simp [agL] at h
  | .cons _ (.call _ _), _, _, _, [_], _, h, _ => by simp [agL] at h
  | .cons _ (.call _ _), _, _, _, _ :: _ :: _, _, h, _ => by simp [agL] at h
  | .cons _ (.mut _ _ _), _, _, _, [_], _, h, _ => by simp [agL] at h
  | .cons _ (.mut _ _ _), _, _, _, _ :: _ :: _, _, h, _ => by simp [agL] at h
  | .var _, _, _, _, l, _, h, _ => by cases l <;> simp [agL] at h
  | .mv _, _, _, _, l, _, h, _ => by cases l <;> simp [agL] at h
  | .fv _, _, _, _, l, _, h, _ => by cases l <;> simp [agL] at h
  | .k _, _, _, _, l, _, h, _ => by cases l <;> simp [agL] at h
  | .g _, _, _, _, l, _, h, _ => by cases l <;> simp [agL] at h
  | .op _ _, _, _, _, l, _, h, _ => by cases l <;> simp [agL] at h
  | .mop _ _ _, _, _, _, l, _, h, _ => by cases l <;> simp [agL] at h
  | .slc _ _ _, _, _, _, l, _, h, _ => by cases l <;> simp [agL] at h
  | .ch _ _ _ _ _, _, _, _, l, _, h, _ => by cases l <;> simp [agL] at h
  | .and_ _, _, _, _, l, _, h, _ => by cases l <;> simp [agL] at h
  | .or_ _, _, _, _, l, _, h, _ => by cases l <;> simp [agL] at h
  | .not_ _, _, _, _, l, _, h, _ => by cases l <;> simp [agL] at h
  | .ite _ _ _, _, _, _, l, _, h, _ => by cases l <;> simp [agL] at h
  | .lst _, _, _, _, l, _, h, _ => by cases l <;> simp [agL] at h
  | .tup _, _, _, _, l, _, h, _ => by cases l <;> simp [agL] at h
  | .dic _, _, _, _, l, _, h, _ => by cases l <;> simp [agL] at h
  | .lc _ _ _ _ _, _, _, _, l, _, h, _ => by cases l <;> simp [agL] at h
  | .call _ _, _, _, _, l, _, h, _ => by cases l <;> simp [agL] at h
  | .mut _ _ _, _, _, _, l, _, h, _ => by cases l <;> simp [agL] at h
theorem qOr_ok : ∀ (es : I) {X : Cx} {sc : Scope} (C : CxOk X sc T.N G.glob) (l : List Expr) (p : Pos), agL T es sc l = true → quiet es = true → PE X (.BoolOp .Or l p) (tQB X.K (qOr G es))
  | .cons a .nil, X, sc, C, [x], p, h, hz => by
    simp only [agL, Bool.and_eq_true] at h
    simp only [quiet, Bool.and_eq_true] at hz
    refine PE.mono (pe_one (q_ok a C false x h.1 hz.1)) fun σ H Q ⟨Z, e, A, b, E, hq, k⟩ => ?_
    simp only [qOr] at hq
    split at hq
    · rename_i b' hb
      cases hq
      exact ⟨Z, e, A, _, E, hb, fun v H' Z' g zd rv _ => by rw [rv_bl.mp rv]; exact k H' Z' g zd⟩
    · cases hq
  | .cons a (.cons b r), X, sc, C, x :: y :: l, p, h, hz => by
    have h' : agE T a sc x = true ∧ agL T (.cons b r) sc (y :: l) = true := by simpa only [agL, Bool.and_eq_true] using h
    have hz' : quiet a = true ∧ quiet (.cons b r) = true := by simpa only [quiet, Bool.and_eq_true] using hz
    refine PE.mono (pe_or (q_ok a C false x h'.1 hz'.1) (qOr_ok (.cons b r) C (y :: l) p h'.2 hz'.2)) fun σ H Q ⟨Z, e, A, t, E, hq, k⟩ => ?_
    unfold qOr at hq
    simp only at hq
    split at hq
    · rename_i hb
      cases hq
      exact ⟨Z, e, A, _, E, hb, fun v H' Z' g zd rv _ => ⟨true, rv_bl.mp rv, iteT (k H' Z' g zd)⟩⟩
    · rename_i hb
      refine ⟨Z, e, A, _, E, hb, fun v H' Z' g zd rv _ => ⟨false, rv_bl.mp rv, iteF ⟨Z', e, A, t, E.grow g zd, hq, fun H2 Z2 g2 zd2 => k H2 Z2 (g.trans g2) zd2⟩⟩⟩
    · cases hq
  | .nil, _, _, _, [], _, _, _ => ⟨fun _ _ _ _ _ _ ⟨_, _, _, _, _, hq, _⟩ => by simp [qOr] at hq⟩
  | .nil, _, _, _, _ :: _, _, h, _ => by simp [agL] at h
  | .cons _ _, _, _, _, [], _, h, _ => by simp [agL] at h
  | .cons _ .nil, _, _, _, _ :: _ :: _, _, h, _ => by simp [agL] at h
  | .cons _ (.cons _ _), _, _, _, [_], _, h, _ => by simp [agL] at h
  | .cons _ (.var _), _, _, _, [_], _, h, _ => by simp [agL] at h
  | .cons _ (.var _), _, _, _, _ :: _ :: _, _, h, _ => by simp [agL] at h
  | .cons _ (.mv _), _, _, _, [_], _, h, _ => by simp [agL] at h
  | .cons _ (.fv _), _, _, _, [_], _, h, _ => by simp [agL] at h
  | .cons _ (.mv _), _, _, _, _ :: _ :: _, _, h, _ => by simp [agL] at h
  | .cons _ (.fv _), _, _, _, _ :: _ :: _, _, h, _ => by simp [agL] at h
  | .cons _ (.k _), _, _, _, [_], _, h, _ => by simp [agL] at h
  | .cons _ (.k _), _, _, _, _ :: _ :: _, _, h, _ => by simp [agL] at h
  | .cons _ (.g _), _, _, _, [_], _, h, _ => by simp [agL] at h
  | .cons _ (.g _), _, _, _, _ :: _ :: _, _, h, _ => by simp [agL] at h
  | .cons _ (.op _ _), _, _, _, [_], _, h, _ => by simp [agL] at h
  | .cons _ (.op _ _), _, _, _, _ :: _ :: _, _, h, _ => by simp [agL] at h
  | .cons _ (.mop _ _ _), _, _, _, [_], _, h, _ => by simp [agL] at h
  | .cons _ (.mop _ _ _), _, _, _, _ :: _ :: _, _, h, _ => by simp [agL] at h
  | .cons _ (.slc _ _ _), _, _, _, [_], _, h, _ => by simp [agL] at h
  | .cons _ (.slc _ _ _), _, _, _, _ :: _ :: _, _, h, _ => by simp [agL] at h
  | .cons _ (.ch _ _ _ _ _), _, _, _, [_], _, h, _ => by simp [agL] at h
  | .cons _ (.ch _ _ _ _ _), _, _, _, _ :: _ :: _, _, h, _ => by simp [agL] at h
  | .cons _ (.and_ _), _, _, _, [_], _, h, _ => by simp [agL] at h
  | .cons _ (.and_ _), _, _, _, _ :: _ :: _, _, h, _ => by simp [agL] at h
  | .cons _ (.or_ _), _, _, _, [_], _, h, _ => by simp [agL] at h
  | .cons _ (.or_ _), _, _, _, _ :: _ :: _, _, h, _ => by simp [agL] at h
  | .cons _ (.not_ _), _, _, _, [_], _, h, _ => by simp [agL] at h
  | .cons _ (.not_ _), _, _, _, _ :: _ :: _, _, h, _ => by simp [agL] at h
  | .cons _ (.ite _ _ _), _, _, _, [_], _, h, _ => by simp [agL] at h
  | .cons _ (.ite _ _ _), _, _, _, _ :: _ :: _, _, h, _ => by simp [agL] at h
  | .cons _ (.lst _), _, _, _, [_], _, h, _ => by simp [agL] at h
  | .cons _ (.lst _), _, _, _, _ :: _ :: _, _, h, _ => by simp [agL] at h
  | .cons _ (.tup _), _, _, _, [_], _, h, _ => by simp [agL] at h
  | .cons _ (.tup _), _, _, _, _ :: _ :: _, _, h, _ => by simp [agL] at h
  | .cons _ (.dic _), _, _, _, [_], _, h, _ => by simp [agL] at h
  | .cons _ (.dic _), _, _, _, _ :: _ :: _, _, h, _ => by simp [agL] at h
  | .cons _ (.lc _ _ _ _ _), _, _, _, [_], _, h, _ => by simp [agL] at h
  | .cons _ (.lc _ _ _ _ _), _, _, _, _ :: _ :: _, _, h, _ => by simp [agL] at h
  | .cons _ (.call _ _), _, _, _, [_], _, h, _ => by simp [agL] at h
  | .cons _ (.call _ _), _, _, _, _ :: _ :: _, _, h, _ => by simp [agL] at h
  | .cons _ (.mut _ _ _), _, _, _, [_], _, h, _ => by simp [agL] at h
  | .cons _ (.mut _ _ _), _, _, _, _ :: _ :: _, _, h, _ => by simp [agL] at h
  | .var _, _, _, _, l, _, h, _ => by cases l <;> simp [agL] at h
  | .mv _, _, _, _, l, _, h, _ => by cases l <;> simp [agL] at h
  | .fv _, _, _, _, l, _, h, _ => by cases l <;> simp [agL] at h
  | .k _, _, _, _, l, _, h, _ => by cases l <;> simp [agL] at h
  | .g _, _, _, _, l, _, h, _ => by cases l <;> simp [agL] at h
  | .op _ _, _, _, _, l, _, h, _ => by cases l <;> simp [agL] at h
  | .mop _ _ _, _, _, _, l, _, h, _ => by cases l <;> simp [agL] at h
  | .slc _ _ _, _, _, _, l, _, h, _ => by cases l <;> simp [agL] at h
  | .ch _ _ _ _ _, _, _, _, l, _, h, _ => by cases l <;> simp [agL] at h
  | .and_ _, _, _, _, l, _, h, _ => by cases l <;> simp [agL] at h
  | .or_ _, _, _, _, l, _, h, _ => by cases l <;> simp [agL] at h
  | .not_ _, _, _, _, l, _, h, _ => by cases l <;> simp [agL] at h
  | .ite _ _ _, _, _, _, l, _, h, _ => by cases l <;> simp [agL] at h
  | .lst _, _, _, _, l, _, h, _ => by cases l <;> simp [agL] at h
  | .tup _, _, _, _, l, _, h, _ => by cases l <;> simp [agL] at h
  | .dic _, _, _, _, l, _, h, _ => by cases l <;> simp [agL] at h
  | .lc _ _ _ _ _, _, _, _, l, _, h, _ => by cases l <;> simp [agL] at h
  | .call _ _, _, _, _, l, _, h, _ => by cases l <;> simp [agL] at h
  | .mut _ _ _, _, _, _, l, _, h, _ => by cases l <;> simp [agL] at h
theorem qAndT_ok : ∀ (es : I) {X : Cx} {sc : Scope} (C : CxOk X sc T.N G.glob) (l : List Expr) (p : Pos), agL T es sc l = true → quiet es = true → tstL es = true → PW X (.BoolOp .And l p) (tQBT X.K (qAnd G es))
  | .cons a .nil, X, sc, C, [x], p, h, hz, ht => by
    simp only [agL, Bool.and_eq_true] at h
    simp only [quiet, Bool.and_eq_true] at hz
    simp only [tstL, Bool.and_eq_true] at ht
    refine PW.mono (pw_and1 (qT_ok a C x h.1 hz.1 ht.1)) fun σ H Q ⟨Z, e, A, b, E, hq, k⟩ => ?_
    simp only [qAnd] at hq
    split at hq
    · rename_i b' hb
      cases hq
      exact ⟨Z, e, A, _, E, hb, k⟩
    · cases hq
  | .cons a (.cons b r), X, sc, C, x :: y :: l, p, h, hz, ht => by
    have h' : agE T a sc x = true ∧ agL T (.cons b r) sc (y :: l) = true := by simpa only [agL, Bool.and_eq_true] using h
    have hz' : quiet a = true ∧ quiet (.cons b r) = true := by simpa only [quiet, Bool.and_eq_true] using hz
    have ht' : tstE a = true ∧ tstL (.cons b r) = true := by simpa only [tstL, Bool.and_eq_true] using ht
    refine PW.mono (pw_and (qT_ok a C x h'.1 hz'.1 ht'.1) (qAndT_ok (.cons b r) C (y :: l) p h'.2 hz'.2 ht'.2)) fun σ H Q ⟨Z, e, A, t, E, hq, k⟩ => ?_
    unfold qAnd at hq
    simp only at hq
    split at hq
    · rename_i hb
      refine ⟨Z, e, A, _, E, hb, fun H' Z' g zd => iteT ⟨Z', e, A, t, E.grow g zd, hq, fun H2 Z2 g2 zd2 => k H2 Z2 (g.trans g2) zd2⟩⟩
    · rename_i hb
      cases hq
      exact ⟨Z, e, A, _, E, hb, fun H' Z' g zd => iteF (k H' Z' g zd)⟩
    · cases hq
  | .nil, _, _, _, [], _, _, _, _ => ⟨fun _ _ _ _ _ _ _ ⟨_, _, _, _, _, hq, _⟩ => by simp [qAnd] at hq⟩
  | .nil, _, _, _, _ :: _, _, h, _, _ => by simp [agL] at h
  | .cons _ _, _, _, _, [], _, h, _, _ => by simp [agL] at h
  | .cons _ .nil, _, _, _, _ :: _ :: _, _, h, _, _ => by simp [agL] at h
  | .cons _ (.cons _ _), _, _, _, [_], _, h, _, _ => by simp [agL] at h
  | .cons _ (.var _), _, _, _, [_], _, h, _, _ => by simp [agL] at h
  | .cons _ (.var _), _, _, _, _ :: _ :: _, _, h, _, _ => by simp [agL] at h
  | .cons _ (.mv _), _, _, _, [_], _, h, _, _ => by simp [agL] at h
  | .cons _ (.fv _), _, _, _, [_], _, h, _, _ => by simp [agL] at h
  | .cons _ (.mv _), _, _, _, _ :: _ :: _, _, h, _, _ => by simp [agL] at h
  | .cons _ (.fv _), _, _, _, _ :: _ :: _, _, h, _, _ => by simp [agL] at h
  | .cons _ (.k _), _, _, _, [_], _, h, _, _ => by simp [agL] at h
  | .cons _ (.k _), _, _, _, _ :: _ :: _, _, h, _, _ => by simp [agL] at h
  | .cons _ (.g _), _, _, _, [_], _, h, _, _ => by simp [agL] at h
  | .cons _ (.g _), _, _, _, _ :: _ :: _, _, h, _, _ => by simp [agL] at h
  | .cons _ (.op _ _), _, _, _, [_], _, h, _, _ => by simp [agL] at h
  | .cons _ (.op _ _), _, _, _, _ :: _ :: _, _, h, _, _ => by simp [agL] at h
  | .cons _ (.mop _ _ _), _, _, _, [_], _, h, _, _ => by simp [agL] at h
  | .cons _ (.mop _ _ _), _, _, _, _ :: _ :: _, _, h, _, _ => by simp [agL] at h
  | .cons _ (.slc _ _ _), _, _, _, [_], _, h, _, _ => by simp [agL] at h
  | .cons _ (.slc _ _ _), _, _, _, _ :: _ :: _, _, h, _, _ => by simp [agL] at h
  | .cons _ (.ch _ _ _ _ _), _, _, _, [_], _, h, _, _ => by simp [agL] at h
  | .cons _ (.ch _ _ _ _ _), _, _, _, _ :: _ :: _, _, h, _, _ => by simp [agL] at h
  | .cons _ (.and_ _), _, _, _, [_], _, h, _, _ => by simp [agL] at h
  | .cons _ (.and_ _), _, _, _, _ :: _ :: _, _, h, _, _ => by simp [agL] at h
  | .cons _ (.or_ _), _, _, _, [_], _, h, _, _ => by simp [agL] at h
  | .cons _ (.or_ _), _, _, _, _ :: _ :: _, _, h, _, _ => by simp [agL] at h
  | .cons _ (.not_ _), _, _, _, [_], _, h, _, _ => by simp [agL] at h
  | .cons _ (.not_ _), _, _, _, _ :: _ :: _, _, h, _, _ => by simp [agL] at h
  | .cons _ (.ite _ _ _), _, _, _, [_], _, h, _, _ => by simp [agL] at h
  | .cons _ (.ite _ _ _), _, _, _, _ :: _ :: _, _, h, _, _ => by simp [agL] at h
  | .cons _ (.lst _), _, _, _, [_], _, h, _, _ => by simp [agL] at h
  | .cons _ (.lst _), _, _, _, _ :: _ :: _, _, h, _, _ => by simp [agL] at h
  | .cons _ (.tup _), _, _, _, [_], _, h, _, _ => by simp [agL] at h
  | .cons _ (.tup _), _, _, _, _ :: _ :: _, _, h, _, _ => by simp [agL] at h
  | .cons _ (.dic _), _, _, _, [_], _, h, _, _ => by simp [agL] at h
  | .cons _ (.dic _), _, _, _, _ :: _ :: _, _, h, _, _ => by simp [agL] at h
  | .cons _ (.lc _ _ _ _ _), _, _, _, [_], _, h, _, _ => by simp [agL] at h
  | .cons _ (.lc _ _ _ _ _), _, _, _, _ :: _ :: _, _, h, _, _ => by simp [agL] at h
  | .cons _ (.call _ _), _, _, _, [_], _, h, _, _ => by simp [agL] at h
  | .cons _ (.call _ _), _, _, _, _ :: _ :: _, _, h, _, _ => by simp [agL] at h
  | .cons _ (.mut _ _ _), _, _, _, [_], _, h, _, _ => by simp [agL] at h
  | .cons _ (.mut _ _ _), _, _, _, _ :: _ :: _, _, h, _, _ => by simp [agL] at h
  | .var _, _, _, _, l, _, h, _, _ => by cases l <;> simp [agL] at h
  | .mv _, _, _, _, l, _, h, _, _ => by cases l <;> simp [agL] at h
  | .fv _, _, _, _, l, _, h, _, _ => by cases l <;> simp [agL] at h
  | .k _, _, _, _, l, _, h, _, _ => by cases l <;> simp [agL] at h
  | .g _, _, _, _, l, _, h, _, _ => by cases l <;> simp [agL] at h
  | .op _ _, _, _, _, l, _, h, _, _ => by cases l <;> simp [agL] at h
  | .mop _ _ _, _, _, _, l, _, h, _, _ => by cases l <;> simp [agL] at h
  | .slc _ _ _, _, _, _, l, _, h, _, _ => by cases l <;> simp [agL] at h
  | .ch _ _ _ _ _, _, _, _, l, _, h, _, _ => by cases l <;> simp [agL] at h
  | .and_ _, _, _, _, l, _, h, _, _ => by cases l <;> simp [agL] at h
  | .or_ _, _, _, _, l, _, h, _, _ => by cases l <;> simp [agL] at h
  | .not_ _, _, _, _, l, _, h, _, _ => by cases l <;> simp [agL] at h
  | .ite _ _ _, _, _, _, l, _, h, _, _ => by cases l <;> simp [agL] at h
  | .lst _, _, _, _, l, _, h, _, _ => by cases l <;> simp [agL] at h
  | .tup _, _, _, _, l, _, h, _, _ => by cases l <;> simp [agL] at h
  | .dic _, _, _, _, l, _, h, _, _ => by cases l <;> simp [agL] at h
  | .lc _ _ _ _ _, _, _, _, l, _, h, _, _ => by cases l <;> simp [agL] at h
  | .call _ _, _, _, _, l, _, h, _, _ => by cases l <;> simp [agL] at h
  | .mut _ _ _, _, _, _, l, _, h, _, _ => by cases l <;> simp [agL] at h
theorem qOrT_ok : ∀ (es : I) {X : Cx} {sc : Scope} (C : CxOk X sc T.N G.glob) (l : List Expr) (p : Pos), agL T es sc l = true → quiet es = true → tstL es = true → PW X (.BoolOp .Or l p) (tQBT X.K (qOr G es))
  | .cons a .nil, X, sc, C, [x], p, h, hz, ht => by
    simp only [agL, Bool.and_eq_true] at h
    simp only [quiet, Bool.and_eq_true] at hz
    simp only [tstL, Bool.and_eq_true] at ht
    refine PW.mono (pw_or1 (qT_ok a C x h.1 hz.1 ht.1)) fun σ H Q ⟨Z, e, A, b, E, hq, k⟩ => ?_
    simp only [qOr] at hq
    split at hq
    · rename_i b' hb
      cases hq
      exact ⟨Z, e, A, _, E, hb, k⟩
    · cases hq
  | .cons a (.cons b r), X, sc, C, x :: y :: l, p, h, hz, ht => by
    have h' : agE T a sc x = true ∧ agL T (.cons b r) sc (y :: l) = true := by simpa only [agL, Bool.and_eq_true] using h
    have hz' : quiet a = true ∧ quiet (.cons b r) = true := by simpa only [quiet, Bool.and_eq_true] using hz
    have ht' : tstE a = true ∧ tstL (.cons b r) = true := by simpa only [tstL, Bool.and_eq_true] using ht
    refine PW.mono (pw_or (qT_ok a C x h'.1 hz'.1 ht'.1) (qOrT_ok (.cons b r) C (y :: l) p h'.2 hz'.2 ht'.2)) fun σ H Q ⟨Z, e, A, t, E, hq, k⟩ => ?_
    unfold qOr at hq
    simp only at hq
    split at hq
    · rename_i hb
      cases hq
      exact ⟨Z, e, A, _, E, hb, fun H' Z' g zd => iteT (k H' Z' g zd)⟩
    · rename_i hb
      refine ⟨Z, e, A, _, E, hb, fun H' Z' g zd => iteF ⟨Z', e, A, t, E.grow g zd, hq, fun H2 Z2 g2 zd2 => k H2 Z2 (g.trans g2) zd2⟩⟩
    · cases hq
  | .nil, _, _, _, [], _, _, _, _ => ⟨fun _ _ _ _ _ _ _ ⟨_, _, _, _, _, hq, _⟩ => by simp [qOr] at hq⟩
  | .nil, _, _, _, _ :: _, _, h, _, _ => by simp [agL] at h
  | .cons _ _, _, _, _, [], _, h, _, _ => by simp [agL] at h
  | .cons _ .nil, _, _, _, _ :: _ :: _, _, h, _, _ => by simp [agL] at h
  | .cons _ (.cons _ _), _, _, _, [_], _, h, _, _ => by simp [agL] at h
  | .cons _ (.var _), _, _, _, [_], _, h, _, _ => by simp [agL] at h
  | .cons _ (.var _), _, _, _, _ :: _ :: _, _, h, _, _ => by simp [agL] at h
  | .cons _ (.mv _), _, _, _, [_], _, h, _, _ => by simp [agL] at h
  | .cons _ (.fv _), _, _, _, [_], _, h, _, _ => by simp [agL] at h
  | .cons _ (.mv _), _, _, _, _ :: _ :: _, _, h, _, _ => by simp [agL] at h
  | .cons _ (.fv _), _, _, _, _ :: _ :: _, _, h, _, _ => by simp [agL] at h
  | .cons _ (.k _), _, _, _, [_], _, h, _, _ => by simp [agL] at h
  | .cons _ (.k _), _, _, _, _ :: _ :: _, _, h, _, _ => by simp [agL] at h
  | .cons _ (.g _), _, _, _, [_], _, h, _, _ => by simp [agL] at h
  | .cons _ (.g _), _, _, _, _ :: _ :: _, _, h, _, _ => by simp [agL] at h
  | .cons _ (.op _ _), _, _, _, [_], _, h, _, _ => by simp [agL] at h
  | .cons _ (.op _ _), _, _, _, _ :: _ :: _, _, h, _, _ => by simp [agL] at h
  | .cons _ (.mop _ _ _), _, _, _, [_], _, h, _, _ => by simp [agL] at h
  | .cons _ (.mop _ _ _), _, _, _, _ :: _ :: _, _, h, _, _ => by simp [agL] at h
  | .cons _ (.slc _ _ _), _, _, _, [_], _, h, _, _ => by simp [agL] at h
  | .cons _ (.slc _ _ _), _, _, _, _ :: _ :: _, _, h, _, _ => by simp [agL] at h
  | .cons _ (.ch _ _ _ _ _), _, _, _, [_], _, h, _, _ => by simp [agL] at h
  | .cons _ (.ch _ _ _ _ _), _, _, _, _ :: _ :: _, _, h, _, _ => by simp [agL] at h
  | .cons _ (.and_ _), _, _, _, [_], _, h, _, _ => by simp [agL] at h
  | .cons _ (.and_ _), _, _, _, _ :: _ :: _, _, h, _, _ => by simp [agL] at h
  | .cons _ (.or_ _), _, _, _, [_], _, h, _, _ => by simp [agL] at h
  | .cons _ (.or_ _), _, _, _, _ :: _ :: _, _, h, _, _ => by simp [agL] at h
  | .cons _ (.not_ _), _, _, _, [_], _, h, _, _ => by simp [agL] at h
  | .cons _ (.not_ _), _, _, _, _ :: _ :: _, _, h, _, _ => by simp [agL] at h
  | .cons _ (.ite _ _ _), _, _, _, [_], _, h, _, _ => by simp [agL] at h
  | .cons _ (.ite _ _ _), _, _, _, _ :: _ :: _, _, h, _, _ => by simp [agL] at h
  | .cons _ (.lst _), _, _, _, [_], _, h, _, _ => by simp [agL] at h
  | .cons _ (.lst _), _, _, _, _ :: _ :: _, _, h, _, _ => by simp [agL] at h
  | .cons _ (.tup _), _, _, _, [_], _, h, _, _ => by simp [agL] at h
  | .cons _ (.tup _), _, _, _, _ :: _ :: _, _, h, _, _ => by simp [agL] at h
  | .cons _ (.dic _), _, _, _, [_], _, h, _, _ => by simp [agL] at h
  | .cons _ (.dic _), _, _, _, _ :: _ :: _, _, h, _, _ => by simp [agL] at h
  | .cons _ (.lc _ _ _ _ _), _, _, _, [_], _, h, _, _ => by simp [agL] at h
  | .cons _ (.lc _ _ _ _ _), _, _, _, _ :: _ :: _, _, h, _, _ => by simp [agL] at h
  | .cons _ (.call _ _), _, _, _, [_], _, h, _, _ => by simp [agL] at h
  | .cons _ (.call _ _), _, _, _, _ :: _ :: _, _, h, _, _ => by simp [agL] at h
  | .cons _ (.mut _ _ _), _, _, _, [_], _, h, _, _ => by simp [agL] at h
  | .cons _ (.mut _ _ _), _, _, _, _ :: _ :: _, _, h, _, _ => by simp [agL] at h
  | .var _, _, _, _, l, _, h, _, _ => by cases l <;> simp [agL] at h
  | .mv _, _, _, _, l, _, h, _, _ => by cases l <;> simp [agL] at h
  | .fv _, _, _, _, l, _, h, _, _ => by cases l <;> simp [agL] at h
  | .k _, _, _, _, l, _, h, _, _ => by cases l <;> simp [agL] at h
  | .g _, _, _, _, l, _, h, _, _ => by cases l <;> simp [agL] at h
  | .op _ _, _, _, _, l, _, h, _, _ => by cases l <;> simp [agL] at h
  | .mop _ _ _, _, _, _, l, _, h, _, _ => by cases l <;> simp [agL] at h
  | .slc _ _ _, _, _, _, l, _, h, _, _ => by cases l <;> simp [agL] at h
  | .ch _ _ _ _ _, _, _, _, l, _, h, _, _ => by cases l <;> simp [agL] at h
  | .and_ _, _, _, _, l, _, h, _, _ => by cases l <;> simp [agL] at h
  | .or_ _, _, _, _, l, _, h, _, _ => by cases l <;> simp [agL] at h
  | .not_ _, _, _, _, l, _, h, _, _ => by cases l <;> simp [agL] at h
  | .ite _ _ _, _, _, _, l, _, h, _, _ => by cases l <;> simp [agL] at h
  | .lst _, _, _, _, l, _, h, _, _ => by cases l <;> simp [agL] at h
  | .tup _, _, _, _, l, _, h, _, _ => by cases l <;> simp [agL] at h
  | .dic _, _, _, _, l, _, h, _, _ => by cases l <;> simp [agL] at h
  | .lc _ _ _ _ _, _, _, _, l, _, h, _, _ => by cases l <;> simp [agL] at h
  | .call _ _, _, _, _, l, _, h, _, _ => by cases l <;> simp [agL] at h
  | .mut _ _ _, _, _, _, l, _, h, _, _ => by cases l <;> simp [agL] at h
theorem qTs_ok : ∀ (es : I) {X : Cx} {sc : Scope} (C : CxOk X sc T.N G.glob) (l : List Expr), agL T es sc l = true → l.length ≤ 1 → tstL es = true → quiet es = true → PTs X l (tQTs G X.K es)
  | .nil, X, sc, C, [], _, _, _, _ => PTs.mono pts_nil fun σ H Q ⟨Z, e, A, b, E, hq, k⟩ => by
    simp only [qTs] at hq
    cases hq
    exact k H Z Grow.refl E.zd
  | .cons a .nil, X, sc, C, [x], h, _, ht, hz => by
    simp only [agL, Bool.and_eq_true] at h
    simp only [quiet, Bool.and_eq_true] at hz
    simp only [tstL, Bool.and_eq_true] at ht
    refine PTs.mono (pts_one (qT_ok a C x h.1 hz.1 ht.1)) fun σ H Q ⟨Z, e, A, b, E, hq, k⟩ => ?_
    simp only [qTs] at hq
    split at hq
    · rename_i b' hb
      cases hq
      exact ⟨Z, e, A, _, E, hb, k⟩
    · cases hq
  | .nil, _, _, _, _ :: _, h, _, _, _ => by simp [agL] at h
  | .cons _ _, _, _, _, [], h, _, _, _ => by simp [agL] at h
  | .cons _ _, _, _, _, _ :: _ :: _, _, h, _, _ => by simp at h
  | .cons _ (.cons _ _), _, _, _, [_], h, _, _, _ => by simp [agL] at h
  | .cons _ (.var _), _, _, _, [_], h, _, _, _ => by simp [agL] at h
  | .cons _ (.mv _), _, _, _, [_], h, _, _, _ => by simp [agL] at h
  | .cons _ (.fv _), _, _, _, [_], h, _, _, _ => by simp [agL] at h
  | .cons _ (.k _), _, _, _, [_], h, _, _, _ => by simp [agL] at h
  | .cons _ (.g _), _, _, _, [_], h, _, _, _ => by simp [agL] at h
  | .cons _ (.op _ _), _, _, _, [_], h, _, _, _ => by simp [agL] at h
  | .cons _ (.mop _ _ _), _, _, _, [_], h, _, _, _ => by simp [agL] at h
  | .cons _ (.slc _ _ _), _, _, _, [_], h, _, _, _ => by simp [agL] at h
  | .cons _ (.ch _ _ _ _ _), _, _, _, [_], h, _, _, _ => by simp [agL] at h
  | .cons _ (.and_ _), _, _, _, [_], h, _, _, _ => by simp [agL] at h
  | .cons _ (.or_ _), _, _, _, [_], h, _, _, _ => by simp [agL] at h
  | .cons _ (.not_ _), _, _, _, [_], h, _, _, _ => by simp [agL] at h
  | .cons _ (.ite _ _ _), _, _, _, [_], h, _, _, _ => by simp [agL] at h
  | .cons _ (.lst _), _, _, _, [_], h, _, _, _ => by simp [agL] at h
  | .cons _ (.tup _), _, _, _, [_], h, _, _, _ => by simp [agL] at h
  | .cons _ (.dic _), _, _, _, [_], h, _, _, _ => by simp [agL] at h
  | .cons _ (.lc _ _ _ _ _), _, _, _, [_], h, _, _, _ => by simp [agL] at h
  | .cons _ (.call _ _), _, _, _, [_], h, _, _, _ => by simp [agL] at h
  | .cons _ (.mut _ _ _), _, _, _, [_], h, _, _, _ => by simp [agL] at h
  | .var _, _, _, _, l, h, _, _, _ => by cases l <;> simp [agL] at h
  | .mv _, _, _, _, l, h, _, _, _ => by cases l <;> simp [agL] at h
  | .fv _, _, _, _, l, h, _, _, _ => by cases l <;> simp [agL] at h
  | .k _, _, _, _, l, h, _, _, _ => by cases l <;> simp [agL] at h
  | .g _, _, _, _, l, h, _, _, _ => by cases l <;> simp [agL] at h
  | .op _ _, _, _, _, l, h, _, _, _ => by cases l <;> simp [agL] at h
  | .mop _ _ _, _, _, _, l, h, _, _, _ => by cases l <;> simp [agL] at h
  | .slc _ _ _, _, _, _, l, h, _, _, _ => by cases l <;> simp [agL] at h
  | .ch _ _ _ _ _, _, _, _, l, h, _, _, _ => by cases l <;> simp [agL] at h
  | .and_ _, _, _, _, l, h, _, _, _ => by cases l <;> simp [agL] at h
  | .or_ _, _, _, _, l, h, _, _, _ => by cases l <;> simp [agL] at h
  | .not_ _, _, _, _, l, h, _, _, _ => by cases l <;> simp [agL] at h
  | .ite _ _ _, _, _, _, l, h, _, _, _ => by cases l <;> simp [agL] at h
  | .lst _, _, _, _, l, h, _, _, _ => by cases l <;> simp [agL] at h
  | .tup _, _, _, _, l, h, _, _, _ => by cases l <;> simp [agL] at h
  | .dic _, _, _, _, l, h, _, _, _ => by cases l <;> simp [agL] at h
  | .lc _ _ _ _ _, _, _, _, l, h, _, _, _ => by cases l <;> simp [agL] at h
  | .call _ _, _, _, _, l, h, _, _, _ => by cases l <;> simp [agL] at h
  | .mut _ _ _, _, _, _, l, h, _, _, _ => by cases l <;> simp [agL] at h
theorem qT_ok : ∀ (a : I) {X : Cx} {sc : Scope} (C : CxOk X sc T.N G.glob) (ex : Expr), agE T a sc ex = true → quiet a = true → tstE a = true → PT X ex (tQT G X.K a)
  | .var i, X, sc, C, ex, h, _, _ => by
    refine qt_plain (q_var C false h) ?_
    simp only [agE] at h
    cases ex <;> first | (cases h; done) | rfl
  | .op f es, X, sc, C, ex, h, hz, _ => by
    simp only [agE] at h
    split at h
    · rename_i l hl
      simp only [quiet] at hz
      have p := qs_ok es C false l h hz
      cases hf : isCmp f with
      | false => exact qt_plain (q_op C false hl p) (opT_plain hl hf)
      | true =>
        refine PT.mono (op_ruleT C hf hl p) fun σ H Q ⟨Z, e, A, b, E, hq, k⟩ => ?_
        simp only [q] at hq
        split at hq
        · rename_i ds hds
          refine chainQ E (qs_qL hds) fun vs H1 Z1 g1 zd1 rx => ⟨Z1, ds, .bl b, rx.rvs, hq, fun v H2 po => ?_⟩
          obtain ⟨Z2, g2, zd2, rd⟩ := post_frz po zd1
          exact ⟨b, rd_bl.mp rd, k H2 Z2 (g1.trans g2) zd2⟩
        · cases hq
    · cases h
  | .mop f o es, X, sc, C, ex, h, hz, _ => by
    simp only [agE] at h
    split at h
    · rename_i x l hl
      simp only [Bool.and_eq_true] at h
      simp only [quiet, Bool.and_eq_true] at hz
      refine qt_plain (q_mop C false hl (q_ok o C false x h.1.1 hz.1) (qs_ok es C false l h.1.2 hz.2) h.2) ?_
      unfold mopArgs at hl
      split at hl
      · rfl
      · cases hl
    · cases h
  | .ch f h' a b d', X, sc, C, ex, h, hz, _ => by
    simp only [agE] at h
    split at h
    · rename_i l o1 o2 m r p
      simp only [Bool.and_eq_true, decide_eq_true_eq] at h
      obtain ⟨⟨⟨⟨c1, c2⟩, h1⟩, h2⟩, h3⟩ := h
      simp only [quiet, Bool.and_eq_true] at hz
      have pa := q_ok a C false l h1 hz.1.1
      have pb := q_ok b C false m h2 hz.1.2
      have pc := q_ok d' C false r h3 hz.2
      refine PT.mono (pt_chain (cmp_of C c1) (cmp_of C c2) pa pb pc (lm2 _ _ _ _ (mark_of (agE_plain h3) _))) fun σ H Q ⟨Z, e, A, d, E, hq, k⟩ => ?_
      simp only [q] at hq
      split at hq
      · rename_i x y z hx hy hz'
        refine ⟨Z, e, A, x, E, hx, fun v H1 Z1 g1 zd1 rx _ => ?_⟩
        refine ⟨Z1, e, A, y, E.grow g1 zd1, hy, fun w H2 Z2 g2 zd2 ry _ => ?_⟩
        split at hq
        · rename_i ho
          refine ⟨Z2, [x, y], .bl true, ⟨v, [w], rfl, rx.grow g2, w, [], rfl, ry, rfl⟩, ho, fun u H3 po => ?_⟩
          obtain ⟨Z3, g3, zd3, rd⟩ := post_frz po zd2
          refine ⟨true, rd_bl.mp rd, ?_⟩
          show _
          refine ite_tt ?_
          refine ⟨Z3, e, A, z, ((E.grow g1 zd1).grow g2 zd2).grow g3 zd3, hz', fun u2 H4 Z4 g4 zd4 rz _ => ?_⟩
          refine ⟨Z4, [y, z], .bl d, ⟨w, [u2], rfl, (ry.grow g3).grow g4, u2, [], rfl, rz, rfl⟩, hq, fun u3 H5 po5 => ?_⟩
          obtain ⟨Z5, g5, zd5, rd5⟩ := post_frz po5 zd4
          exact ⟨d, rd_bl.mp rd5, k H5 Z5 (g1.trans (g2.trans (g3.trans (g4.trans g5)))) zd5⟩
        · rename_i ho
          cases hq
          refine ⟨Z2, [x, y], .bl false, ⟨v, [w], rfl, rx.grow g2, w, [], rfl, ry, rfl⟩, ho, fun u H3 po => ?_⟩
          obtain ⟨Z3, g3, zd3, rd⟩ := post_frz po zd2
          refine ⟨false, rd_bl.mp rd, ?_⟩
          show _
          refine ite_ff ?_
          exact ⟨false, rfl, k H3 Z3 (g1.trans (g2.trans g3)) zd3⟩
        · cases hq
      · cases hq
    · cases h
  | .and_ es, X, sc, C, ex, h, hz, _ => by
    simp only [agE] at h
    split at h
    · rename_i l p
      simp only [Bool.and_eq_true] at h
      simp only [quiet] at hz
      refine PT.mono (PW.pt (qAndT_ok es C l p h.1 hz h.2)) fun σ H Q ⟨Z, e, A, d, E, hq, k⟩ => ?_
      simp only [q] at hq
      exact ⟨Z, e, A, d, E, hq, k⟩
    · cases h
  | .or_ es, X, sc, C, ex, h, hz, _ => by
    simp only [agE] at h
    split at h
    · rename_i l p
      simp only [Bool.and_eq_true] at h
      simp only [quiet] at hz
      refine PT.mono (PW.pt (qOrT_ok es C l p h.1 hz h.2)) fun σ H Q ⟨Z, e, A, d, E, hq, k⟩ => ?_
      simp only [q] at hq
      exact ⟨Z, e, A, d, E, hq, k⟩
    · cases h
  | .not_ a, X, sc, C, ex, h, hz, _ => by
    simp only [agE] at h
    split at h
    · rename_i x p
      simp only [Bool.and_eq_true] at h
      simp only [quiet] at hz
      refine PT.mono (pt_not (qT_ok a C x h.1 hz h.2)) fun σ H Q ⟨Z, e, A, d, E, hq, k⟩ => ?_
      simp only [q] at hq
      split at hq
      · rename_i b hb
        cases hq
        exact ⟨Z, e, A, b, E, hb, k⟩
      · cases hq
    · cases h
  | .call _ _, _, _, _, _, _, hz, _ => by cases hz
  | .mv _, _, _, _, _, _, _, h => by cases h
  | .fv _, _, _, _, _, _, _, h => by cases h
  | .k _, _, _, _, _, _, _, h => by cases h
  | .g _, _, _, _, _, _, _, h => by cases h
  | .slc _ _ _, _, _, _, _, _, _, h => by cases h
  | .ite _ _ _, _, _, _, _, _, _, h => by cases h
  | .lst _, _, _, _, _, _, _, h => by cases h
  | .tup _, _, _, _, _, _, _, h => by cases h
  | .dic _, _, _, _, _, _, _, h => by cases h
  | .lc _ _ _ _ _, _, _, _, _, _, _, h => by cases h
  | .mut _ _ _, _, _, _, _, _, _, h => by cases h
  | .nil, _, _, _, _, _, _, h => by cases h
  | .cons _ _, _, _, _, _, _, _, h => by cases h
end
end
end Vm

set_option Elab.async false
set_option linter.all false
set_option maxRecDepth 100000
/-! V15: expressions that call and change: how a reading is answered. -/
namespace Vm
open PySem PySem.Spec PyProof.Rows L2

abbrev XR := Ex → Hp → (Addr → Prop) → Value → Option Addr → Prop
section
variable (K : PySem.W.Frag) (EX : XR) (E : XK) (H : Hp) (Z : Addr → Prop) (A : Nat → Addr → Prop) (σ : L2.St)
/-- how an evaluation ends -/
def Ans {α : Type} (r : Rs α) (P : α → Env → Prop) : Prop := match r with
  | .ok a e' => P a e'
  | .ex x e' => ∀ cls d H' Z' A', ER K H' Z' σ e' A' → Stp H Z (W A) H' Z' (W A') → EX x H' Z' cls d → E cls d H'
  | .st => False
def AfO (Q : VK) (o : O) (e' : Env) : Prop := ∀ v H' Z' A' B, ER K H' Z' σ e' A' → Stp H Z (W A) H' Z' (fun b => W A' b ∨ B b) → RO K H' Z' o v B → (∀ j b, A' j b → ¬ B b) → (∀ b, B b → ¬ Z' b) → Q v H'
def Af (e' : Env) (P : Hp → (Addr → Prop) → (Nat → Addr → Prop) → Prop) : Prop := ∀ H' Z' A', ER K H' Z' σ e' A' → Stp H Z (W A) H' Z' (W A') → P H' Z' A'
end

section
variable {K : PySem.W.Frag} {EX : XR} {E : XK} {H H' H1 H2 : Hp} {Z Z' Z1 Z2 : Addr → Prop} {A A' A1 : Nat → Addr → Prop} {σ : L2.St} {e e' : Env} {W0 W1 W2 V1 V2 B : Addr → Prop} {o : O} {v : V}
theorem Stp.thn (a : Stp H Z W0 H1 Z1 W1) (h : ∀ b, V1 b → W1 b) (b : Stp H1 Z1 V1 H2 Z2 V2) (h2 : ∀ b, W2 b → V2 b ∨ W1 b) : Stp H Z W0 H2 Z2 W2 where
  keep := fun c u hc n => by
    refine b.keep c u (a.keep c u hc n) fun w => ?_
    rcases a.wn c (h c w) with z | z
    · exact n z
    · rw [hc] at z; cases z
  dom := fun c hc => b.dom c (a.dom c hc)
  zm := fun c hc => b.zm c (a.zm c hc)
  zn := fun c hc => by
    rcases b.zn c hc with z | z | z
    · exact a.zn c z
    · rcases a.wn c (h c z) with y | y
      · exact .inr (.inl y)
      · exact .inr (.inr y)
    · exact .inr (.inr (a.none z))
  wn := fun c hc => by
    rcases h2 c hc with z | z
    · rcases b.wn c z with y | y
      · exact a.wn c (h c y)
      · exact .inr (a.none y)
    · exact a.wn c z
theorem Ans.bind {α β : Type} {r : Rs α} {f : α → Env → Rs β} {P : α → Env → Prop} {P' : β → Env → Prop} (h : Ans K EX E H Z A σ (r.bind f) P') (k : ∀ a e1, r = .ok a e1 → Ans K EX E H Z A σ (f a e1) P' → P a e1) : Ans K EX E H Z A σ r P := by
  cases r with
  | ok a e1 => exact k a e1 rfl h
  | ex x e1 => exact h
  | st => exact h
theorem Ans.move {α : Type} {r : Rs α} {P P' : α → Env → Prop} (h : Ans K EX E H Z A σ r P) (s : Stp H Z (W A) H1 Z1 W1) (hw : ∀ b, W A1 b → W1 b) (k : ∀ a e1, r = .ok a e1 → P a e1 → P' a e1) : Ans K EX E H1 Z1 A1 σ r P' := by
  cases r with
  | ok a e1 => exact k a e1 rfl h
  | ex x e1 => exact fun cls d H' Z' A' E' s' q => h cls d H' Z' A' E' (s.thn hw s' fun b w => .inl w) q
  | st => exact h
theorem Ans.ok {α : Type} {a : α} {e1 : Env} {P : α → Env → Prop} (h : Ans K EX E H Z A σ (.ok a e1) P) : P a e1 := h
/-- what was made is frozen -/
theorem ER.frzB (R : ER K H Z σ e A) (r : RO K H Z o v B) (dj : ∀ j b, A j b → ¬ B b) : ER K H (fun b => Z b ∨ B b) σ e A where
  len := R.len
  rep := fun i u h => by
    obtain ⟨w, hw, q⟩ := R.rep i u h
    exact ⟨w, hw, q.still (Still.of_z fun b z => .inl z) fun _ _ _ h => h⟩
  emp := R.emp
  dj := R.dj
  nz := fun i b a z => z.elim (R.nz i b a) (dj i b a)
  zd := fun b z => z.elim (R.zd b) fun y n => by
    have := r.mut y
    rw [n] at this
    exact this
theorem Stp.frzB (s : Stp H Z W0 H1 Z1 (fun b => W1 b ∨ B b)) : Stp H Z W0 H1 (fun b => Z1 b ∨ B b) W1 := s.frz (fun b z => z.elim .inl fun y => .inr (.inr y)) (fun b z => .inl z) fun b w => .inl w
theorem ER.nothing (R : ER K H Z σ e A) : ER K H Z σ e A := R
theorem RO.flat0 {d : D} (r : RD K H Z d v) : RO K H Z (.d d) v noA := ⟨r, fun _ z => z⟩
/-- an answer without a box of its own -/
theorem AfO.d {Q : VK} {d : D} (h : AfO K H Z A σ Q (.d d) e') {v : V} (R : ER K H' Z' σ e' A') (s : Stp H Z (W A) H' Z' (W A')) (r : RD K H' Z' d v) : Q v H' :=
  h v H' Z' A' noA R (s.less (fun b z => z.elim id fun y => y.elim)) ⟨r, fun _ z => z⟩ (fun _ _ _ z => z) fun _ z => z.elim
theorem Stp.to (a : Stp H Z W0 H1 Z1 W1) (h : ∀ b, W2 b → W1 b) : Stp H Z W0 H1 Z1 W2 := a.less h
theorem ROw {o : O} (r : RO K H Z o v B) (g : Still H Z H' Z') (s : ∀ b u, B b → H b = some u → H' b = some u) : RO K H' Z' o v B := r.still g s
end

/-! ### operands, values, arguments in a row -/
section
variable (G : Gs) (K : PySem.W.Frag) (EX : XR) (E : XK)
def tE (a : I) : TE := fun σ H Q => ∃ Z e A, ER K H Z σ e A ∧ Ans K EX E H Z A σ (evl G a e) (AfO K H Z A σ Q)
def tEo (a : I) : TE := match a with
  | .var i => tVar i
  | a => if quiet a = true ∧ lentE a = false then tQ G K false a else tE G K EX E a
def tL : I → List TE
  | .cons a r => tEo G K EX E a :: tL r
  | _ => []
def tV : I → List TE
  | .cons a r => tE G K EX E a :: tV r
  | _ => []
def tAa (a : I) : TE := match a with
  | .var i => tVar i
  | a => tE G K EX E a
def tAs : I → List TE
  | .cons a r => tAa G K EX E a :: tAs r
  | _ => []
end
section
variable {G : Gs} {K : PySem.W.Frag} {EX : XR} {E : XK} {σ : L2.St}
theorem slot_ok {α : Type} {H : Hp} {Z : Addr → Prop} {A : Nat → Addr → Prop} {e : Env} {i : Nat} {f : O → Env → Rs α} {P : α → Env → Prop} (h : Ans K EX E H Z A σ ((slot e i).bind f) P) : ∃ o, e[i]? = some (some o) ∧ Ans K EX E H Z A σ (f o e) P := by
  unfold slot at h
  split at h
  · rename_i o ho
    exact ⟨o, ho, h⟩
  · exact h.elim
theorem ER.val {H H' : Hp} {Z Z' : Addr → Prop} {A A' : Nat → Addr → Prop} {e e' : Env} (R : ER K H Z σ e A) {i : Nat} {o : O} {v : V} (ho : e[i]? = some (some o)) (hv : σ[i]? = some (some v)) : RO K H Z o v (A i) := by
  obtain ⟨w, hw, r⟩ := R.rep i o ho
  rw [hv] at hw
  cases hw
  exact r
theorem tEo_ne {a : I} (h : ∀ i, a = .var i → False) : tEo G K EX E a = if quiet a = true ∧ lentE a = false then tQ G K false a else tE G K EX E a := by
  unfold tEo
  split
  · exact (h _ rfl).elim
  · rfl
theorem tAa_ne {a : I} (h : ∀ i, a = .var i → False) : tAa G K EX E a = tE G K EX E a := by
  unfold tAa
  split
  · exact (h _ rfl).elim
  · rfl
theorem chainL : ∀ {es : I} {H : Hp} {Z : Addr → Prop} {e : Env} {A : Nat → Addr → Prop} {R : List V → Hp → Prop}, ER K H Z σ e A →
    Ans K EX E H Z A σ (evL G es e) (fun ds e' => ∀ vs H' Z' A', ER K H' Z' σ e' A' → Stp H Z (W A) H' Z' (W A') → RVs K H' Z' ds vs → R vs H') → tCh (tL G K EX E es) σ H R := by
  intro es
  induction es with
  | nil =>
    intro H Z e A R E0 h
    exact h.ok [] H Z A E0 Stp.refl rfl
  | cons a r iha ih =>
    intro H Z e A R E0 h
    have gen : ∀ {te : TE} , (tE G K EX E a = te) → (h : Ans K EX E H Z A σ ((evl G a e).bind fun o e1 => (evL G r e1).bind fun ds e2 => .ok (o.toD :: ds) e2) (fun ds e' => ∀ vs H' Z' A', ER K H' Z' σ e' A' → Stp H Z (W A) H' Z' (W A') → RVs K H' Z' ds vs → R vs H')) → te σ H fun x H1 => tCh (tL G K EX E r) σ H1 fun xs H2 => R (x :: xs) H2 := by
      rintro te rfl h
      refine ⟨Z, e, A, E0, h.bind fun o e1 _ h1 => ?_⟩
      intro v H1 Z1 A1 B R1 s1 r1 dj nz
      have R2 := R1.frzB r1 dj
      refine ih R2 ?_
      refine (h1.move (Z1 := fun b => Z1 b ∨ B b) (A1 := A1) s1.frzB (fun b w => w) fun ds e2 _ hk => hk).bind fun ds e2 _ h2 => ?_
      intro vs H3 Z3 A3 R3 s3 rv
      refine h2.ok (v :: vs) H3 Z3 A3 R3 (s1.frzB.trans s3) ⟨v, vs, rfl, (RD.still (R2.still s3) r1.toRD).toRV, rv⟩
    unfold tL tCh
    show tEo G K EX E a σ H fun x H1 => tCh (tL G K EX E r) σ H1 fun xs H2 => R (x :: xs) H2
    unfold evL at h
    split at h
    · rename_i i
      obtain ⟨o, ho, h⟩ := slot_ok h
      obtain ⟨v, hv, r0⟩ := E0.rep i o ho
      refine ⟨v, hv, ih E0 (h.bind fun ds e1 _ h1 => ?_)⟩
      intro vs H1 Z1 A1 R1 s1 rv
      obtain ⟨o1, ho1, h1⟩ := slot_ok h1
      exact h1.ok (v :: vs) H1 Z1 A1 R1 s1 ⟨v, vs, rfl, (ER.val (H' := H1) (Z' := Z1) (A' := A1) (e' := e1) R1 ho1 hv).toRV, rv⟩
    · split at h
      · rename_i hn hq
        rw [tEo_ne hn, if_pos hq]
        split at h
        · rename_i d hd
          refine ⟨Z, e, A, d, E0, hd, fun v H1 Z1 g zd rv rd => ?_⟩
          have R1 := E0.grow g zd
          refine ih R1 ?_
          refine (h.move (Z1 := Z1) (A1 := A) g.stp (fun b w => w) fun ds e2 _ hk => hk).bind fun ds e2 _ h2 => ?_
          intro vs H3 Z3 A3 R3 s3 rv3
          exact h2.ok (v :: vs) H3 Z3 A3 R3 (g.stp.trans s3) ⟨v, vs, rfl, (RD.still (R1.still s3) (rd (.inr hq.2))).toRV, rv3⟩
        · exact h.elim
      · rename_i hn hq
        rw [tEo_ne hn, if_neg hq]
        exact gen rfl h
  | _ =>
    intro H Z e A R E0 h
    simp [evL, Ans] at h
theorem chainV : ∀ {es : I} {H : Hp} {Z : Addr → Prop} {e : Env} {A : Nat → Addr → Prop} {R : List V → Hp → Prop}, ER K H Z σ e A →
    Ans K EX E H Z A σ (evV G es e) (fun ds e' => ∀ vs H' Z' A', ER K H' Z' σ e' A' → Stp H Z (W A) H' Z' (W A') → RDs K H' Z' ds vs → R vs H') → tCh (tV G K EX E es) σ H R := by
  intro es
  induction es with
  | nil =>
    intro H Z e A R E0 h
    exact h.ok [] H Z A E0 Stp.refl (RDs.nil_iff.mpr rfl)
  | cons a r iha ih =>
    intro H Z e A R E0 h
    unfold evV at h
    refine ⟨Z, e, A, E0, h.bind fun o e1 _ h1 => ?_⟩
    intro v H1 Z1 A1 B R1 s1 r1 dj nz
    have R2 := R1.frzB r1 dj
    refine ih R2 ?_
    refine (h1.move (Z1 := fun b => Z1 b ∨ B b) (A1 := A1) s1.frzB (fun b w => w) fun ds e2 _ hk => hk).bind fun ds e2 _ h2 => ?_
    intro vs H3 Z3 A3 R3 s3 rv
    exact h2.ok (v :: vs) H3 Z3 A3 R3 (s1.frzB.trans s3) (RDs.mk (RD.still (R2.still s3) r1.toRD) rv)
  | _ =>
    intro H Z e A R E0 h
    simp [evV, Ans] at h
/-- arguments: lent, or of their own -/
structure AOk (K : PySem.W.Frag) (H : Hp) (Z : Addr → Prop) (σ : L2.St) (A : Nat → Addr → Prop) (as : List Ar) (vs : List V) (AA : Nat → Addr → Prop) : Prop where
  len : as.length = vs.length
  sl : ∀ (j i : Nat), as[j]? = some (Ar.sl i) → ∃ v, vs[j]? = some v ∧ σ[i]? = some (some v)
  tm : ∀ (j : Nat) (o : O), as[j]? = some (Ar.tm o) → ∃ v, vs[j]? = some v ∧ RO K H Z o v (AA j)
  emp : ∀ (j : Nat), (∀ o, as[j]? ≠ some (Ar.tm o)) → ∀ b, ¬ AA j b
  dj : ∀ j k b, AA j b → AA k b → j = k
  djA : ∀ j b, AA j b → ¬ W A b
  nz : ∀ j b, AA j b → ¬ Z b
def shf (B : Addr → Prop) (AA : Nat → Addr → Prop) : Nat → Addr → Prop
  | 0 => B
  | j + 1 => AA j
theorem W_shf {B : Addr → Prop} {AA : Nat → Addr → Prop} {b : Addr} : W (shf B AA) b ↔ B b ∨ W AA b := by
  constructor
  · rintro ⟨j, h⟩
    cases j with
    | zero => exact .inl h
    | succ j => exact .inr ⟨j, h⟩
  · rintro (h | ⟨j, h⟩)
    · exact ⟨0, h⟩
    · exact ⟨j + 1, h⟩
theorem chainA : ∀ {es : I} {H : Hp} {Z : Addr → Prop} {e : Env} {A : Nat → Addr → Prop} {R : List V → Hp → Prop}, ER K H Z σ e A →
    Ans K EX E H Z A σ (evA G es e) (fun as e' => ∀ vs H' Z' A' AA, ER K H' Z' σ e' A' → Stp H Z (W A) H' Z' (fun b => W A' b ∨ W AA b) → AOk K H' Z' σ A' as vs AA → R vs H') → tCh (tAs G K EX E es) σ H R := by
  intro es
  induction es with
  | nil =>
    intro H Z e A R E0 h
    refine h.ok [] H Z A (fun _ => noA) E0 (Stp.refl.less fun b w => w.elim id fun ⟨_, z⟩ => z.elim) ⟨rfl, fun j i q => by simp at q, fun j i q => by simp at q, fun _ _ _ z => z, fun _ _ _ z => z.elim, fun _ _ z => z.elim, fun _ _ z => z.elim⟩
  | cons a r iha ih =>
    intro H Z e A R E0 h
    unfold tAs tCh
    show tAa G K EX E a σ H fun x H1 => tCh (tAs G K EX E r) σ H1 fun xs H2 => R (x :: xs) H2
    unfold evA at h
    split at h
    · rename_i i
      obtain ⟨o, ho, h⟩ := slot_ok h
      obtain ⟨v, hv, r0⟩ := E0.rep i o ho
      refine ⟨v, hv, ih E0 (h.bind fun as e1 _ h1 => ?_)⟩
      intro vs H1 Z1 A1 AA R1 s1 ao
      refine h1.ok (v :: vs) H1 Z1 A1 (shf noA AA) R1 (s1.less fun b w => w.elim .inl fun y => (W_shf.mp y).elim (fun z => z.elim) .inr) ⟨by simp [ao.len], ?_, ?_, ?_, ?_, ?_, ?_⟩
      · intro j k hj
        cases j with
        | zero =>
          simp at hj
          subst hj
          exact ⟨v, rfl, hv⟩
        | succ j => simpa using ao.sl j k (by simpa using hj)
      · intro j k hj
        cases j with
        | zero => simp at hj
        | succ j => exact (by simpa using ao.tm j k (by simpa using hj) : ∃ w, (v :: vs)[j + 1]? = some w ∧ RO K _ _ k w (AA j))
      · intro j hj b
        cases j with
        | zero => exact fun z => z
        | succ j => exact ao.emp j (fun o q => hj o (by simpa using q)) b
      · intro j k b hj hk
        cases j with
        | zero => exact hj.elim
        | succ j =>
          cases k with
          | zero => exact hk.elim
          | succ k => rw [ao.dj j k b hj hk]
      · intro j b hj
        cases j with
        | zero => exact hj.elim
        | succ j => exact ao.djA j b hj
      · intro j b hj
        cases j with
        | zero => exact hj.elim
        | succ j => exact ao.nz j b hj
    · rename_i hn
      rw [tAa_ne hn]
      refine ⟨Z, e, A, E0, h.bind fun o e1 _ h1 => ?_⟩
      intro v H1 Z1 A1 B R1 s1 r1 dj nz
      refine ih R1 ?_
      refine (h1.move (Z1 := Z1) (A1 := A1) s1 (fun b w => .inl w) fun ds e2 _ hk => hk).bind fun as e2 _ h2 => ?_
      intro vs H2 Z2 A2 AA R2 s2 ao
      have fresh : ∀ b, B b → ¬ (W A2 b ∨ W AA b) := fun b hb w => by
        rcases s2.wn b w with ⟨j, z⟩ | z
        · exact dj j b z hb
        · have := r1.mut hb
          rw [z] at this
          exact this
      have rB : RO K H2 Z2 o v B := r1.still (R1.still s2) fun b u hb hu => s2.keep b u hu fun ⟨j, z⟩ => dj j b z hb
      have zB : ∀ b, B b → ¬ Z2 b := fun b hb z => by
        rcases s2.zn b z with y | ⟨j, y⟩ | y
        · exact nz b hb y
        · exact dj j b y hb
        · have := r1.mut hb
          rw [y] at this
          exact this
      refine h2.ok (v :: vs) H2 Z2 A2 (shf B AA) R2 (s1.thn (fun b w => .inl w) s2 fun b w => ?_) ⟨by simp [ao.len], ?_, ?_, ?_, ?_, ?_, ?_⟩
      · rcases w with w | w
        · exact .inl (.inl w)
        · rcases W_shf.mp w with w | w
          · exact .inr (.inr w)
          · exact .inl (.inr w)
      · intro j k hj
        cases j with
        | zero => simp at hj
        | succ j => simpa using ao.sl j k (by simpa using hj)
      · intro j k hj
        cases j with
        | zero =>
          simp at hj
          subst hj
          exact ⟨v, rfl, rB⟩
        | succ j => exact (by simpa using ao.tm j k (by simpa using hj) : ∃ w, (v :: vs)[j + 1]? = some w ∧ RO K _ _ k w (AA j))
      · intro j hj b
        cases j with
        | zero => exact absurd rfl (hj o)
        | succ j => exact ao.emp j (fun o q => hj o (by simpa using q)) b
      · intro j k b hj hk
        cases j with
        | zero =>
          cases k with
          | zero => rfl
          | succ k => exact absurd (.inr ⟨k, hk⟩) (fresh b hj)
        | succ j =>
          cases k with
          | zero => exact absurd (.inr ⟨j, hj⟩) (fresh b hk)
          | succ k => rw [ao.dj j k b hj hk]
      · intro j b hj
        cases j with
        | zero => exact fun w => fresh b hj (.inl w)
        | succ j => exact ao.djA j b hj
      · intro j b hj
        cases j with
        | zero => exact zB b hj
        | succ j => exact ao.nz j b hj
  | _ =>
    intro H Z e A R E0 h
    simp [evA, Ans] at h
end
end Vm

set_option Elab.async false
set_option linter.all false
set_option maxRecDepth 100000
/-! V16: calls, changes, comprehensions that call. -/
namespace Vm
open PySem PySem.Spec PyProof.Rows L2

section
variable {K : PySem.W.Frag} {EX : XR} {E : XK} {H H' H1 H2 : Hp} {Z Z' Z1 Z2 : Addr → Prop} {A A' A1 : Nat → Addr → Prop} {σ : L2.St} {e e' : Env} {W0 W1 W2 V1 V2 B : Addr → Prop} {o : O} {v : V}
theorem Stp.add (s : Stp H Z W0 H1 Z1 W1) (hB : ∀ b, B b → H b = Option.none) : Stp H Z W0 H1 Z1 (fun b => W1 b ∨ B b) := ⟨s.keep, s.dom, s.zm, s.zn, fun b w => w.elim (s.wn b) fun y => .inr (hB b y)⟩
theorem po_ans {f : OpK} {d : D} {mkb : Bool} {Q : VK} (R : ER K H1 Z1 σ e A1) (s0 : Stp H Z (W A) H1 Z1 (W A1)) (po : OPost K H1 Z1 f d v H') (hm : mkb = true → mk f = true) (h : AfO K H Z A σ Q (if mkb = true then ownOf d else .d d) e) : Q v H' := by
  have dom : ∀ b, Z1 b → H' b ≠ none := fun b z n => R.zd b z (po.same.free n)
  have g : Grow H1 Z1 H' Z1 := ⟨po.same, fun _ z => z, fun _ z => .inl z⟩
  rcases po.res with ⟨rd, n⟩ | ⟨hb, p, hp, ro⟩
  · have eo : (if mkb = true then ownOf d else .d d) = .d d := by
      cases mkb with
      | false => rfl
      | true =>
        have := n (hm rfl)
        cases d <;> first | rfl | cases this
    rw [eo] at h
    exact h.d (R.grow g dom) (s0.trans g.stp) rd
  · cases mkb with
    | true =>
      refine h v H' Z1 A1 (fun b => b = p) (R.grow g dom) ((s0.trans g.stp).add fun b e => by rw [e]; exact s0.none hp) ro (fun j b a q => ?_) fun b q z => ?_
      · exact R.ad a (by rw [q]; exact hp)
      · exact R.zd b z (by rw [q]; exact hp)
    | false =>
      obtain ⟨Z2, g2, zd2, rd⟩ := post_frz po R.zd
      exact AfO.d (d := d) h (R.grow g2 zd2) (s0.trans g2.stp) rd
theorem ER.updD {D : Addr} {us ws : List V} (R : ER K H Z σ e A) (hz : ¬ Z D) (hw : ¬ W A D) (hD : H D = some (.lst ws)) : ER K (upd H D (.lst us)) Z σ e A where
  len := R.len
  rep := fun i o h => by
    obtain ⟨v, hv, r⟩ := R.rep i o h
    refine ⟨v, hv, r.still ⟨fun b o h z => ?_, fun b o h n => ?_, fun _ z => z⟩ fun b u a h => ?_⟩
    · rw [upd_ne (fun q : b = D => hz (q ▸ z))]; exact h
    · rw [upd_ne (fun q : b = D => ?_)]
      · exact h
      · rw [q, hD] at h
        cases h
        exact n trivial
    · rw [upd_ne (fun q : b = D => hw ⟨i, q ▸ a⟩)]; exact h
  emp := R.emp
  dj := R.dj
  nz := R.nz
  zd := fun b z n => by
    rw [upd_ne (fun q : b = D => hz (q ▸ z))] at n
    exact R.zd b z n
theorem Stp.updN {D : Addr} {u : HO} (s : Stp H Z W0 H1 Z1 W1) (hD : H D = Option.none) : Stp H Z W0 (upd H1 D u) Z1 W1 where
  keep := fun b o h n => by
    rw [upd_ne (fun q : b = D => by rw [q, hD] at h; cases h)]
    exact s.keep b o h n
  dom := fun b h n => by
    by_cases q : b = D
    · rw [q, upd_same] at n; cases n
    · rw [upd_ne q] at n; exact s.dom b h n
  zm := s.zm
  zn := s.zn
  wn := s.wn
end

/-! ### changes -/
def rMut (K : PySem.W.Frag) (m : MK) (x : V) (vs : List V) (H : Hp) (Q : VK) : Prop := ∃ Z xs ds r xs' a ws, x = .ref a ∧ H a = some (.lst ws) ∧ RDs K H Z xs ws ∧ RDs K H Z ds vs ∧ mutD m (.lst xs) ds = some (r, .lst xs') ∧
  ∀ v us, RDs K H Z xs' us → RD K H Z r v → Q v (upd H a (.lst us))
theorem RDs.dropLast {K : PySem.W.Frag} {H : Hp} {Z : Addr → Prop} {xs : List D} {vs : List V} (r : RDs K H Z xs vs) : RDs K H Z xs.dropLast vs.dropLast := by
  rw [List.dropLast_eq_take, List.dropLast_eq_take, r.length]
  exact r.take _
section
variable {X : Cx} {sc : Scope} {N : List Str} {glob : String → Option D}
theorem r_mapp : MtR X "list.append" (rMut X.K .app) := MtR.imp mt_append fun x vs H Q ⟨Z, xs, ds, r, xs', a, ws, ex, ha, rx, rd, hm, k⟩ => by
  match ds, hm with
  | [d], hm =>
    simp only [mutD] at hm
    split at hm
    · rename_i hl
      cases hm
      obtain ⟨v, vr, rfl, r1, r2⟩ := RDs.cons_iff.mp rd
      cases RDs.nil_iff.mp r2
      exact ⟨a, ws, v, ex, rfl, ha, by rw [← rx.length, ← big_line]; exact hl, k _ _ (rx.app (RDs.mk r1 (RDs.nil_iff.mpr rfl))) (rd_non.mpr rfl)⟩
    · cases hm
theorem r_mpop : MtR X "list.pop" (rMut X.K .pop) := MtR.imp mt_pop fun x vs H Q ⟨Z, xs, ds, r, xs', a, ws, ex, ha, rx, rd, hm, k⟩ => by
  match ds, hm with
  | [], hm =>
    simp only [mutD] at hm
    split at hm
    · rename_i y hl
      cases hm
      cases RDs.nil_iff.mp rd
      rw [List.getLast?_eq_getElem?] at hl
      obtain ⟨w, hw, rw'⟩ := rx.get hl
      exact ⟨a, ws, w, ex, rfl, ha, by rw [← rx.length]; exact hw, k _ _ rx.dropLast rw'⟩
    · cases hm
theorem r_mclr : MtR X "list.clear" (rMut X.K .clr) := MtR.imp mt_clear fun x vs H Q ⟨Z, xs, ds, r, xs', a, ws, ex, ha, rx, rd, hm, k⟩ => by
  match ds, hm with
  | [], hm =>
    simp only [mutD] at hm
    cases hm
    cases RDs.nil_iff.mp rd
    exact ⟨a, ws, ex, rfl, ha, k _ _ (RDs.nil_iff.mpr rfl) (rd_non.mpr rfl)⟩
theorem r_mext : MtR X "list.extend" (rMut X.K .ext) := MtR.imp mt_extend fun x vs H Q ⟨Z, xs, ds, r, xs', a, ws, ex, ha, rx, rd, hm, k⟩ => by
  match ds, hm with
  | [.lst ys], hm =>
    simp only [mutD] at hm
    split at hm
    · rename_i hl
      cases hm
      obtain ⟨v, vr, rfl, r1, r2⟩ := RDs.cons_iff.mp rd
      cases RDs.nil_iff.mp r2
      unfold RD at r1
      obtain ⟨b, zs, rfl, hb, zb, rz⟩ := r1
      exact ⟨a, b, ws, zs, ex, rfl, ha, hb, by rw [← rx.length, ← rz.length, ← big_line]; exact hl, k _ _ (rx.app rz) (rd_non.mpr rfl)⟩
    · cases hm
theorem mut_rule {T : Tb} (C : CxOk X sc T.N glob) {m : MK} {i : Nat} {es : I} {ex : Expr} {ts : List TE} (h : agE T (.mut m i es) sc ex = true) (hm : mutRule m = true) :
    ∃ l, agL T es sc l = true ∧ (PEL X l ts → PE X ex (fun σ H Q => ∃ v, σ[i]? = some (some v) ∧ tyW X.K "list" v H ∧ tCh ts σ H fun vs H2 => rMut X.K m v vs H2 Q)) := by
  simp only [agE] at h
  split at h
  · rename_i o a apos l cpos
    simp only [Bool.and_eq_true, decide_eq_true_eq] at h
    obtain ⟨⟨⟨⟨h1, rfl⟩, h3⟩, h4⟩, h5⟩ := h
    refine ⟨l, h5, fun p => ?_⟩
    have pv := var_rule C h1
    have hb : attributeBase o (Str.ofString (mutN m)) X.env (eval o X.env) = eval o X.env := by
      cases o <;> first | rfl | (simp [agV] at h1; done)
    have gen : ∀ {id : String}, Slot "list" (Str.ofString (mutN m)) id → typeOf (.builtin id) = pure (.type "method_descriptor") → MtR X id (rMut X.K m) → PE X (.Call (.Attribute o (Str.ofString (mutN m)) apos) l [] cpos) (fun σ H Q => ∃ v, σ[i]? = some (some v) ∧ tyW X.K "list" v H ∧ tCh ts σ H fun vs H2 => rMut X.K m v vs H2 Q) := by
      intro id sl ty hr
      cases p with
      | nil => exact pe_mop0 PySem.F.plainAttrs_list sl ty hr pv hb h3
      | cons hp he hr2 => exact pe_mop PySem.F.plainAttrs_list sl ty hr pv (PEL.cons hp he hr2).pa hb (PEL.cons hp he hr2).plain h4 h3
    cases m <;> first | (cases hm; done) | skip
    · exact gen PySem.F.slot_list_append PySem.F.type_list_append r_mapp
    · exact gen PySem.F.slot_list_pop PySem.F.type_list_pop r_mpop
    · exact gen PySem.F.slot_list_extend PySem.F.type_list_extend r_mext
    · exact gen PySem.F.slot_list_clear PySem.F.type_list_clear r_mclr
  · cases h
end
/-- what a change leaves -/
theorem ER.mutd {K : PySem.W.Frag} {H : Hp} {Z : Addr → Prop} {σ : L2.St} {e : Env} {A : Nat → Addr → Prop} {i : Nat} {xs xs' : List D} {a : Addr} {us ws : List V} (R : ER K H Z σ e A) (ho : e[i]? = some (some (.lst xs))) (hv : σ[i]? = some (some (.ref a))) (ha : H a = some (.lst ws)) (r : RDs K H Z xs' us) :
    ER K (upd H a (.lst us)) Z σ (e.set i (some (.lst xs'))) (uA A i (fun b => b = a)) ∧ Stp H Z (W A) (upd H a (.lst us)) Z (W (uA A i (fun b => b = a))) ∧ Still H Z (upd H a (.lst us)) Z := by
  have r0 := R.val (H' := H) (Z' := Z) (A' := A) (e' := e) ho hv
  obtain ⟨p, w0, e1, h1, h2, h3⟩ := r0
  cases e1
  have za : ¬ Z a := R.nz i a ((h3 a).mpr rfl)
  have st : Still H Z (upd H a (.lst us)) Z := ⟨fun b o h z => by rw [upd_ne (fun q : b = a => za (q ▸ z))]; exact h, fun b o h n => by
    rw [upd_ne (fun q : b = a => ?_)]
    · exact h
    · rw [q, ha] at h
      cases h
      exact n trivial, fun _ z => z⟩
  have s : Stp H Z (A i) (upd H a (.lst us)) Z (fun b => b = a) := ⟨fun b o h n => by rw [upd_ne (fun q : b = a => n ((h3 b).mpr q))]; exact h, fun b h n => by
    by_cases q : b = a
    · rw [q, upd_same] at n; cases n
    · rw [upd_ne q] at n; exact h n, fun _ z => z, fun _ z => .inl z, fun b q => .inl ((h3 b).mpr q)⟩
  refine ⟨R.chg hv ho s ⟨a, us, rfl, upd_same, RDs.still st r, fun _ => Iff.rfl⟩ (fun b q z => za (q ▸ z)) fun b z => ?_, R.stpChg s, st⟩
  rw [upd_ne (fun q : b = a => za (q ▸ z))]
  exact R.zd b z

/-! ### calls -/
def spI (K : PySem.W.Frag) (EX : XR) (cal : List O → Option Out) : Sp := fun vs H Q E => ∃ Z ts A, ER K H Z (vs.map some) (ts.map some) A ∧ match cal ts with
  | some (.ret o ts') => ∀ v H' Z' A' B, ER K H' Z' (vs.map some) (ts'.map some) A' → Stp H Z (W A) H' Z' (fun b => W A' b ∨ B b) → RO K H' Z' o v B → (∀ j b, A' j b → ¬ B b) → (∀ b, B b → ¬ Z' b) → Q v H'
  | some (.exc x ts') => ∀ cls d H' Z' A', ER K H' Z' (vs.map some) (ts'.map some) A' → Stp H Z (W A) H' Z' (W A') → EX x H' Z' cls d → E cls d H'
  | none => False
theorem arIx_inj : ∀ {as : List Ar} {i j k : Nat}, (arIx as).Nodup → as[j]? = some (.sl i) → as[k]? = some (.sl i) → j = k := by
  have mem : ∀ {as : List Ar} {i k : Nat}, as[k]? = some (.sl i) → i ∈ arIx as := by
    intro as
    induction as with
    | nil => intro i k h; simp at h
    | cons a r ih =>
      intro i k h
      cases k with
      | zero =>
        simp at h
        subst h
        exact List.mem_cons_self
      | succ k =>
        have := ih (by simpa using h)
        cases a with
        | sl _ => exact List.mem_cons_of_mem _ this
        | tm _ => exact this
  intro as
  induction as with
  | nil => intro i j k _ h; simp at h
  | cons a r ih =>
    intro i j k n hj hk
    have nr : (arIx r).Nodup := by
      cases a with
      | sl _ => exact (List.nodup_cons.mp n).2
      | tm _ => exact n
    cases j with
    | zero =>
      cases k with
      | zero => rfl
      | succ k =>
        simp at hj
        subst hj
        exact absurd (mem (by simpa using hk)) (List.nodup_cons.mp n).1
    | succ j =>
      cases k with
      | zero =>
        simp at hk
        subst hk
        exact absurd (mem (by simpa using hj)) (List.nodup_cons.mp n).1
      | succ k => exact congrArg Nat.succ (ih nr (by simpa using hj) (by simpa using hk))
theorem arIx_mem : ∀ {as : List Ar} {i k : Nat}, as[k]? = some (.sl i) → i ∈ arIx as := by
  intro as
  induction as with
  | nil => intro i k h; simp at h
  | cons a r ih =>
    intro i k h
    cases k with
    | zero =>
      simp at h
      subst h
      exact List.mem_cons_self
    | succ k =>
      have := ih (by simpa using h)
      cases a with
      | sl _ => exact List.mem_cons_of_mem _ this
      | tm _ => exact this
theorem arOs_at : ∀ {as : List Ar} {e : Env} {ts : List O}, arOs e as = some ts → as.length = ts.length ∧ ∀ (j : Nat) (a : Ar), as[j]? = some a → ∃ o, ts[j]? = some o ∧ arO e a = some o := by
  intro as
  induction as with
  | nil =>
    intro e ts h
    simp only [arOs] at h
    cases h
    exact ⟨rfl, fun j a h => by simp at h⟩
  | cons a r ih =>
    intro e ts h
    simp only [arOs] at h
    split at h
    · rename_i o os ho hos
      cases h
      obtain ⟨h1, h2⟩ := ih hos
      refine ⟨by simp [h1], fun j a' hj => ?_⟩
      cases j with
      | zero =>
        simp at hj
        subst hj
        exact ⟨o, rfl, ho⟩
      | succ j => simpa using h2 j a' (by simpa using hj)
    · cases h
def aP (A : Nat → Addr → Prop) (AA : Nat → Addr → Prop) (as : List Ar) : Nat → Addr → Prop := fun j b => AA j b ∨ ∃ i, as[j]? = some (.sl i) ∧ A i b
section
variable {K : PySem.W.Frag} {H H1 H2 : Hp} {Z Z1 Z2 : Addr → Prop} {A A1 A2 AA AP2 : Nat → Addr → Prop} {σ : L2.St} {e e1 e2 : Env} {as : List Ar} {vs : List V} {ts ts' : List O} {B : Addr → Prop}
theorem arO_sl {i : Nat} {o : O} (h : arO e (.sl i) = some o) : e[i]? = some (some o) := by
  simp only [arO] at h
  split at h
  · rename_i o' ho
    cases h
    exact ho
  · cases h
theorem args_er (R : ER K H Z σ e A) (ao : AOk K H Z σ A as vs AA) (hok : arOk e as = true) (hts : arOs e as = some ts) : ER K H Z (vs.map some) (ts.map some) (aP A AA as) := by
  obtain ⟨hl, hat⟩ := arOs_at hts
  refine ⟨by rw [List.length_map, List.length_map, ← hl, ao.len], ?_, ?_, ?_, ?_, R.zd⟩
  · intro j o hj
    have hj' : ts[j]? = some o := by
      rw [List.getElem?_map] at hj
      cases q : ts[j]? with
      | none => rw [q] at hj; cases hj
      | some o' => rw [q] at hj; cases hj; rfl
    have hlt : j < as.length := by rw [hl]; exact (List.getElem?_eq_some_iff.mp hj').1
    have ha : as[j]? = some as[j] := List.getElem?_eq_getElem hlt
    obtain ⟨o', h1, h2⟩ := hat j _ ha
    rw [hj'] at h1
    cases h1
    generalize as[j] = a at ha h2
    cases a with
    | sl i =>
      have he := arO_sl h2
      obtain ⟨v, hv, r⟩ := R.rep i o he
      obtain ⟨w, hw, hs⟩ := ao.sl j i ha
      rw [hv] at hs
      cases hs
      refine ⟨v, by rw [List.getElem?_map, hw]; rfl, r.iff fun b => ⟨fun a => .inr ⟨i, ha, a⟩, fun a => ?_⟩⟩
      rcases a with a | ⟨i', h', a⟩
      · exact absurd a (ao.emp j (fun o q => by rw [ha] at q; cases q) b)
      · rw [ha] at h'; cases h'; exact a
    | tm o' =>
      cases h2
      obtain ⟨v, hw, r⟩ := ao.tm j o ha
      refine ⟨v, by rw [List.getElem?_map, hw]; rfl, r.iff fun b => ⟨.inl, fun a => ?_⟩⟩
      rcases a with a | ⟨i', h', a⟩
      · exact a
      · rw [ha] at h'; cases h'
  · intro j hj b a
    have hn : as[j]? = none := by
      rw [List.getElem?_eq_none_iff, hl]
      refine Nat.le_of_not_lt fun hlt => hj ts[j] ?_
      rw [List.getElem?_map, List.getElem?_eq_getElem hlt]
      rfl
    rcases a with a | ⟨i, h, _⟩
    · exact ao.emp j (fun o q => by rw [hn] at q; cases q) b a
    · rw [hn] at h; cases h
  · intro j k b a c
    rcases a with a | ⟨i, hi, a⟩
    · rcases c with c | ⟨i', hi', c⟩
      · exact ao.dj j k b a c
      · exact absurd ⟨i', c⟩ (ao.djA j b a)
    · rcases c with c | ⟨i', hi', c⟩
      · exact absurd ⟨i, a⟩ (ao.djA k b c)
      · have := R.dj i i' b a c
        subst this
        unfold arOk at hok
        rcases (Bool.or_eq_true _ _).mp hok with hn | hd
        · exact arIx_inj (of_decide_eq_true hn) hi hi'
        · have := List.all_eq_true.mp hd i (arIx_mem hi)
          split at this
          · rename_i o ho
            obtain ⟨v, hv, r⟩ := R.rep i o ho
            cases o <;> first | (cases this; done) | skip
            exact absurd a (r.2 b)
          · cases this
  · intro j b a
    rcases a with a | ⟨i, _, a⟩
    · exact ao.nz j b a
    · exact R.nz i b a
theorem back_at : ∀ {as : List Ar} {ts : List O} {e e2 : Env}, back as ts e = some e2 → e2.length = e.length ∧ as.length = ts.length ∧
    ∀ (i : Nat), (∃ (j : Nat) (o : O), as[j]? = some (Ar.sl i) ∧ ts[j]? = some o ∧ (i < e.length → e2[i]? = some (some o))) ∨ ((∀ j : Nat, as[j]? ≠ some (Ar.sl i)) ∧ e2[i]? = e[i]?) := by
  intro as
  induction as with
  | nil =>
    intro ts e e2 h
    cases ts with
    | nil =>
      simp only [back] at h
      cases h
      exact ⟨rfl, rfl, fun i => .inr ⟨fun j h => by simp at h, rfl⟩⟩
    | cons t ts => simp [back] at h
  | cons a r ih =>
    intro ts e e2 h
    cases ts with
    | nil => cases a <;> simp [back] at h
    | cons t ts =>
      cases a with
      | sl k =>
        simp only [back] at h
        obtain ⟨h1, h2, h3⟩ := ih h
        rw [List.length_set] at h1
        refine ⟨h1, by simp [h2], fun i => ?_⟩
        rcases h3 i with ⟨j, o, p1, p2, p3⟩ | ⟨p1, p2⟩
        · exact .inl ⟨j + 1, o, by simpa using p1, by simpa using p2, by rw [List.length_set] at p3; exact p3⟩
        · by_cases q : k = i
          · subst q
            refine .inl ⟨0, t, rfl, rfl, fun hl => ?_⟩
            rw [p2, List.getElem?_set_self hl]
          · refine .inr ⟨fun j hj => ?_, by rw [p2, List.getElem?_set_ne q]⟩
            cases j with
            | zero => simp at hj; exact q hj
            | succ j => exact p1 j (by simpa using hj)
      | tm o0 =>
        simp only [back] at h
        obtain ⟨h1, h2, h3⟩ := ih h
        refine ⟨h1, by simp [h2], fun i => ?_⟩
        rcases h3 i with ⟨j, o, p1, p2, p3⟩ | ⟨p1, p2⟩
        · exact .inl ⟨j + 1, o, by simpa using p1, by simpa using p2, p3⟩
        · refine .inr ⟨fun j hj => ?_, p2⟩
          cases j with
          | zero => simp at hj
          | succ j => exact p1 j (by simpa using hj)
def pick (J : Nat → Option Nat) (AP A : Nat → Addr → Prop) : Nat → Addr → Prop := fun i => match J i with
  | some j => AP j
  | none => A i
/-- behind a call: what was lent is back -/
theorem ret_er (R1 : ER K H1 Z1 σ e1 A1) (ao : AOk K H1 Z1 σ A1 as vs AA) (hok : arOk e1 as = true) (hts : arOs e1 as = some ts) (hb : back as ts' e1 = some e2)
    (R2 : ER K H2 Z2 (vs.map some) (ts'.map some) AP2) (s2 : Stp H1 Z1 (W (aP A1 AA as)) H2 Z2 (fun b => W AP2 b ∨ B b)) (dj : ∀ j b, AP2 j b → ¬ B b) :
    ∃ A2, ER K H2 Z2 σ e2 A2 ∧ Stp H1 Z1 (fun b => W A1 b ∨ W AA b) H2 Z2 (fun b => W A2 b ∨ B b) ∧ ∀ j b, A2 j b → ¬ B b := by
  have Ra := args_er R1 ao hok hts
  obtain ⟨hl, hl2, hback⟩ := back_at hb
  have ch : ∀ i, ∃ jo : Option Nat, match jo with
      | some j => ∃ o, as[j]? = some (Ar.sl i) ∧ ts'[j]? = some o ∧ (i < e1.length → e2[i]? = some (some o))
      | none => (∀ j : Nat, as[j]? ≠ some (Ar.sl i)) ∧ e2[i]? = e1[i]? := fun i => by
    rcases hback i with ⟨j, o, p1, p2, p3⟩ | p
    · exact ⟨some j, o, p1, p2, p3⟩
    · exact ⟨none, p⟩
  obtain ⟨J, hJ⟩ : ∃ J : Nat → Option Nat, ∀ i, match J i with
      | some j => ∃ o, as[j]? = some (Ar.sl i) ∧ ts'[j]? = some o ∧ (i < e1.length → e2[i]? = some (some o))
      | none => (∀ j : Nat, as[j]? ≠ some (Ar.sl i)) ∧ e2[i]? = e1[i]? := ⟨fun i => Classical.choose (ch i), fun i => Classical.choose_spec (ch i)⟩
  -- what is not lent is not in the callee's hands
  have away : ∀ i b, J i = none → A1 i b → ¬ W (aP A1 AA as) b := fun i b hi a ⟨j, w⟩ => by
    have h := hJ i
    rw [hi] at h
    rcases w with w | ⟨i', h', w⟩
    · exact ao.djA j b w ⟨i, a⟩
    · have := R1.dj i i' b a w
      subst this
      exact h.1 j h'
  have wa : ∀ b, W (aP A1 AA as) b → W A1 b ∨ W AA b := fun b ⟨j, w⟩ => by
    rcases w with w | ⟨i, _, w⟩
    · exact .inr ⟨j, w⟩
    · exact .inl ⟨i, w⟩
  have st := Ra.still s2
  have dom : ∀ b, Z2 b → H2 b ≠ none := R2.zd
  refine ⟨pick J AP2 A1, ⟨by rw [hl, R1.len], ?_, ?_, ?_, ?_, dom⟩, ⟨?_, s2.dom, s2.zm, ?_, ?_⟩, ?_⟩
  · intro i o ho
    have h := hJ i
    unfold pick
    cases hi : J i with
    | some j =>
      rw [hi] at h
      obtain ⟨o', p1, p2, p3⟩ := h
      have hlt : i < e1.length := by rw [← hl]; exact (List.getElem?_eq_some_iff.mp ho).1
      rw [p3 hlt] at ho
      cases ho
      obtain ⟨v, hv, r⟩ := R2.rep j o (by rw [List.getElem?_map, p2]; rfl)
      obtain ⟨w, hw, hs⟩ := ao.sl j i p1
      rw [List.getElem?_map, hw] at hv
      have hv' : some (some w) = some (some v) := hv
      injection hv' with hv'
      injection hv' with hv'
      exact ⟨v, by rw [hs, hv'], r⟩
    | none =>
      rw [hi] at h
      rw [h.2] at ho
      obtain ⟨v, hv, r⟩ := R1.rep i o ho
      exact ⟨v, hv, r.still st fun b u a hb => s2.keep b u hb (away i b hi a)⟩
  · intro i hn b a
    have h := hJ i
    unfold pick at a
    cases hi : J i with
    | some j =>
      rw [hi] at h a
      obtain ⟨o', p1, p2, p3⟩ := h
      obtain ⟨w, hw, hs⟩ := ao.sl j i p1
      exact hn o' (p3 (by rw [R1.len]; exact (List.getElem?_eq_some_iff.mp hs).1))
    | none =>
      rw [hi] at h a
      exact R1.emp i (fun o q => hn o (by rw [h.2]; exact q)) b a
  · intro i k b a c
    have hi' := hJ i
    have hk' := hJ k
    unfold pick at a c
    cases hi : J i with
    | some j =>
      rw [hi] at hi' a
      obtain ⟨o1, p1, _, _⟩ := hi'
      cases hk : J k with
      | some j' =>
        rw [hk] at hk' c
        obtain ⟨o2, p2, _, _⟩ := hk'
        have := R2.dj j j' b a c
        subst this
        rw [p1] at p2
        cases p2
        rfl
      | none =>
        rw [hk] at c
        rcases s2.wn b (.inl ⟨j, a⟩) with z | z
        · exact absurd z (away k b hk c)
        · exact absurd z (R1.ad c)
    | none =>
      rw [hi] at a
      cases hk : J k with
      | some j' =>
        rw [hk] at c
        rcases s2.wn b (.inl ⟨j', c⟩) with z | z
        · exact absurd z (away i b hi a)
        · exact absurd z (R1.ad a)
      | none =>
        rw [hk] at c
        exact R1.dj i k b a c
  · intro i b a z
    unfold pick at a
    cases hi : J i with
    | some j => rw [hi] at a; exact R2.nz j b a z
    | none =>
      rw [hi] at a
      rcases s2.zn b z with y | y | y
      · exact R1.nz i b a y
      · exact away i b hi a y
      · exact R1.ad a y
  · exact fun b o h n => s2.keep b o h fun w => n (wa b w)
  · exact fun b z => (s2.zn b z).elim .inl fun y => y.elim (fun w => .inr (.inl (wa b w))) fun n => .inr (.inr n)
  · intro b w
    rcases w with ⟨i, a⟩ | w
    · unfold pick at a
      cases hi : J i with
      | some j =>
        rw [hi] at a
        exact (s2.wn b (.inl ⟨j, a⟩)).elim (fun w => .inl (wa b w)) .inr
      | none =>
        rw [hi] at a
        exact .inl (.inl ⟨i, a⟩)
    · exact (s2.wn b (.inr w)).elim (fun w => .inl (wa b w)) .inr
  · intro i b a hB
    unfold pick at a
    cases hi : J i with
    | some j => rw [hi] at a; exact dj j b a hB
    | none =>
      rw [hi] at a
      rcases s2.wn b (.inr hB) with z | z
      · exact away i b hi a z
      · exact R1.ad a z
end
/-- what is known of a def's surroundings -/
structure CxE (T : Tb) (G : Gs) (k : Nat) (EX : XR) (CX : CXT) (E : XK) (X : Cx) (sc : Scope) : Prop where
  ok : CxOk X sc T.N G.glob
  cal : ∀ d n, T.fn d = some n → ∃ f fd ps, FnOk X.prog X.w X.K X.mg X.base CX k f fd ps (spI X.K EX (G.call d)) ∧ X.mg (Str.ofString n) = some (.ref f) ∧ PySem.W.keepIn X.K (.ref f) = true ∧ Binds X.K fd ps []
  room : Room k X.A
  pass : Passes CX X E
  no : ∀ Y : Cx, Passes CX Y (fun _ _ _ => False)
abbrev noE : XK := fun _ _ _ => False
theorem CxE.blk {T : Tb} {G : Gs} {k : Nat} {EX : XR} {CX : CXT} {E : XK} {X : Cx} {sc : Scope} (C : CxE T G k EX CX E X sc) (s : Shared) (H : Hp) (scope : Scope) (c : Addr) (cl : List (Str × Addr)) (fp : List Addr) :
    CxE T G k EX CX noE (X.blk s H scope (compEnvC scope cl c X.env) fp) (relS scope sc) := ⟨C.ok.blk s H scope c cl fp, C.cal, C.room, C.no _, C.no⟩
section
variable {T : Tb} {G : Gs} {k : Nat} {EX : XR} {CX : CXT} {E : XK} {X : Cx} {sc : Scope}
theorem e_call (C : CxE T G k EX CX E X sc) {d : Nat} {es : I} {ex : Expr} (h : agE T (.call d es) sc ex = true) : ∃ l, agL T es sc l = true ∧ (PEL X l (tAs G X.K EX E es) → PE X ex (tE G X.K EX E (.call d es))) := by
  simp only [agE] at h
  split at h
  · rename_i x px l cpos
    rw [Bool.and_eq_true] at h
    obtain ⟨h1, h2⟩ := h
    refine ⟨l, h2, fun p => ?_⟩
    split at h1
    · rename_i n hn
      simp only [Bool.and_eq_true, decide_eq_true_eq] at h1
      obtain ⟨⟨rfl, hg⟩, hdb⟩ := h1
      obtain ⟨f, fd, ps, F, hm, hk, hb⟩ := C.cal d n hn
      have key : PE X (.Call (.Name (Str.ofString n) px) l [] cpos) (tCall (spI X.K EX (G.call d)) [] E (tCh (tAs G X.K EX E es))) := by
        generalize tAs G X.K EX E es = ts at p
        cases p with
        | nil => exact pe_call0 F C.room (C.ok.glx hg) hm hk hb .nil C.pass hdb
        | cons hp he hr =>
          have hpl := (PEL.cons hp he hr).plain
          exact pe_call F C.room (C.ok.glx hg) hm hk hb .nil C.pass (PEL.cons hp he hr).pa hdb (star_cons hp _ _) (nostar fun x hx => hpl x (List.mem_cons_of_mem _ hx))
      refine PE.mono key fun σ H Q ⟨Z, e, A, R, h⟩ => ?_
      unfold evl at h
      refine chainA R (h.bind fun as e1 _ h1 => ?_)
      intro vs H1 Z1 A1 AA R1 s1 ao
      rw [List.append_nil]
      split at h1
      · rename_i hok
        split at h1
        · rename_i ts hts
          refine ⟨Z1, ts, aP A1 AA as, args_er R1 ao hok hts, ?_⟩
          split at h1
          · rename_i o ts' hc
            try rw [hc]
            split at h1
            · rename_i e2 hbk
              intro v H2 Z2 A2 B R2 s2 ro dj nz
              obtain ⟨A3, R3, s3, dj3⟩ := ret_er R1 ao hok hts hbk R2 s2 dj
              exact h1.ok v H2 Z2 A3 B R3 (s1.thn (fun b w => w) s3 fun b w => .inl w) ro dj3 nz
            · exact h1.elim
          · rename_i x ts' hc
            try rw [hc]
            split at h1
            · rename_i e2 hbk
              intro cls d' H2 Z2 A2 R2 s2 hx
              obtain ⟨A3, R3, s3, dj3⟩ := ret_er (B := noA) R1 ao hok hts hbk R2 (s2.less fun b w => w.elim id fun z => z.elim) fun _ _ _ z => z
              exact h1 cls d' H2 Z2 A3 R3 (s1.thn (fun b w => w) s3 fun b w => .inl (.inl w)) hx
            · exact h1.elim
          · exact h1.elim
        · exact h1.elim
      · exact h1.elim
    · cases h1
  · cases h
end
end Vm

set_option Elab.async false
set_option linter.all false
set_option maxRecDepth 100000
/-! V17: expressions: the theorem. -/
namespace Vm
open PySem PySem.Spec PyProof.Rows L2

theorem Rs.bind_assoc {α β γ : Type} (r : Rs α) (f : α → Env → Rs β) (g : β → Env → Rs γ) : (r.bind f).bind g = r.bind fun a e => (f a e).bind g := by cases r <;> rfl
section
variable {K : PySem.W.Frag} {EX : XR} {E : XK} {H H' H1 H2 : Hp} {Z Z' Z1 Z2 : Addr → Prop} {A A' A1 : Nat → Addr → Prop} {σ : L2.St} {e e' e1 : Env} {W0 W1 W2 V1 V2 B : Addr → Prop} {o : O} {v : V}
def AfB {α : Type} (K : PySem.W.Frag) (H : Hp) (Z : Addr → Prop) (A : Nat → Addr → Prop) (σ : L2.St) (Q : α → Hp → Prop) (a : α) (e' : Env) : Prop := ∀ H' Z' A', ER K H' Z' σ e' A' → Stp H Z (W A) H' Z' (W A') → Q a H'
theorem Ans.moveO {r : Rs O} {Q : VK} (h : Ans K EX E H Z A σ r (AfO K H Z A σ Q)) (s : Stp H Z (W A) H1 Z1 W1) (hw : ∀ b, W A1 b → W1 b) : Ans K EX E H1 Z1 A1 σ r (AfO K H1 Z1 A1 σ Q) :=
  h.move s hw fun o e2 _ hk v H' Z' A' B R s' ro dj nz => hk v H' Z' A' B R (s.thn hw s' fun b w => .inl w) ro dj nz
theorem Ans.moveB {α : Type} {r : Rs α} {Q : α → Hp → Prop} (h : Ans K EX E H Z A σ r (AfB K H Z A σ Q)) (s : Stp H Z (W A) H1 Z1 W1) (hw : ∀ b, W A1 b → W1 b) : Ans K EX E H1 Z1 A1 σ r (AfB K H1 Z1 A1 σ Q) :=
  h.move s hw fun o e2 _ hk H' Z' A' R s' => hk H' Z' A' R (s.thn hw s' fun b w => .inl w)
theorem AfO.move {Q : VK} (h : AfO K H Z A σ Q o e') (s : Stp H Z (W A) H1 Z1 W1) (hw : ∀ b, W A1 b → W1 b) : AfO K H1 Z1 A1 σ Q o e' :=
  fun v H' Z' A' B R s' ro dj nz => h v H' Z' A' B R (s.thn hw s' fun b w => .inl w) ro dj nz
theorem AfB.move {α : Type} {a : α} {Q : α → Hp → Prop} (h : AfB K H Z A σ Q a e') (s : Stp H Z (W A) H1 Z1 W1) (hw : ∀ b, W A1 b → W1 b) : AfB K H1 Z1 A1 σ Q a e' :=
  fun H' Z' A' R s' => h H' Z' A' R (s.thn hw s' fun b w => .inl w)
theorem tB_ok {β : Type} {f : Bool → Env → Rs β} {P : β → Env → Prop} (h : Ans K EX E H Z A σ ((tB o e).bind f) P) : ∃ b, o = .d (.bl b) ∧ Ans K EX E H Z A σ (f b e) P := by
  unfold tB at h
  split at h
  · exact ⟨_, rfl, h⟩
  · exact h.elim
theorem tB_ok' {P : Bool → Env → Prop} (h : Ans K EX E H Z A σ (tB o e) P) : ∃ b, o = .d (.bl b) ∧ P b e := by
  unfold tB at h
  split at h
  · exact ⟨_, rfl, h⟩
  · exact h.elim
theorem tI_ok' {P : Option Int → Env → Prop} (h : Ans K EX E H Z A σ (tI o e) P) : ∃ b, o = .d (.int b) ∧ P (some b) e := by
  unfold tI at h
  split at h
  · exact ⟨_, rfl, h⟩
  · exact h.elim
theorem giv_ok {mkb : Bool} {x : Option D} {P : O → Env → Prop} (h : Ans K EX E H Z A σ (giv mkb e x) P) : ∃ d, x = some d ∧ P (if mkb = true then ownOf d else .d d) e := by
  unfold giv at h
  split at h
  · exact ⟨_, rfl, h⟩
  · exact h.elim
/-- .. a value and what comes behind it -/
theorem ro_bl {b : Bool} (r : RO K H Z (.d (.bl b)) v B) : v = .bl b := rd_bl.mp r.1
theorem ro_int {b : Int} (r : RO K H Z (.d (.int b)) v B) : v = .int b := rd_int.mp r.1
end
section
variable (G : Gs) (K : PySem.W.Frag) (EX : XR) (E : XK)
def tEB (f : Env → Rs O) : TE := fun σ H Q => ∃ Z e A, ER K H Z σ e A ∧ Ans K EX E H Z A σ (f e) (AfO K H Z A σ Q)
def tEI (a : I) : L2.St → Hp → (Option Int → Hp → Prop) → Prop := fun σ H Q => ∃ Z e A, ER K H Z σ e A ∧ Ans K EX E H Z A σ (evI G a e) (AfB K H Z A σ Q)
def tEF (f : Env → Rs Bool) : TT := fun σ H Q => ∃ Z e A, ER K H Z σ e A ∧ Ans K EX E H Z A σ (f e) (AfB K H Z A σ Q)
end
section
variable {T : Tb} {G : Gs} {k : Nat} {EX : XR} {CX : CXT} {E : XK} {X : Cx} {sc : Scope}
theorem q_to_e {a : I} {ex : Expr} (p : PE X ex (tQ G X.K false a)) (hl : lentE a = false) (he : ∀ e, evl G a e = giv false e (q G false a e) ∨ evl G a e = .st) : PE X ex (tE G X.K EX E a) := by
  refine PE.mono p fun σ H Q ⟨Z, e, A, R, h⟩ => ?_
  rcases he e with q1 | q1
  · rw [q1] at h
    obtain ⟨d, hd, h⟩ := giv_ok h
    exact ⟨Z, e, A, d, R, hd, fun v H' Z' g zd rv rd => AfO.d (d := d) h (R.grow g zd) g.stp (rd (.inr hl))⟩
  · rw [q1] at h; exact h.elim
theorem e_op {f : OpK} {es : I} {ex : Expr} {l : List Expr} (C : CxOk X sc T.N G.glob) (hl : opArgs T.N f sc ex = some l) (p : PEL X l (tL G X.K EX E es)) : PE X ex (tE G X.K EX E (.op f es)) := by
  refine PE.mono (op_rule C hl p) fun σ H Q ⟨Z, e, A, R, h⟩ => ?_
  unfold evl at h
  refine chainL R (h.bind fun ds e1 _ h1 => ?_)
  intro vs H1 Z1 A1 R1 s1 rv
  obtain ⟨d, hd, h2⟩ := giv_ok h1
  exact ⟨Z1, ds, d, rv, hd, fun v H2 po => po_ans R1 s1 po id h2⟩
theorem cmp_mk {f : OpK} (h : isCmp f = true) : mk f = false := by cases f <;> first | rfl | cases h
theorem e_opT {f : OpK} {es : I} {ex : Expr} {l : List Expr} (C : CxOk X sc T.N G.glob) (hf : isCmp f = true) (hl : opArgs T.N f sc ex = some l) (p : PEL X l (tL G X.K EX E es)) : PT X ex (tEF X.K EX E (evT G (.op f es))) := by
  refine PT.mono (op_ruleT C hf hl p) fun σ H Q ⟨Z, e, A, R, h⟩ => ?_
  unfold evT evl at h
  rw [Rs.bind_assoc] at h
  refine chainL R (h.bind fun ds e1 _ h1 => ?_)
  intro vs H1 Z1 A1 R1 s1 rv
  rw [cmp_mk hf] at h1
  unfold giv at h1
  split at h1
  · rename_i d hd
    obtain ⟨b, eb, h2⟩ := tB_ok' h1
    simp only [Bool.false_eq_true, if_false] at eb
    cases eb
    refine ⟨Z1, ds, _, rv, hd, fun v H2 po => ?_⟩
    obtain ⟨Z2, g2, zd2, rd⟩ := post_frz po R1.zd
    exact ⟨b, rd_bl.mp rd, h2 H2 Z2 A1 (R1.grow g2 zd2) (s1.trans g2.stp)⟩
  · exact h1.elim
theorem et_plain {a : I} {ex : Expr} (h : PE X ex (tE G X.K EX E a)) (hp : plainT ex = true) : PT X ex (tEF X.K EX E (evT G a)) :=
  PT.mono (pt_val h (tst_of hp _)) fun σ H Q ⟨Z, e, A, R, h⟩ => ⟨Z, e, A, R, by
    unfold evT at h
    refine h.bind fun o e1 _ h1 => ?_
    intro v H1 Z1 A1 B R1 s1 r1 dj nz
    obtain ⟨b, rfl, h2⟩ := tB_ok' h1
    exact ⟨b, ro_bl r1, h2 H1 Z1 A1 R1 (s1.less fun b w => .inl w)⟩⟩
theorem rds_rvs {K : PySem.W.Frag} {H : Hp} {Z : Addr → Prop} : ∀ {ds : List D} {vs : List V}, RDs K H Z ds vs → RVs K H Z ds vs
  | [], vs, h => RDs.nil_iff.mp h
  | d :: ds, vs, h => by
    obtain ⟨v, r, rfl, h1, h2⟩ := RDs.cons_iff.mp h
    exact ⟨v, r, rfl, h1.toRV, rds_rvs h2⟩
theorem g_new {H : Hp} {Z : Addr → Prop} {D : Addr} {u : HO} (hD : H D = none) : Grow H Z (upd H D u) Z := ⟨same_new hD, fun _ z => z, fun _ z => .inl z⟩
theorem zd_new {H : Hp} {Z : Addr → Prop} {D : Addr} {u : HO} (zd : ∀ b, Z b → H b ≠ none) (hD : H D = none) : ∀ b, Z b → upd H D u b ≠ none := fun b z n => zd b z ((same_new hD).free n)
theorem lc_nw {H1 H : Hp} {Z1 Z W1 W2 : Addr → Prop} {D : Addr} {u : HO} (s : Stp H1 Z1 W1 H Z W2) (hD : H1 D = some u) (n : ¬ W1 D) : ¬ W2 D := fun w => (s.wn D w).elim n fun z => by rw [hD] at z; cases z
theorem lc_nz {H1 H : Hp} {Z1 Z W1 W2 : Addr → Prop} {D : Addr} {u : HO} (s : Stp H1 Z1 W1 H Z W2) (hD : H1 D = some u) (n : ¬ W1 D) (m : ¬ Z1 D) : ¬ Z D := fun w => (s.zn D w).elim m fun z => z.elim n fun z => by rw [hD] at z; cases z
theorem bind_eq {α β : Type} {r : Rs α} {f : α → Env → Rs β} {b : β} {e' : Env} (h : r.bind f = .ok b e') : ∃ a e1, r = .ok a e1 ∧ f a e1 = .ok b e' := by
  cases r with
  | ok a e1 => exact ⟨a, e1, rfl, h⟩
  | ex x e => cases h
  | st => cases h
theorem lc_rd {elt : I} {tg : Tg} {k : ItK} {es ifs : I} {t : Expr} {scope : Scope} (ht : agT T.N scope tg t = true) (σ : L2.St) (H0 : Hp) (Q : VK) (h : tE G X.K EX E (.lc elt tg k es ifs) σ H0 Q) :
    tLc (tIt true X.K k (tV G X.K EX E es)) (gTg X.K tg) (tEF X.K EX noE (evTs G ifs)) (tE G X.K EX noE elt) ((tgOwn T.N tg).map (·.2)) σ H0 Q := by
  obtain ⟨Z0, e, A0, R0, h⟩ := h
  have hvs : (tgOwn T.N tg).map (·.2) = tgSlots tg := (own_slots tg).1 t ht
  rw [hvs]
  unfold evl at h
  refine chainV R0 (h.bind fun ds e1 _ h1 => ?_)
  intro vs H1 Z1 A1 R1 s1 rx
  split at h1
  · rename_i xs hxs
    split at h1
    · rename_i hbig
      generalize hfn : (fun x e2 => match tgSet tg x e2 with
        | some e3 => (evTs G ifs e3).bind fun t e4 => if t = true then (evl G elt e4).bind fun o e5 => .ok (some o.toD) (forget (tgSlots tg) e5) else .ok none (forget (tgSlots tg) e4)
        | none => .st) = fn at h1
      generalize hlp : lcLp fn xs (forget (tgSlots tg) e1) = lp at h1
      cases lp with
      | ex x e => exact h1.elim
      | st => exact h1.elim
      | ok ys eE =>
        have h2 : AfO X.K H0 Z0 A0 σ Q (.lst ys) eE := h1
        clear h1
        refine ⟨Z1, ds, xs, (rds_rvs rx), fun _ => rx, hxs, fun J wk D hD => ?_⟩
        obtain ⟨A1f, R1f, sub, _⟩ := R1.forgets (vs := tgSlots tg)
        have sf : Stp H1 Z1 (W A1) H1 Z1 (W A1f) := Stp.refl.less fun b ⟨i, a⟩ => ⟨i, sub i b a⟩
        have hDn : ∀ b, Z1 b → b ≠ D := fun b z q => R1.zd b z (by rw [q]; exact hD)
        refine ⟨fun i m H => m = xs.length - i ∧ i ≤ xs.length ∧ ∃ Z ei A acc vacc, ER X.K H Z (wipe σ (tgSlots tg)) (forget (tgSlots tg) ei) A ∧ Stp H1 Z1 (W A1f) H Z (W A) ∧ ¬ Z D ∧ ¬ W A D ∧ H D = some (.lst vacc) ∧ RDs X.K H Z acc vacc ∧ acc.length ≤ i ∧ ∃ rest, lcLp fn (xs.drop i) (forget (tgSlots tg) ei) = .ok rest eE ∧ acc ++ rest = ys,
          ⟨xs.length, by simp, Nat.zero_le _, Z1, e1, A1f, [], [], (R1f.off (wipe_off (tgSlots tg) σ)).grow (g_new hD) (zd_new R1.zd hD), (g_new hD).stp, fun z => hDn D z rfl, fun ⟨i, a⟩ => R1f.ad a hD, upd_same, RDs.nil_iff.mpr rfl, Nat.le_refl _, ys, by simpa using hlp, rfl⟩, ?_⟩
        rintro i m H ⟨rfl, hil, Z, ei, A, acc, vacc, R, s, nZ, nA, hDa, ra, hla, rest, hr, hsum⟩
        obtain ⟨wgo, wst⟩ := wk i H Z (R1f.still s) (fun z => nomatch z) R.zd
        by_cases hlt : i < xs.length
        · right
          have hx : xs[i]? = some xs[i] := List.getElem?_eq_getElem hlt
          obtain ⟨go, yl⟩ := wgo _ hx
          rw [List.drop_eq_getElem_cons hlt] at hr
          simp only [lcLp] at hr
          obtain ⟨y, e2, hf, hr⟩ := bind_eq hr
          obtain ⟨rest', e3, hr', hr⟩ := bind_eq hr
          cases hr
          rw [← hfn] at hf
          dsimp only at hf
          split at hf
          · rename_i e3 he3
            obtain ⟨b, e4, hts, hf⟩ := bind_eq hf
            refine ⟨go, fun H' => ∃ m', m' < xs.length - i ∧ (m' = xs.length - (i + 1) ∧ i + 1 ≤ xs.length ∧ ∃ Z ei A acc vacc, ER X.K H' Z (wipe σ (tgSlots tg)) (forget (tgSlots tg) ei) A ∧ Stp H1 Z1 (W A1f) H' Z (W A) ∧ ¬ Z D ∧ ¬ W A D ∧ H' D = some (.lst vacc) ∧ RDs X.K H' Z acc vacc ∧ acc.length ≤ i + 1 ∧ ∃ rest, lcLp fn (xs.drop (i + 1)) (forget (tgSlots tg) ei) = .ok rest eE ∧ acc ++ rest = ys), fun H' h => h, fun yv H2 hy => ?_⟩
            obtain ⟨g2, rdy⟩ := yl yv H2 hy
            have R2 := R.grow g2 fun b z n => R.zd b z (g2.same.free n)
            have s2 : Stp H1 Z1 (W A1f) H2 Z (W A) := s.trans g2.stp
            refine ⟨Z, _, A, _, e3, R2, rdy, he3, fun σ' A' R' sb off => ⟨wipe_eq ((wipe_off _ σ).trans off), ?_⟩⟩
            have s2' : Stp H1 Z1 (W A1f) H2 Z (W A') := s2.less fun b ⟨i, a⟩ => ⟨i, sb i b a⟩
            have ra2 := ra.still' g2.still
            have hD2 := g2.same _ _ hDa
            refine ⟨Z, e3, A', R', ?_⟩
            rw [hts]
            intro H3 Z3 A3 R3 s3
            have s3' := s2'.trans s3
            have ra3 := ra2.still' (R'.still s3)
            have nA' : ¬ W A' D := fun ⟨i, a⟩ => nA ⟨i, sb i D a⟩
            have nZ3 : ¬ Z3 D := lc_nz s3 hD2 nA' nZ
            have nA3 : ¬ W A3 D := lc_nw s3 hD2 nA'
            have hD3 : H3 D = some (.lst vacc) := s3.keep _ _ hD2 nA'
            have weq : wipe σ' (tgSlots tg) = wipe σ (tgSlots tg) := wipe_eq ((wipe_off _ σ).trans off)
            cases b with
            | false =>
              simp only [Bool.false_eq_true, if_false] at hf
              cases hf
              refine iteF ⟨xs.length - (i + 1), by omega, rfl, hlt, ?_⟩
              obtain ⟨A5, R5, sb5, _⟩ := R3.forgets (vs := tgSlots tg)
              have R6 := R5.off (wipe_off (tgSlots tg) σ')
              rw [weq] at R6
              exact ⟨Z3, e4, A5, acc, vacc, R6, s3'.less fun b ⟨i, a⟩ => ⟨i, sb5 i b a⟩, nZ3, fun ⟨i, a⟩ => nA3 ⟨i, sb5 i D a⟩, hD3, ra3, by omega, rest', hr', hsum⟩
            | true =>
              simp only [if_true] at hf
              obtain ⟨o, e5, hel, hf⟩ := bind_eq hf
              cases hf
              refine iteT ⟨Z3, e4, A3, R3, ?_⟩
              rw [hel]
              intro v H4 Z4 A4 B R4 s4 r4 dj4 nz4
              have s4f := s4.frzB
              have R4f := R4.frzB r4 dj4
              have s4' : Stp H1 Z1 (W A1f) H4 (fun b => Z4 b ∨ B b) (W A4) := s3'.trans s4f
              have ra4 := ra3.still' (R3.still s4f)
              have nZ4 : ¬ (Z4 D ∨ B D) := lc_nz s4f hD3 nA3 nZ3
              have nA4 : ¬ W A4 D := lc_nw s4f hD3 nA3
              have hD4 : H4 D = some (.lst vacc) := s4f.keep _ _ hD3 nA3
              have lacc : vacc.length < sizeLine := by rw [← ra.length, ← big_line]; omega
              refine ⟨vacc, hD4, lacc, xs.length - (i + 1), by omega, rfl, hlt, ?_⟩
              obtain ⟨A5, R5, sb5, _⟩ := R4f.forgets (vs := tgSlots tg)
              have R6 := R5.off (wipe_off (tgSlots tg) σ')
              rw [weq] at R6
              have up : Still H4 (fun b => Z4 b ∨ B b) (upd H4 D (.lst (vacc ++ [v]))) (fun b => Z4 b ∨ B b) := ⟨fun b o h z => by rw [upd_ne (fun q : b = D => nZ4 (q ▸ z))]; exact h, fun b o h n => by
                rw [upd_ne (fun q : b = D => ?_)]
                · exact h
                · rw [q, hD4] at h
                  cases h
                  exact n trivial, fun _ z => z⟩
              have nA5 : ¬ W A5 D := fun ⟨i, a⟩ => nA4 ⟨i, sb5 i D a⟩
              refine ⟨_, e5, A5, acc ++ [o.toD], vacc ++ [v], R6.updD nZ4 nA5 hD4, (s4'.less fun b ⟨i, a⟩ => ⟨i, sb5 i b a⟩).updN hD, nZ4, nA5, upd_same, (ra4.app (RDs.mk r4.toRD (RDs.nil_iff.mpr rfl))).still' up, by rw [List.length_append, List.length_singleton]; omega, rest', hr', by rw [List.append_assoc]; exact hsum⟩
          · cases hf
        · left
          have hi : i = xs.length := by omega
          refine ⟨wst hi, ?_⟩
          subst hi
          rw [List.drop_length] at hr
          simp only [lcLp] at hr
          cases hr
          rw [List.append_nil] at hsum
          subst hsum
          have R6 := R.off (wipe_off (tgSlots tg) σ).symm
          have st1 : Stp H0 Z0 (W A0) H Z (W A) := s1.trans (sf.trans s)
          refine h2 (.ref D) H Z A (fun b => b = D) R6 (st1.add fun b q => by rw [q]; exact s1.none hD) ⟨D, vacc, rfl, hDa, ra, fun _ => Iff.rfl⟩ (fun j b a q => nA ⟨j, q ▸ a⟩) fun b q z => nZ (q ▸ z)
    · exact h1.elim
  · exact h1.elim
/-- a comprehension that calls -/
theorem e_lc (C : CxOk X sc T.N G.glob) {elt : I} {tg : Tg} {k : ItK} {es ifs : I} {x t it : Expr} {fs : List Expr} {scope : Scope} {pos : Pos} {l : List Expr}
    (hb : blkC T.N sc scope (tgOwn T.N tg) = true) (ht : agT T.N scope tg t = true) (hn : noSet it = true) (hl : itArgs k sc t it = some l)
    (pes : PEL X l (tV G X.K EX E es))
    (pel : ∀ s H c cl fp, PE (X.blk s H scope (compEnvC scope cl c X.env) fp) x (tE G X.K EX noE elt))
    (pif : ∀ s H c cl fp, PTs (X.blk s H scope (compEnvC scope cl c X.env) fp) fs (tEF X.K EX noE (evTs G ifs))) :
    PE X (.ListComp x [⟨t, it, fs, 0⟩] scope pos) (tE G X.K EX E (.lc elt tg k es ifs)) := by
  have hi : PI X t it (tIt true X.K k (tV G X.K EX E es)) := it_rule C hl pes
  have ok : BlkOk X.N X.env.scope scope (tgOwn T.N tg) := by rw [C.hN, C.sc]; exact blkOk_by hb
  have hg : ∀ s H c cl fp, PG (X.blk s H scope (compEnvC scope cl c X.env) fp) t (gTg X.K tg) := fun s H c cl fp => tg_rule (C.blk s H scope c cl fp) (scT := scope) (fun x h => blk_loc C s H scope c cl fp x h) tg t ht
  exact PE.mono (pe_lc C.calm (by rw [C.hN]; exact C.nd) hi ok hg pif pel (by cases it <;> first | (cases hn; done) | exact fun _ => rfl)) fun σ H0 Q h => lc_rd ht σ H0 Q h
/-- name = such a comprehension, on one line -/
theorem s_setLc (C : CxOk X sc T.N G.glob) {elt : I} {tg : Tg} {k : ItK} {es ifs : I} {x t it : Expr} {fs : List Expr} {scope : Scope} {pos spos py : Pos} {l : List Expr} {i : Nat} {y : Str}
    (hb : blkC T.N sc scope (tgOwn T.N tg) = true) (ht : agT T.N scope tg t = true) (hn : noSet it = true) (hl : itArgs k sc t it = some l)
    (pes : PEL X l (tV G X.K EX E es))
    (pel : ∀ s H c cl fp, PE (X.blk s H scope (compEnvC scope cl c X.env) fp) x (tE G X.K EX noE elt))
    (pif : ∀ s H c cl fp, PTs (X.blk s H scope (compEnvC scope cl c X.env) fp) fs (tEF X.K EX noE (evTs G ifs)))
    (hy : T.N[i]? = some y) (hyl : sc.names.lookup y = some .local) (hsw : swapsWith (.ListComp x [⟨t, it, fs, 0⟩] scope pos) (some (.Name y py)) spos.line X.env = pure true) :
    PS X (.Assign [.Name y py] (.ListComp x [⟨t, it, fs, 0⟩] scope pos) spos) (tAsg (tE G X.K EX E (.lc elt tg k es ifs)) (gName i)) := by
  have hi : PI X t it (tIt true X.K k (tV G X.K EX E es)) := it_rule C hl pes
  have ok : BlkOk X.N X.env.scope scope (tgOwn T.N tg) := by rw [C.hN, C.sc]; exact blkOk_by hb
  have hg : ∀ s H c cl fp, PG (X.blk s H scope (compEnvC scope cl c X.env) fp) t (gTg X.K tg) := fun s H c cl fp => tg_rule (C.blk s H scope c cl fp) (scT := scope) (fun x h => blk_loc C s H scope c cl fp x h) tg t ht
  exact PS.mono (ps_setLc C.calm (by rw [C.hN]; exact C.nd) (by rw [C.hN]; exact hy) (by rw [C.sc]; exact hyl) hsw hi ok hg pif pel (by cases it <;> first | (cases hn; done) | exact fun _ => rfl)) fun σ H0 D h => lc_rd ht σ H0 _ h
end
end Vm

set_option Elab.async false
set_option linter.all false
set_option maxRecDepth 100000
set_option maxHeartbeats 8000000
/-! V18: expressions: the theorem. -/
namespace Vm
open PySem PySem.Spec PyProof.Rows L2

theorem Ans.congr {K : PySem.W.Frag} {EX : XR} {E : XK} {H : Hp} {Z : Addr → Prop} {A : Nat → Addr → Prop} {σ : L2.St} {α : Type} {r r' : Rs α} {P : α → Env → Prop} (h : Ans K EX E H Z A σ r P) (e : r = r') : Ans K EX E H Z A σ r' P := e ▸ h
section
variable {T : Tb} {G : Gs}
theorem dfl_rd {es : I} {e e1 : Env} {ds : List D} {K : PySem.W.Frag} {H : Hp} {Z : Addr → Prop} {vs : List V} (hd : dfl es = true) (h : evL G es e = .ok ds e1) (r : RVs K H Z ds vs) : ∃ k z y w, ds = [k, z] ∧ vs = [y, w] ∧ RD K H Z z w := by
  obtain ⟨a, c, rfl, hc⟩ : ∃ a c, es = .cons a (.cons (.k c) .nil) ∧ flat c = true := by
    unfold dfl at hd
    split at hd
    · exact ⟨_, _, rfl, hd⟩
    · cases hd
  have hx : ∃ d, ds = [d, c] := by
    by_cases hvv : ∃ i, a = .var i
    · obtain ⟨i, rfl⟩ := hvv
      have hv : evL G (.cons (.var i) (.cons (.k c) .nil)) e = (slot e i).bind fun _ e => (slot e i).bind fun o e1 => .ok [o.toD, c] e1 := rfl
      rw [hv] at h
      obtain ⟨_, e2, _, h⟩ := bind_eq h
      obtain ⟨o, e3, _, h⟩ := bind_eq h
      cases h
      exact ⟨_, rfl⟩
    · have hn : evL G (.cons a (.cons (.k c) .nil)) e = if quiet a = true ∧ lentE a = false then (match q G false a e with
          | some d => .ok [d, c] e
          | none => .st) else (evl G a e).bind fun o e1 => .ok [o.toD, c] e1 := by cases a <;> first | rfl | exact absurd ⟨_, rfl⟩ hvv
      rw [hn] at h
      split at h
      · split at h
        · cases h; exact ⟨_, rfl⟩
        · cases h
      · obtain ⟨o, e2, _, h⟩ := bind_eq h
        cases h
        exact ⟨_, rfl⟩
  obtain ⟨d, rfl⟩ := hx
  obtain ⟨v, w, rfl, ra, rb⟩ : ∃ v w, vs = [v, w] ∧ RV K H Z d v ∧ RV K H Z c w := by
    obtain ⟨v, r1, e1, ra, r⟩ := r
    obtain ⟨w, r2, e2, rb, r⟩ := r
    rw [r] at e2
    rw [e2] at e1
    exact ⟨v, w, e1, ra, rb⟩
  refine ⟨d, c, v, w, rfl, rfl, ?_⟩
  cases c <;> first | exact rb | cases hc
theorem evl_slc {x lo hi : I} (h : ∀ i, x = .var i → False) (e : Env) : evl G (.slc x lo hi) e = if lentE x = true then .st else (evl G x e).bind fun o e0 => (evI G lo e0).bind fun l e1 => (evI G hi e1).bind fun h e2 => giv true e2 (oSl l h o.toD) := by
  cases x <;> first | rfl | exact (h _ rfl).elim
mutual
/-- EXPRESSIONS -/
theorem e_ok : ∀ (a : I) {k : Nat} {EX : XR} {CX : CXT} {E : XK} {X : Cx} {sc : Scope} (C : CxE T G k EX CX E X sc) (ex : Expr), agE T a sc ex = true → PE X ex (tE G X.K EX E a)
  | .var i, k, EX, CX, E, X, sc, C, ex, h => by
    simp only [agE] at h
    refine PE.mono (var_rule C.ok h) fun σ H Q ⟨Z, e, A, R, h⟩ => ?_
    unfold evl at h
    obtain ⟨o, ho, h⟩ := slot_ok h
    obtain ⟨v, hv, rd, R', s'⟩ := R.frz ho
    exact ⟨v, hv, AfO.d (d := o.toD) h R' s' rd⟩
  | .fv i, k, EX, CX, E, X, sc, C, ex, h => by
    simp only [agE] at h
    refine PE.mono (var_rule C.ok h) fun σ H Q ⟨Z, e, A, R, h⟩ => ?_
    unfold evl at h
    obtain ⟨o, ho, h⟩ := slot_ok h
    obtain ⟨v, hv, rd, R', s'⟩ := R.frz ho
    exact ⟨v, hv, AfO.d (d := o.toD) h R' s' rd⟩
  | .mv i, k, EX, CX, E, X, sc, C, ex, h => by
    simp only [agE] at h
    refine PE.mono (var_rule C.ok h) fun σ H Q ⟨Z, e, A, R, h⟩ => ?_
    unfold evl at h
    obtain ⟨o, ho, h⟩ := slot_ok h
    obtain ⟨v, hv, r⟩ := R.rep i o ho
    refine ⟨v, hv, h.ok v H Z (uA A i noA) (A i) (R.forget i) (Stp.refl.less fun b w => ?_) r (fun j b a c => ?_) (R.nz i)⟩
    · rcases w with ⟨j, a⟩ | a
      · by_cases hj : j = i
        · subst hj; rw [uA_same] at a; exact a.elim
        · rw [uA_ne hj] at a; exact ⟨j, a⟩
      · exact ⟨i, a⟩
    · by_cases hj : j = i
      · subst hj; rw [uA_same] at a; exact a
      · rw [uA_ne hj] at a; exact hj (R.dj j i b a c)
  | .k c, k, EX, CX, E, X, sc, C, ex, h => q_to_e (q_ok _ C.ok false ex h rfl) rfl fun e => .inl rfl
  | .g x, k, EX, CX, E, X, sc, C, ex, h => q_to_e (q_ok _ C.ok false ex h rfl) rfl fun e => .inl rfl
  | .op f es, k, EX, CX, E, X, sc, C, ex, h => by
    simp only [agE] at h
    split at h
    · rename_i l hl
      exact e_op C.ok hl (eL_ok es C l h)
    · cases h
  | .mop f o es, k, EX, CX, E, X, sc, C, ex, h => by
    have h0 := h
    simp only [agE] at h
    split at h
    · rename_i x l hl
      simp only [Bool.and_eq_true] at h
      by_cases hq : quiet o = true ∧ lentE o = false ∧ f ≠ .get2
      · refine PE.mono (mop_rule C.ok hl (q_ok o C.ok false x h.1.1 hq.1) (eL_ok es C l h.1.2) es) fun σ H Q ⟨Z, e, A, R, h⟩ => ?_
        unfold evl at h
        rw [if_pos hq] at h
        split at h
        · rename_i d0 hd0
          split at h
          · rename_i hty
            refine ⟨Z, e, A, d0, R, hd0, fun v H1 Z1 g1 zd1 rv rd => ⟨?_, ?_⟩⟩
            · unfold mopArgs at hl
              split at hl
              · split at hl
                · rename_i T' n hm
                  have hcls : clsO f = T' := by unfold clsO; rw [hm]
                  rw [hcls]
                  exact ty_of hm hty rv
                · cases hl
              · cases hl
            · have R1 := R.grow g1 zd1
              have rd0 := rd (.inr hq.2.1)
              refine chainL R1 ((h.move (Z1 := Z1) (A1 := A) g1.stp (fun b w => w) fun ds e2 _ hk => hk).bind fun ds e1 _ h1 => ?_)
              intro vs H2 Z2 A2 R2 s2 rvs
              obtain ⟨d, hd, h2⟩ := giv_ok h1
              have s3 : Stp H Z (W A) H2 Z2 (W A2) := g1.stp.trans s2
              exact ⟨Z2, d0, ds, d, (RD.still (R1.still s2) rd0).toRV, rvs, fun hf => absurd hf hq.2.2, hd, fun v' H3 po => po_ans R2 s3 po id h2⟩
          · exact h.elim
        · exact h.elim
      · by_cases hz : quiet o = true ∧ quiet es = true
        · refine q_to_e (q_ok (.mop f o es) C.ok false ex h0 (by simp only [quiet, hz.1, hz.2, Bool.and_self])) rfl fun e => ?_
          unfold evl
          rw [if_neg hq, if_pos hz]
          exact .inl rfl
        · by_cases hv : (∃ i, o = .var i) ∧ f = .get2 ∧ dfl es = true
          · obtain ⟨⟨i, rfl⟩, rfl, hd⟩ := hv
            have hvr := h.1.1
            simp only [agE] at hvr
            refine PE.mono (mop_rule C.ok hl (var_rule C.ok hvr) (eL_ok es C l h.1.2) es) fun σ H Q ⟨Z, e, A, R, h⟩ => ?_
            unfold evl at h
            rw [if_neg hq, if_neg hz, if_pos ⟨rfl, hd⟩] at h
            dsimp only at h
            obtain ⟨o0, ho, h⟩ := slot_ok h
            split at h
            · rename_i hty
              obtain ⟨v, hv, r⟩ := R.rep i o0 ho
              refine ⟨v, hv, ty_of (f := .get2) rfl hty r.toRV, ?_⟩
              refine chainL R (h.bind fun ds e1 hds h1 => ?_)
              intro vs H2 Z2 A2 R2 s2 rvs
              obtain ⟨o1, ho1, h1⟩ := slot_ok h1
              obtain ⟨d, hdd, h2⟩ := giv_ok h1
              have r1 := R2.val (H' := H2) (Z' := Z2) (A' := A2) (e' := e1) ho1 hv
              exact ⟨Z2, o1.toD, ds, d, r1.toRV, rvs, fun _ => dfl_rd hd hds rvs, hdd, fun v' H3 po => po_ans (mkb := false) R2 s2 po (fun z => nomatch z) h2⟩
            · exact h.elim
          · refine ⟨fun _ _ _ _ _ _ ⟨Z, e, A, R, h⟩ => ?_⟩
            unfold evl at h
            rw [if_neg hq, if_neg hz] at h
            by_cases hfd : f = .get2 ∧ dfl es = true
            · rw [if_pos hfd] at h
              cases o <;> first | exact h.elim | exact (hv ⟨⟨_, rfl⟩, hfd⟩).elim
            · rw [if_neg hfd] at h; exact h.elim
    · cases h
  | .slc x lo hi, k, EX, CX, E, X, sc, C, ex, h => by
    simp only [agE] at h
    split at h
    · rename_i v l hh p1 p2
      simp only [Bool.and_eq_true] at h
      obtain ⟨⟨h1, h2⟩, h3⟩ := h
      have px := e_ok x C v h1
      have pl := eI_ok lo C l h2
      have ph := eI_ok hi C hh h3
      by_cases hv : ∃ i, x = .var i
      · obtain ⟨i, rfl⟩ := hv
        simp only [agE] at h1
        refine PE.mono (pe_slice r_slc (var_rule C.ok h1) pl ph) fun σ H Q ⟨Z, e, A, R, h⟩ => ?_
        unfold evl at h
        obtain ⟨o, ho, h⟩ := slot_ok h
        obtain ⟨v, hv, r⟩ := R.rep i o ho
        refine ⟨v, hv, Z, e, A, R, h.bind fun a e1 _ h1 => ?_⟩
        intro H1 Z1 A1 R1 s1
        refine ⟨Z1, e1, A1, R1, (h1.move (Z1 := Z1) (A1 := A1) s1 (fun b w => w) fun ds e2 _ hk => hk).bind fun b e2 _ h2 => ?_⟩
        intro H2 Z2 A2 R2 s2
        obtain ⟨o2, ho2, h2⟩ := slot_ok h2
        obtain ⟨d, hd, h2⟩ := giv_ok h2
        have r2 : RO X.K H2 Z2 o2 v (A2 i) := R2.val (H' := H2) (Z' := Z2) (A' := A2) (e' := e2) ho2 hv
        exact ⟨Z2, o2.toD, d, r2.toRV, hd, fun v' H3 po => po_ans R2 (s1.trans s2) po (fun _ => rfl) h2⟩
      · have hv' : ∀ i, x = .var i → False := fun i q => hv ⟨i, q⟩
        refine PE.mono (pe_slice r_slc px pl ph) fun σ H Q ⟨Z, e, A, R, h⟩ => ?_
        rw [evl_slc hv'] at h
        split at h
        · exact h.elim
        · refine ⟨Z, e, A, R, h.bind fun o e1 _ h1 => ?_⟩
          intro v H1 Z1 A1 B R1 s1 r1 dj nz
          have R1f := R1.frzB r1 dj
          refine ⟨_, e1, A1, R1f, (h1.move (A1 := A1) s1.frzB (fun b w => w) fun ds e2 _ hk => hk).bind fun a e2 _ h2 => ?_⟩
          intro H2 Z2 A2 R2 s2
          have s12 := s1.frzB.trans s2
          refine ⟨Z2, e2, A2, R2, (h2.move (A1 := A2) s2 (fun b w => w) fun ds e2 _ hk => hk).bind fun b e3 _ h3 => ?_⟩
          intro H3 Z3 A3 R3 s3
          obtain ⟨d, hd, h3⟩ := giv_ok h3
          exact ⟨Z3, o.toD, d, (RD.still (R2.still s3) (RD.still (R1f.still s2) r1.toRD)).toRV, hd, fun v' H4 po => po_ans R3 (s12.trans s3) po (fun _ => rfl) h3⟩
    · cases h
  | .ch f h' a b d', k, EX, CX, E, X, sc, C, ex, h => by
    by_cases hz : quiet a = true ∧ quiet b = true ∧ quiet d' = true
    · refine q_to_e (q_ok (.ch f h' a b d') C.ok false ex h (by simp only [quiet, hz.1, hz.2.1, hz.2.2, Bool.and_self])) rfl fun e => ?_
      unfold evl
      rw [if_pos hz]
      exact .inl rfl
    · refine ⟨fun _ _ _ _ _ _ ⟨Z, e, A, R, h⟩ => ?_⟩
      unfold evl at h
      rw [if_neg hz] at h
      exact h.elim
  | .and_ es, k, EX, CX, E, X, sc, C, ex, h => by
    simp only [agE] at h
    split at h
    · rename_i l p
      simp only [Bool.and_eq_true] at h
      refine PE.mono (eAnd_ok es C l p h.1) fun σ H Q ⟨Z, e, A, R, h⟩ => ?_
      unfold evl at h
      exact ⟨Z, e, A, R, h⟩
    · cases h
  | .or_ es, k, EX, CX, E, X, sc, C, ex, h => by
    simp only [agE] at h
    split at h
    · rename_i l p
      simp only [Bool.and_eq_true] at h
      refine PE.mono (eOr_ok es C l p h.1) fun σ H Q ⟨Z, e, A, R, h⟩ => ?_
      unfold evl at h
      exact ⟨Z, e, A, R, h⟩
    · cases h
  | .not_ a, k, EX, CX, E, X, sc, C, ex, h => by
    simp only [agE] at h
    split at h
    · rename_i x p
      simp only [Bool.and_eq_true] at h
      refine PE.mono (pe_not (e_ok a C x h.1)) fun σ H Q ⟨Z, e, A, R, h⟩ => ?_
      unfold evl at h
      refine ⟨Z, e, A, R, h.bind fun o e1 _ h1 => ?_⟩
      intro v H1 Z1 A1 B R1 s1 r1 dj nz
      obtain ⟨b, rfl, h2⟩ := tB_ok h1
      exact ⟨b, ro_bl r1, AfO.d (d := .bl (!b)) h2 R1 (s1.less fun b w => .inl w) (rd_bl.mpr rfl)⟩
    · cases h
  | .ite t a b, k, EX, CX, E, X, sc, C, ex, h => by
    simp only [agE] at h
    split at h
    · rename_i x y z p
      simp only [Bool.and_eq_true] at h
      obtain ⟨⟨⟨h1, h2⟩, h3⟩, h4⟩ := h
      refine PE.mono (pe_ifExp (eT_ok t C x h1 h4) (e_ok a C y h2) (e_ok b C z h3)) fun σ H Q ⟨Z, e, A, R, h⟩ => ?_
      unfold evl at h
      rw [← Rs.bind_assoc] at h
      refine ⟨Z, e, A, R, Ans.bind (r := evT G t e) h fun c e1 _ h1 => ?_⟩
      intro H1 Z1 A1 R1 s1
      cases c with
      | true => exact iteT ⟨Z1, e1, A1, R1, Ans.moveO (A1 := A1) h1 s1 fun b w => w⟩
      | false => exact iteF ⟨Z1, e1, A1, R1, Ans.moveO (A1 := A1) h1 s1 fun b w => w⟩
    · cases h
  | .lst es, k, EX, CX, E, X, sc, C, ex, h => by
    simp only [agE] at h
    split at h
    · rename_i l p
      refine PE.mono (pe_lst (eV_ok es C l h).pa) fun σ H Q ⟨Z, e, A, R, h⟩ => ?_
      unfold evl at h
      refine chainV R (h.bind fun ds e1 _ h1 => ?_)
      intro vs H1 Z1 A1 R1 s1 rd
      split at h1
      · rename_i hl
        refine ⟨by rw [← rd.length, ← big_line]; exact hl, fun p hp => ?_⟩
        exact po_ans (f := .add) (mkb := true) R1 s1 (post_lst hp rd) (fun _ => rfl) h1.ok
      · exact h1.elim
    · cases h
  | .tup es, k, EX, CX, E, X, sc, C, ex, h => by
    simp only [agE] at h
    split at h
    · rename_i l kk p
      refine PE.mono (pe_tup (eV_ok es C l h).pa) fun σ H Q ⟨Z, e, A, R, h⟩ => ?_
      unfold evl at h
      refine chainV R (h.bind fun ds e1 _ h1 => ?_)
      intro vs H1 Z1 A1 R1 s1 rd
      split at h1
      · rename_i hl
        refine ⟨by rw [← rd.length, ← big_line]; exact hl, fun p hp => ?_⟩
        exact po_ans (f := .add) (mkb := false) R1 s1 (post_tup hp rd) (fun z => nomatch z) h1.ok
      · exact h1.elim
    · cases h
  | .dic es, k, EX, CX, E, X, sc, C, ex, h => by
    simp only [agE] at h
    split at h
    · rename_i ks vs p
      split at h
      · rename_i l hl
        by_cases hes : es = .nil
        rotate_left
        · by_cases hz : quiet es = true
          · have h' : agE T (.dic es) sc (.Dict ks vs p) = true := by
              simp only [agE, hl]
              exact h
            exact q_to_e (q_ok (.dic es) C.ok false (.Dict ks vs p) h' hz) rfl fun e => .inl (by
              cases es <;> first | exact absurd rfl hes | (simp only [evl]; rw [if_pos hz]))
          · exact ⟨fun _ _ _ _ _ _ ⟨Z, e, A, R, h⟩ => by
              cases es <;> first | exact absurd rfl hes | (simp only [evl] at h; rw [if_neg hz] at h; exact h.elim)⟩
        subst hes
        rw [Bool.and_eq_true] at h
        have hl0 : l = [] := by cases l <;> first | rfl | (simp [agL] at h; done)
        subst hl0
        unfold keysOf at hl
        split at hl
        · refine PE.mono pe_dnewK fun σ H Q ⟨Z, e, A, R, h⟩ => ?_
          unfold evl at h
          exact fun p hp => po_ans (f := .add) (mkb := true) R Stp.refl (post_dct hp (RKs.nil_iff.mpr rfl)) (fun _ => rfl) h.ok
        · cases hk : keysOf _ _ <;> rw [hk] at hl <;> cases hl
        · cases hl
      · cases h
    · cases h
  | .lc elt tg kk es ifs, k, EX, CX, E, X, sc, C, ex, h => by
    simp only [agE] at h
    split at h
    · rename_i x t it fs z scope p
      simp only [Bool.and_eq_true, decide_eq_true_eq] at h
      obtain ⟨⟨⟨⟨⟨⟨⟨⟨rfl, h1⟩, h2⟩, h3⟩, h4⟩, h5⟩, h6⟩, h7⟩, h8⟩ := h
      split at h4
      · rename_i l hl
        refine e_lc C.ok h1 h2 h3 hl (eV_ok es C l h4) (fun s H cc cl fp => e_ok elt (C.blk s H scope cc cl fp) x h5) (fun s H cc cl fp => eTs_ok ifs (C.blk s H scope cc cl fp) fs h6 h7 h8)
      · cases h4
    · cases h
  | .call d es, k, EX, CX, E, X, sc, C, ex, h => by
    obtain ⟨l, h1, h2⟩ := e_call C h
    exact h2 (eA_ok es C l h1)
  | .mut m i es, k, EX, CX, E, X, sc, C, ex, h => by
    by_cases hm : mutRule m = true
    · obtain ⟨l, h1, h2⟩ := mut_rule C.ok h hm
      refine PE.mono (h2 (eV_ok es C l h1)) fun σ H Q ⟨Z, e, A, R, h⟩ => ?_
      unfold evl at h
      split at h
      · rename_i xs0 ho
        rw [if_pos hm] at h
        obtain ⟨v, hv, r⟩ := R.rep i _ ho
        obtain ⟨a, ws, rfl, ha, _⟩ := r
        refine ⟨_, hv, .inl (.inl ⟨rfl, ws, SqL.of ha⟩), chainV R (h.bind fun ds e1 _ h1 => ?_)⟩
        intro vs H1 Z1 A1 R1 s1 rd
        split at h1
        · rename_i xs ho1
          split at h1
          · rename_i r xs' hmu
            have r1 : RO X.K H1 Z1 (.lst xs) (.ref a) (A1 i) := R1.val (H' := H1) (Z' := Z1) (A' := A1) (e' := e1) ho1 hv
            obtain ⟨a', ws1, ea, ha1, rx, _⟩ := r1
            cases ea
            refine ⟨Z1, xs, ds, r, xs', a, ws1, rfl, ha1, rx, rd, hmu, fun v us ru rr => ?_⟩
            obtain ⟨R2, s2, st⟩ := R1.mutd ho1 hv ha1 ru
            exact AfO.d (d := r) h1 R2 (s1.trans s2) (RD.still st rr)
          · exact h1.elim
        · exact h1.elim
      · exact h.elim
    · refine ⟨fun _ _ _ _ _ _ ⟨Z, e, A, R, h⟩ => ?_⟩
      unfold evl at h
      split at h
      · rw [if_neg hm] at h; exact h.elim
      · exact h.elim
  | .nil, k, EX, CX, E, X, sc, C, ex, h => by simp [agE] at h
  | .cons _ _, k, EX, CX, E, X, sc, C, ex, h => by simp [agE] at h
theorem eL_ok : ∀ (es : I) {k : Nat} {EX : XR} {CX : CXT} {E : XK} {X : Cx} {sc : Scope} (C : CxE T G k EX CX E X sc) (l : List Expr), agL T es sc l = true → PEL X l (tL G X.K EX E es)
  | .nil, k, EX, CX, E, X, sc, C, [], h => .nil
  | .cons a r, k, EX, CX, E, X, sc, C, e :: l, h => by
    have h' : agE T a sc e = true ∧ agL T r sc l = true := by simpa only [agL, Bool.and_eq_true] using h
    refine .cons (agE_plain h'.1) ?_ (eL_ok r C l h'.2)
    by_cases hv : ∃ i, a = .var i
    · obtain ⟨i, rfl⟩ := hv
      have h1 := h'.1
      simp only [agE] at h1
      exact var_rule C.ok h1
    · have hv' : ∀ i, a = .var i → False := fun i q => hv ⟨i, q⟩
      rw [tEo_ne hv']
      by_cases hq : quiet a = true ∧ lentE a = false
      · rw [if_pos hq]
        exact q_ok a C.ok false e h'.1 hq.1
      · rw [if_neg hq]
        exact e_ok a C e h'.1
  | .nil, k, EX, CX, E, X, sc, C, _ :: _, h => by simp [agL] at h
  | .cons _ _, k, EX, CX, E, X, sc, C, [], h => by simp [agL] at h
  | .var _, k, EX, CX, E, X, sc, C, l, h => by cases l <;> simp [agL] at h
  | .mv _, k, EX, CX, E, X, sc, C, l, h => by cases l <;> simp [agL] at h
  | .fv _, k, EX, CX, E, X, sc, C, l, h => by cases l <;> simp [agL] at h
  | .k _, k, EX, CX, E, X, sc, C, l, h => by cases l <;> simp [agL] at h
  | .g _, k, EX, CX, E, X, sc, C, l, h => by cases l <;> simp [agL] at h
  | .op _ _, k, EX, CX, E, X, sc, C, l, h => by cases l <;> simp [agL] at h
  | .mop _ _ _, k, EX, CX, E, X, sc, C, l, h => by cases l <;> simp [agL] at h
  | .slc _ _ _, k, EX, CX, E, X, sc, C, l, h => by cases l <;> simp [agL] at h
  | .ch _ _ _ _ _, k, EX, CX, E, X, sc, C, l, h => by cases l <;> simp [agL] at h
  | .and_ _, k, EX, CX, E, X, sc, C, l, h => by cases l <;> simp [agL] at h
  | .or_ _, k, EX, CX, E, X, sc, C, l, h => by cases l <;> simp [agL] at h
  | .not_ _, k, EX, CX, E, X, sc, C, l, h => by cases l <;> simp [agL] at h
  | .ite _ _ _, k, EX, CX, E, X, sc, C, l, h => by cases l <;> simp [agL] at h
  | .lst _, k, EX, CX, E, X, sc, C, l, h => by cases l <;> simp [agL] at h
  | .tup _, k, EX, CX, E, X, sc, C, l, h => by cases l <;> simp [agL] at h
  | .dic _, k, EX, CX, E, X, sc, C, l, h => by cases l <;> simp [agL] at h
  | .lc _ _ _ _ _, k, EX, CX, E, X, sc, C, l, h => by cases l <;> simp [agL] at h
  | .call _ _, k, EX, CX, E, X, sc, C, l, h => by cases l <;> simp [agL] at h
  | .mut _ _ _, k, EX, CX, E, X, sc, C, l, h => by cases l <;> simp [agL] at h
theorem eV_ok : ∀ (es : I) {k : Nat} {EX : XR} {CX : CXT} {E : XK} {X : Cx} {sc : Scope} (C : CxE T G k EX CX E X sc) (l : List Expr), agL T es sc l = true → PEL X l (tV G X.K EX E es)
  | .nil, k, EX, CX, E, X, sc, C, [], h => .nil
  | .cons a r, k, EX, CX, E, X, sc, C, e :: l, h => by
    have h' : agE T a sc e = true ∧ agL T r sc l = true := by simpa only [agL, Bool.and_eq_true] using h
    exact .cons (agE_plain h'.1) (e_ok a C e h'.1) (eV_ok r C l h'.2)
  | .nil, k, EX, CX, E, X, sc, C, _ :: _, h => by simp [agL] at h
  | .cons _ _, k, EX, CX, E, X, sc, C, [], h => by simp [agL] at h
  | .var _, k, EX, CX, E, X, sc, C, l, h => by cases l <;> simp [agL] at h
  | .mv _, k, EX, CX, E, X, sc, C, l, h => by cases l <;> simp [agL] at h
  | .fv _, k, EX, CX, E, X, sc, C, l, h => by cases l <;> simp [agL] at h
  | .k _, k, EX, CX, E, X, sc, C, l, h => by cases l <;> simp [agL] at h
  | .g _, k, EX, CX, E, X, sc, C, l, h => by cases l <;> simp [agL] at h
  | .op _ _, k, EX, CX, E, X, sc, C, l, h => by cases l <;> simp [agL] at h
  | .mop _ _ _, k, EX, CX, E, X, sc, C, l, h => by cases l <;> simp [agL] at h
  | .slc _ _ _, k, EX, CX, E, X, sc, C, l, h => by cases l <;> simp [agL] at h
  | .ch _ _ _ _ _, k, EX, CX, E, X, sc, C, l, h => by cases l <;> simp [agL] at h
  | .and_ _, k, EX, CX, E, X, sc, C, l, h => by cases l <;> simp [agL] at h
  | .or_ _, k, EX, CX, E, X, sc, C, l, h => by cases l <;> simp [agL] at h
  | .not_ _, k, EX, CX, E, X, sc, C, l, h => by cases l <;> simp [agL] at h
  | .ite _ _ _, k, EX, CX, E, X, sc, C, l, h => by cases l <;> simp [agL] at h
  | .lst _, k, EX, CX, E, X, sc, C, l, h => by cases l <;> simp [agL] at h
  | .tup _, k, EX, CX, E, X, sc, C, l, h => by cases l <;> simp [agL] at h
  | .dic _, k, EX, CX, E, X, sc, C, l, h => by cases l <;> simp [agL] at h
  | .lc _ _ _ _ _, k, EX, CX, E, X, sc, C, l, h => by cases l <;> simp [agL] at h
  | .call _ _, k, EX, CX, E, X, sc, C, l, h => by cases l <;> simp [agL] at h
  | .mut _ _ _, k, EX, CX, E, X, sc, C, l, h => by cases l <;> simp [agL] at h
theorem eA_ok : ∀ (es : I) {k : Nat} {EX : XR} {CX : CXT} {E : XK} {X : Cx} {sc : Scope} (C : CxE T G k EX CX E X sc) (l : List Expr), agL T es sc l = true → PEL X l (tAs G X.K EX E es)
  | .nil, k, EX, CX, E, X, sc, C, [], h => .nil
  | .cons a r, k, EX, CX, E, X, sc, C, e :: l, h => by
    have h' : agE T a sc e = true ∧ agL T r sc l = true := by simpa only [agL, Bool.and_eq_true] using h
    refine .cons (agE_plain h'.1) ?_ (eA_ok r C l h'.2)
    by_cases hv : ∃ i, a = .var i
    · obtain ⟨i, rfl⟩ := hv
      have h1 := h'.1
      simp only [agE] at h1
      exact var_rule C.ok h1
    · have hv' : ∀ i, a = .var i → False := fun i q => hv ⟨i, q⟩
      rw [tAa_ne hv']
      exact e_ok a C e h'.1
  | .nil, k, EX, CX, E, X, sc, C, _ :: _, h => by simp [agL] at h
  | .cons _ _, k, EX, CX, E, X, sc, C, [], h => by simp [agL] at h
  | .var _, k, EX, CX, E, X, sc, C, l, h => by cases l <;> simp [agL] at h
  | .mv _, k, EX, CX, E, X, sc, C, l, h => by cases l <;> simp [agL] at h
  | .fv _, k, EX, CX, E, X, sc, C, l, h => by cases l <;> simp [agL] at h
  | .k _, k, EX, CX, E, X, sc, C, l, h => by cases l <;> simp [agL] at h
  | .g _, k, EX, CX, E, X, sc, C, l, h => by cases l <;> simp [agL] at h
  | .op _ _, k, EX, CX, E, X, sc, C, l, h => by cases l <;> simp [agL] at h
  | .mop _ _ _, k, EX, CX, E, X, sc, C, l, h => by cases l <;> simp [agL] at h
  | .slc _ _ _, k, EX, CX, E, X, sc, C, l, h => by cases l <;> simp [agL] at h
  | .ch _ _ _ _ _, k, EX, CX, E, X, sc, C, l, h => by cases l <;> simp [agL] at h
  | .and_ _, k, EX, CX, E, X, sc, C, l, h => by cases l <;> simp [agL] at h
  | .or_ _, k, EX, CX, E, X, sc, C, l, h => by cases l <;> simp [agL] at h
  | .not_ _, k, EX, CX, E, X, sc, C, l, h => by cases l <;> simp [agL] at h
  | .ite _ _ _, k, EX, CX, E, X, sc, C, l, h => by cases l <;> simp [agL] at h
  | .lst _, k, EX, CX, E, X, sc, C, l, h => by cases l <;> simp [agL] at h
  | .tup _, k, EX, CX, E, X, sc, C, l, h => by cases l <;> simp [agL] at h
  | .dic _, k, EX, CX, E, X, sc, C, l, h => by cases l <;> simp [agL] at h
  | .lc _ _ _ _ _, k, EX, CX, E, X, sc, C, l, h => by cases l <;> simp [agL] at h
  | .call _ _, k, EX, CX, E, X, sc, C, l, h => by cases l <;> simp [agL] at h
  | .mut _ _ _, k, EX, CX, E, X, sc, C, l, h => by cases l <;> simp [agL] at h
theorem eI_ok : ∀ (es : I) {k : Nat} {EX : XR} {CX : CXT} {E : XK} {X : Cx} {sc : Scope} (C : CxE T G k EX CX E X sc) (o : Option Expr), agL T es sc o.toList = true → PO X o (tEI G X.K EX E es)
  | .nil, k, EX, CX, E, X, sc, C, none, h => PO.mono po_none fun σ H Q ⟨Z, e, A, R, h⟩ => by
    unfold evI at h
    exact h.ok H Z A R Stp.refl
  | .cons a .nil, k, EX, CX, E, X, sc, C, some x, h => by
    simp only [Option.toList, agL, Bool.and_eq_true] at h
    refine PO.mono (po_some (e_ok a C x h.1)) fun σ H Q ⟨Z, e, A, R, h⟩ => ?_
    unfold evI at h
    refine ⟨Z, e, A, R, Ans.bind (r := evl G a e) h fun o e1 _ h1 => ?_⟩
    intro v H1 Z1 A1 B R1 s1 r1 dj nz
    obtain ⟨n, rfl, h2⟩ := tI_ok' h1
    exact ⟨n, ro_int r1, h2 H1 Z1 A1 R1 (s1.less fun b w => .inl w)⟩
  | .nil, k, EX, CX, E, X, sc, C, some _, h => by simp [Option.toList, agL] at h
  | .cons _ _, k, EX, CX, E, X, sc, C, none, h => by simp [Option.toList, agL] at h
  | .cons _ (.cons _ _), k, EX, CX, E, X, sc, C, some _, h => by simp [Option.toList, agL] at h
  | .cons _ (.var _), k, EX, CX, E, X, sc, C, some _, h => by simp [Option.toList, agL] at h
  | .cons _ (.mv _), k, EX, CX, E, X, sc, C, some _, h => by simp [Option.toList, agL] at h
  | .cons _ (.fv _), k, EX, CX, E, X, sc, C, some _, h => by simp [Option.toList, agL] at h
  | .cons _ (.k _), k, EX, CX, E, X, sc, C, some _, h => by simp [Option.toList, agL] at h
  | .cons _ (.g _), k, EX, CX, E, X, sc, C, some _, h => by simp [Option.toList, agL] at h
  | .cons _ (.op _ _), k, EX, CX, E, X, sc, C, some _, h => by simp [Option.toList, agL] at h
  | .cons _ (.mop _ _ _), k, EX, CX, E, X, sc, C, some _, h => by simp [Option.toList, agL] at h
  | .cons _ (.slc _ _ _), k, EX, CX, E, X, sc, C, some _, h => by simp [Option.toList, agL] at h
  | .cons _ (.ch _ _ _ _ _), k, EX, CX, E, X, sc, C, some _, h => by simp [Option.toList, agL] at h
  | .cons _ (.and_ _), k, EX, CX, E, X, sc, C, some _, h => by simp [Option.toList, agL] at h
  | .cons _ (.or_ _), k, EX, CX, E, X, sc, C, some _, h => by simp [Option.toList, agL] at h
  | .cons _ (.not_ _), k, EX, CX, E, X, sc, C, some _, h => by simp [Option.toList, agL] at h
  | .cons _ (.ite _ _ _), k, EX, CX, E, X, sc, C, some _, h => by simp [Option.toList, agL] at h
  | .cons _ (.lst _), k, EX, CX, E, X, sc, C, some _, h => by simp [Option.toList, agL] at h
  | .cons _ (.tup _), k, EX, CX, E, X, sc, C, some _, h => by simp [Option.toList, agL] at h
  | .cons _ (.dic _), k, EX, CX, E, X, sc, C, some _, h => by simp [Option.toList, agL] at h
  | .cons _ (.lc _ _ _ _ _), k, EX, CX, E, X, sc, C, some _, h => by simp [Option.toList, agL] at h
  | .cons _ (.call _ _), k, EX, CX, E, X, sc, C, some _, h => by simp [Option.toList, agL] at h
  | .cons _ (.mut _ _ _), k, EX, CX, E, X, sc, C, some _, h => by simp [Option.toList, agL] at h
  | .var _, k, EX, CX, E, X, sc, C, o, h => by cases o <;> simp [Option.toList, agL] at h
  | .mv _, k, EX, CX, E, X, sc, C, o, h => by cases o <;> simp [Option.toList, agL] at h
  | .fv _, k, EX, CX, E, X, sc, C, o, h => by cases o <;> simp [Option.toList, agL] at h
  | .k _, k, EX, CX, E, X, sc, C, o, h => by cases o <;> simp [Option.toList, agL] at h
  | .g _, k, EX, CX, E, X, sc, C, o, h => by cases o <;> simp [Option.toList, agL] at h
  | .op _ _, k, EX, CX, E, X, sc, C, o, h => by cases o <;> simp [Option.toList, agL] at h
  | .mop _ _ _, k, EX, CX, E, X, sc, C, o, h => by cases o <;> simp [Option.toList, agL] at h
  | .slc _ _ _, k, EX, CX, E, X, sc, C, o, h => by cases o <;> simp [Option.toList, agL] at h
  | .ch _ _ _ _ _, k, EX, CX, E, X, sc, C, o, h => by cases o <;> simp [Option.toList, agL] at h
  | .and_ _, k, EX, CX, E, X, sc, C, o, h => by cases o <;> simp [Option.toList, agL] at h
  | .or_ _, k, EX, CX, E, X, sc, C, o, h => by cases o <;> simp [Option.toList, agL] at h
  | .not_ _, k, EX, CX, E, X, sc, C, o, h => by cases o <;> simp [Option.toList, agL] at h
  | .ite _ _ _, k, EX, CX, E, X, sc, C, o, h => by cases o <;> simp [Option.toList, agL] at h
  | .lst _, k, EX, CX, E, X, sc, C, o, h => by cases o <;> simp [Option.toList, agL] at h
  | .tup _, k, EX, CX, E, X, sc, C, o, h => by cases o <;> simp [Option.toList, agL] at h
  | .dic _, k, EX, CX, E, X, sc, C, o, h => by cases o <;> simp [Option.toList, agL] at h
  | .lc _ _ _ _ _, k, EX, CX, E, X, sc, C, o, h => by cases o <;> simp [Option.toList, agL] at h
  | .call _ _, k, EX, CX, E, X, sc, C, o, h => by cases o <;> simp [Option.toList, agL] at h
  | .mut _ _ _, k, EX, CX, E, X, sc, C, o, h => by cases o <;> simp [Option.toList, agL] at h
theorem eAnd_ok : ∀ (es : I) {k : Nat} {EX : XR} {CX : CXT} {E : XK} {X : Cx} {sc : Scope} (C : CxE T G k EX CX E X sc) (l : List Expr) (p : Pos), agL T es sc l = true → PE X (.BoolOp .And l p) (tEB X.K EX E (evAnd G es))
  | .nil, k, EX, CX, E, X, sc, C, [], _, h => ⟨fun _ _ _ _ _ _ ⟨Z, e, A, R, h⟩ => by unfold evAnd at h; exact h.elim⟩
  | .cons a .nil, k, EX, CX, E, X, sc, C, [x], p, h => by
    simp only [agL, Bool.and_eq_true] at h
    refine PE.mono (pe_one (e_ok a C x h.1)) fun σ H Q ⟨Z, e, A, R, h⟩ => ?_
    unfold evAnd at h
    refine ⟨Z, e, A, R, Ans.bind (r := evl G a e) h fun o e1 _ h1 => ?_⟩
    intro v H1 Z1 A1 B R1 s1 r1 dj nz
    obtain ⟨b, rfl, h2⟩ := tB_ok h1
    rw [ro_bl r1]
    exact AfO.d (d := .bl b) h2 R1 (s1.less fun b w => .inl w) (rd_bl.mpr rfl)
  | .cons a (.cons b r), k, EX, CX, E, X, sc, C, x :: y :: l, p, h => by
    have h' : agE T a sc x = true ∧ agL T (.cons b r) sc (y :: l) = true := by simpa only [agL, Bool.and_eq_true] using h
    refine PE.mono (pe_and (e_ok a C x h'.1) (eAnd_ok (.cons b r) C (y :: l) p h'.2)) fun σ H Q ⟨Z, e, A, R, h⟩ => ?_
    unfold evAnd at h
    refine ⟨Z, e, A, R, Ans.bind (r := evl G a e) h fun o e1 _ h1 => ?_⟩
    intro v H1 Z1 A1 B R1 s1 r1 dj nz
    obtain ⟨b, rfl, h2⟩ := tB_ok h1
    refine ⟨b, ro_bl r1, ?_⟩
    cases b with
    | true => exact iteT ⟨Z1, e1, A1, R1, Ans.moveO (A1 := A1) h2 s1 fun b w => .inl w⟩
    | false => exact iteF (AfO.d (d := .bl false) h2 R1 (s1.less fun b w => .inl w) (rd_bl.mpr rfl))
  | .nil, k, EX, CX, E, X, sc, C, _ :: _, _, h => by simp [agL] at h
  | .cons _ _, k, EX, CX, E, X, sc, C, [], _, h => by simp [agL] at h
  | .cons _ .nil, k, EX, CX, E, X, sc, C, _ :: _ :: _, _, h => by simp [agL] at h
  | .cons _ (.cons _ _), k, EX, CX, E, X, sc, C, [_], _, h => by simp [agL] at h
  | .cons _ (.var _), k, EX, CX, E, X, sc, C, [_], _, h => by simp [agL] at h
  | .cons _ (.var _), k, EX, CX, E, X, sc, C, _ :: _ :: _, _, h => by simp [agL] at h
  | .cons _ (.mv _), k, EX, CX, E, X, sc, C, [_], _, h => by simp [agL] at h
  | .cons _ (.mv _), k, EX, CX, E, X, sc, C, _ :: _ :: _, _, h => by simp [agL] at h
  | .cons _ (.fv _), k, EX, CX, E, X, sc, C, [_], _, h => by simp [agL] at h
  | .cons _ (.fv _), k, EX, CX, E, X, sc, C, _ :: _ :: _, _, h => by simp [agL] at h
  | .cons _ (.k _), k, EX, CX, E, X, sc, C, [_], _, h => by simp [agL] at h
  | .cons _ (.k _), k, EX, CX, E, X, sc, C, _ :: _ :: _, _, h => by simp [agL] at h
  | .cons _ (.g _), k, EX, CX, E, X, sc, C, [_], _, h => by simp [agL] at h
  | .cons _ (.g _), k, EX, CX, E, X, sc, C, _ :: _ :: _, _, h => by simp [agL] at h
  | .cons _ (.op _ _), k, EX, CX, E, X, sc, C, [_], _, h => by simp [agL] at h
  | .cons _ (.op _ _), k, EX, CX, E, X, sc, C, _ :: _ :: _, _, h => by simp [agL] at h
  | .cons _ (.mop _ _ _), k, EX, CX, E, X, sc, C, [_], _, h => by simp [agL] at h
  | .cons _ (.mop _ _ _), k, EX, CX, E, X, sc, C, _ :: _ :: _, _, h => by simp [agL] at h
  | .cons _ (.slc _ _ _), k, EX, CX, E, X, sc, C, [_], _, h => by simp [agL] at h
  | .cons _ (.slc _ _ _), k, EX, CX, E, X, sc, C, _ :: _ :: _, _, h => by simp [agL] at h
  | .cons _ (.ch _ _ _ _ _), k, EX, CX, E, X, sc, C, [_], _, h => by simp [agL] at h
  | .cons _ (.ch _ _ _ _ _), k, EX, CX, E, X, sc, C, _ :: _ :: _, _, h => by simp [agL] at h
  | .cons _ (.and_ _), k, EX, CX, E, X, sc, C, [_], _, h => by simp [agL] at h
  | .cons _ (.and_ _), k, EX, CX, E, X, sc, C, _ :: _ :: _, _, h => by simp [agL] at h
  | .cons _ (.or_ _), k, EX, CX, E, X, sc, C, [_], _, h => by simp [agL] at h
  | .cons _ (.or_ _), k, EX, CX, E, X, sc, C, _ :: _ :: _, _, h => by simp [agL] at h
  | .cons _ (.not_ _), k, EX, CX, E, X, sc, C, [_], _, h => by simp [agL] at h
  | .cons _ (.not_ _), k, EX, CX, E, X, sc, C, _ :: _ :: _, _, h => by simp [agL] at h
  | .cons _ (.ite _ _ _), k, EX, CX, E, X, sc, C, [_], _, h => by simp [agL] at h
  | .cons _ (.ite _ _ _), k, EX, CX, E, X, sc, C, _ :: _ :: _, _, h => by simp [agL] at h
  | .cons _ (.lst _), k, EX, CX, E, X, sc, C, [_], _, h => by simp [agL] at h
  | .cons _ (.lst _), k, EX, CX, E, X, sc, C, _ :: _ :: _, _, h => by simp [agL] at h
  | .cons _ (.tup _), k, EX, CX, E, X, sc, C, [_], _, h => by simp [agL] at h
  | .cons _ (.tup _), k, EX, CX, E, X, sc, C, _ :: _ :: _, _, h => by simp [agL] at h
  | .cons _ (.dic _), k, EX, CX, E, X, sc, C, [_], _, h => by simp [agL] at h
  | .cons _ (.dic _), k, EX, CX, E, X, sc, C, _ :: _ :: _, _, h => by simp [agL] at h
  | .cons _ (.lc _ _ _ _ _), k, EX, CX, E, X, sc, C, [_], _, h => by simp [agL] at h
  | .cons _ (.lc _ _ _ _ _), k, EX, CX, E, X, sc, C, _ :: _ :: _, _, h => by simp [agL] at h
  | .cons _ (.call _ _), k, EX, CX, E, X, sc, C, [_], _, h => by simp [agL] at h
  | .cons _ (.call _ _), k, EX, CX, E, X, sc, C, _ :: _ :: _, _, h => by simp [agL] at h
  | .cons _ (.mut _ _ _), k, EX, CX, E, X, sc, C, [_], _, h => by simp [agL] at h
  | .cons _ (.mut _ _ _), k, EX, CX, E, X, sc, C, _ :: _ :: _, _, h => by simp [agL] at h
  | .var _, k, EX, CX, E, X, sc, C, l, _, h => by cases l <;> simp [agL] at h
  | .mv _, k, EX, CX, E, X, sc, C, l, _, h => by cases l <;> simp [agL] at h
  | .fv _, k, EX, CX, E, X, sc, C, l, _, h => by cases l <;> simp [agL] at h
  | .k _, k, EX, CX, E, X, sc, C, l, _, h => by cases l <;> simp [agL] at h
  | .g _, k, EX, CX, E, X, sc, C, l, _, h => by cases l <;> simp [agL] at h
  | .op _ _, k, EX, CX, E, X, sc, C, l, _, h => by cases l <;> simp [agL] at h
  | .mop _ _ _, k, EX, CX, E, X, sc, C, l, _, h => by cases l <;> simp [agL] at h
  | .slc _ _ _, k, EX, CX, E, X, sc, C, l, _, h => by cases l <;> simp [agL] at h
  | .ch _ _ _ _ _, k, EX, CX, E, X, sc, C, l, _, h => by cases l <;> simp [agL] at h
  | .and_ _, k, EX, CX, E, X, sc, C, l, _, h => by cases l <;> simp [agL] at h
  | .or_ _, k, EX, CX, E, X, sc, C, l, _, h => by cases l <;> simp [agL] at h
  | .not_ _, k, EX, CX, E, X, sc, C, l, _, h => by cases l <;> simp [agL] at h
  | .ite _ _ _, k, EX, CX, E, X, sc, C, l, _, h => by cases l <;> simp [agL] at h
  | .lst _, k, EX, CX, E, X, sc, C, l, _, h => by cases l <;> simp [agL] at h
  | .tup _, k, EX, CX, E, X, sc, C, l, _, h => by cases l <;> simp [agL] at h
  | .dic _, k, EX, CX, E, X, sc, C, l, _, h => by cases l <;> simp [agL] at h
  | .lc _ _ _ _ _, k, EX, CX, E, X, sc, C, l, _, h => by cases l <;> simp [agL] at h
  | .call _ _, k, EX, CX, E, X, sc, C, l, _, h => by cases l <;> simp [agL] at h
  | .mut _ _ _, k, EX, CX, E, X, sc, C, l, _, h => by cases l <;> simp [agL] at h
theorem eOr_ok : ∀ (es : I) {k : Nat} {EX : XR} {CX : CXT} {E : XK} {X : Cx} {sc : Scope} (C : CxE T G k EX CX E X sc) (l : List Expr) (p : Pos), agL T es sc l = true → PE X (.BoolOp .Or l p) (tEB X.K EX E (evOr G es))
  | .nil, k, EX, CX, E, X, sc, C, [], _, h => ⟨fun _ _ _ _ _ _ ⟨Z, e, A, R, h⟩ => by unfold evOr at h; exact h.elim⟩
  | .cons a .nil, k, EX, CX, E, X, sc, C, [x], p, h => by
    simp only [agL, Bool.and_eq_true] at h
    refine PE.mono (pe_one (e_ok a C x h.1)) fun σ H Q ⟨Z, e, A, R, h⟩ => ?_
    unfold evOr at h
    refine ⟨Z, e, A, R, Ans.bind (r := evl G a e) h fun o e1 _ h1 => ?_⟩
    intro v H1 Z1 A1 B R1 s1 r1 dj nz
    obtain ⟨b, rfl, h2⟩ := tB_ok h1
    rw [ro_bl r1]
    exact AfO.d (d := .bl b) h2 R1 (s1.less fun b w => .inl w) (rd_bl.mpr rfl)
  | .cons a (.cons b r), k, EX, CX, E, X, sc, C, x :: y :: l, p, h => by
    have h' : agE T a sc x = true ∧ agL T (.cons b r) sc (y :: l) = true := by simpa only [agL, Bool.and_eq_true] using h
    refine PE.mono (pe_or (e_ok a C x h'.1) (eOr_ok (.cons b r) C (y :: l) p h'.2)) fun σ H Q ⟨Z, e, A, R, h⟩ => ?_
    unfold evOr at h
    refine ⟨Z, e, A, R, Ans.bind (r := evl G a e) h fun o e1 _ h1 => ?_⟩
    intro v H1 Z1 A1 B R1 s1 r1 dj nz
    obtain ⟨b, rfl, h2⟩ := tB_ok h1
    refine ⟨b, ro_bl r1, ?_⟩
    cases b with
    | true => exact iteT (AfO.d (d := .bl true) h2 R1 (s1.less fun b w => .inl w) (rd_bl.mpr rfl))
    | false => exact iteF ⟨Z1, e1, A1, R1, Ans.moveO (A1 := A1) h2 s1 fun b w => .inl w⟩
  | .nil, k, EX, CX, E, X, sc, C, _ :: _, _, h => by simp [agL] at h
  | .cons _ _, k, EX, CX, E, X, sc, C, [], _, h => by simp [agL] at h
  | .cons _ .nil, k, EX, CX, E, X, sc, C, _ :: _ :: _, _, h => by simp [agL] at h
  | .cons _ (.cons _ _), k, EX, CX, E, X, sc, C, [_], _, h => by simp [agL] at h
  | .cons _ (.var _), k, EX, CX, E, X, sc, C, [_], _, h => by simp [agL] at h
  | .cons _ (.var _), k, EX, CX, E, X, sc, C, _ :: _ :: _, _, h => by simp [agL] at h
  | .cons _ (.mv _), k, EX, CX, E, X, sc, C, [_], _, h => by simp [agL] at h
  | .cons _ (.mv _), k, EX, CX, E, X, sc, C, _ :: _ :: _, _, h => by simp [agL] at h
  | .cons _ (.fv _), k, EX, CX, E, X, sc, C, [_], _, h => by simp [agL] at h
  | .cons _ (.fv _), k, EX, CX, E, X, sc, C, _ :: _ :: _, _, h => by simp [agL] at h
  | .cons _ (.k _), k, EX, CX, E, X, sc, C, [_], _, h => by simp [agL] at h
  | .cons _ (.k _), k, EX, CX, E, X, sc, C, _ :: _ :: _, _, h => by simp [agL] at h
  | .cons _ (.g _), k, EX, CX, E, X, sc, C, [_], _, h => by simp [agL] at h
  | .cons _ (.g _), k, EX, CX, E, X, sc, C, _ :: _ :: _, _, h => by simp [agL] at h
  | .cons _ (.op _ _), k, EX, CX, E, X, sc, C, [_], _, h => by simp [agL] at h
  | .cons _ (.op _ _), k, EX, CX, E, X, sc, C, _ :: _ :: _, _, h => by simp [agL] at h
  | .cons _ (.mop _ _ _), k, EX, CX, E, X, sc, C, [_], _, h => by simp [agL] at h
  | .cons _ (.mop _ _ _), k, EX, CX, E, X, sc, C, _ :: _ :: _, _, h => by simp [agL] at h
  | .cons _ (.slc _ _ _), k, EX, CX, E, X, sc, C, [_], _, h => by simp [agL] at h
  | .cons _ (.slc _ _ _), k, EX, CX, E, X, sc, C, _ :: _ :: _, _, h => by simp [agL] at h
  | .cons _ (.ch _ _ _ _ _), k, EX, CX, E, X, sc, C, [_], _, h => by simp [agL] at h
  | .cons _ (.ch _ _ _ _ _), k, EX, CX, E, X, sc, C, _ :: _ :: _, _, h => by simp [agL] at h
  | .cons _ (.and_ _), k, EX, CX, E, X, sc, C, [_], _, h => by simp [agL] at h
  | .cons _ (.and_ _), k, EX, CX, E, X, sc, C, _ :: _ :: _, _, h => by simp [agL] at h
  | .cons _ (.or_ _), k, EX, CX, E, X, sc, C, [_], _, h => by simp [agL] at h
  | .cons _ (.or_ _), k, EX, CX, E, X, sc, C, _ :: _ :: _, _, h => by simp [agL] at h
  | .cons _ (.not_ _), k, EX, CX, E, X, sc, C, [_], _, h => by simp [agL] at h
  | .cons _ (.not_ _), k, EX, CX, E, X, sc, C, _ :: _ :: _, _, h => by simp [agL] at h
  | .cons _ (.ite _ _ _), k, EX, CX, E, X, sc, C, [_], _, h => by simp [agL] at h
  | .cons _ (.ite _ _ _), k, EX, CX, E, X, sc, C, _ :: _ :: _, _, h => by simp [agL] at h
  | .cons _ (.lst _), k, EX, CX, E, X, sc, C, [_], _, h => by simp [agL] at h
  | .cons _ (.lst _), k, EX, CX, E, X, sc, C, _ :: _ :: _, _, h => by simp [agL] at h
  | .cons _ (.tup _), k, EX, CX, E, X, sc, C, [_], _, h => by simp [agL] at h
  | .cons _ (.tup _), k, EX, CX, E, X, sc, C, _ :: _ :: _, _, h => by simp [agL] at h
  | .cons _ (.dic _), k, EX, CX, E, X, sc, C, [_], _, h => by simp [agL] at h
  | .cons _ (.dic _), k, EX, CX, E, X, sc, C, _ :: _ :: _, _, h => by simp [agL] at h
  | .cons _ (.lc _ _ _ _ _), k, EX, CX, E, X, sc, C, [_], _, h => by simp [agL] at h
  | .cons _ (.lc _ _ _ _ _), k, EX, CX, E, X, sc, C, _ :: _ :: _, _, h => by simp [agL] at h
  | .cons _ (.call _ _), k, EX, CX, E, X, sc, C, [_], _, h => by simp [agL] at h
  | .cons _ (.call _ _), k, EX, CX, E, X, sc, C, _ :: _ :: _, _, h => by simp [agL] at h
  | .cons _ (.mut _ _ _), k, EX, CX, E, X, sc, C, [_], _, h => by simp [agL] at h
  | .cons _ (.mut _ _ _), k, EX, CX, E, X, sc, C, _ :: _ :: _, _, h => by simp [agL] at h
  | .var _, k, EX, CX, E, X, sc, C, l, _, h => by cases l <;> simp [agL] at h
  | .mv _, k, EX, CX, E, X, sc, C, l, _, h => by cases l <;> simp [agL] at h
  | .fv _, k, EX, CX, E, X, sc, C, l, _, h => by cases l <;> simp [agL] at h
  | .k _, k, EX, CX, E, X, sc, C, l, _, h => by cases l <;> simp [agL] at h
  | .g _, k, EX, CX, E, X, sc, C, l, _, h => by cases l <;> simp [agL] at h
  | .op _ _, k, EX, CX, E, X, sc, C, l, _, h => by cases l <;> simp [agL] at h
  | .mop _ _ _, k, EX, CX, E, X, sc, C, l, _, h => by cases l <;> simp [agL] at h
  | .slc _ _ _, k, EX, CX, E, X, sc, C, l, _, h => by cases l <;> simp [agL] at h
  | .ch _ _ _ _ _, k, EX, CX, E, X, sc, C, l, _, h => by cases l <;> simp [agL] at h
  | .and_ _, k, EX, CX, E, X, sc, C, l, _, h => by cases l <;> simp [agL] at h
  | .or_ _, k, EX, CX, E, X, sc, C, l, _, h => by cases l <;> simp [agL] at h
  | .not_ _, k, EX, CX, E, X, sc, C, l, _, h => by cases l <;> simp [agL] at h
  | .ite _ _ _, k, EX, CX, E, X, sc, C, l, _, h => by cases l <;> simp [agL] at h
  | .lst _, k, EX, CX, E, X, sc, C, l, _, h => by cases l <;> simp [agL] at h
  | .tup _, k, EX, CX, E, X, sc, C, l, _, h => by cases l <;> simp [agL] at h
  | .dic _, k, EX, CX, E, X, sc, C, l, _, h => by cases l <;> simp [agL] at h
  | .lc _ _ _ _ _, k, EX, CX, E, X, sc, C, l, _, h => by cases l <;> simp [agL] at h
  | .call _ _, k, EX, CX, E, X, sc, C, l, _, h => by cases l <;> simp [agL] at h
  | .mut _ _ _, k, EX, CX, E, X, sc, C, l, _, h => by cases l <;> simp [agL] at h
theorem eAndT_ok : ∀ (es : I) {k : Nat} {EX : XR} {CX : CXT} {E : XK} {X : Cx} {sc : Scope} (C : CxE T G k EX CX E X sc) (l : List Expr) (p : Pos), agL T es sc l = true → tstL es = true → PW X (.BoolOp .And l p) (tEF X.K EX E fun e => (evAnd G es e).bind tB)
  | .nil, k, EX, CX, E, X, sc, C, [], _, h, _ => ⟨fun _ _ _ _ _ _ _ ⟨Z, e, A, R, h⟩ => by unfold evAnd at h; exact h.elim⟩
  | .cons a .nil, k, EX, CX, E, X, sc, C, [x], p, h, ht => by
    simp only [agL, Bool.and_eq_true] at h
    simp only [tstL, Bool.and_eq_true] at ht
    refine PW.mono (pw_and1 (eT_ok a C x h.1 ht.1)) fun σ H Q ⟨Z, e, A, R, h⟩ => ?_
    unfold evAnd at h
    refine ⟨Z, e, A, R, ?_⟩
    unfold evT
    dsimp only at h
    rw [Rs.bind_assoc] at h
    refine Ans.congr h ?_
    cases evl G a e with
    | ok o e1 =>
      show ((tB o e1).bind _).bind tB = tB o e1
      unfold tB
      split <;> rfl
    | ex _ _ => rfl
    | st => rfl
  | .cons a (.cons b r), k, EX, CX, E, X, sc, C, x :: y :: l, p, h, ht => by
    have h' : agE T a sc x = true ∧ agL T (.cons b r) sc (y :: l) = true := by simpa only [agL, Bool.and_eq_true] using h
    have ht' : tstE a = true ∧ tstL (.cons b r) = true := by simpa only [tstL, Bool.and_eq_true] using ht
    refine PW.mono (pw_and (eT_ok a C x h'.1 ht'.1) (eAndT_ok (.cons b r) C (y :: l) p h'.2 ht'.2)) fun σ H Q ⟨Z, e, A, R, h⟩ => ?_
    unfold evAnd at h
    dsimp only at h
    rw [Rs.bind_assoc] at h
    have h0 : Ans X.K EX E H Z A σ ((evT G a e).bind fun t e1 => (if t = true then evAnd G (.cons b r) e1 else .ok (.d (.bl false)) e1).bind tB) (AfB X.K H Z A σ Q) := by
      refine Ans.congr h ?_
      unfold evT
      rw [Rs.bind_assoc]
      cases evl G a e with
      | ok o e1 =>
        show ((tB o e1).bind _).bind tB = (tB o e1).bind _
        rw [Rs.bind_assoc]
      | ex _ _ => rfl
      | st => rfl
    refine ⟨Z, e, A, R, h0.bind fun t e1 _ h1 => ?_⟩
    intro H1 Z1 A1 R1 s1
    cases t with
    | true => exact iteT ⟨Z1, e1, A1, R1, Ans.moveB (A1 := A1) h1 s1 fun b w => w⟩
    | false => exact iteF (h1.ok H1 Z1 A1 R1 s1)
  | .nil, k, EX, CX, E, X, sc, C, _ :: _, _, h, _ => by simp [agL] at h
  | .cons _ _, k, EX, CX, E, X, sc, C, [], _, h, _ => by simp [agL] at h
  | .cons _ .nil, k, EX, CX, E, X, sc, C, _ :: _ :: _, _, h, _ => by simp [agL] at h
  | .cons _ (.cons _ _), k, EX, CX, E, X, sc, C, [_], _, h, _ => by simp [agL] at h
  | .cons _ (.var _), k, EX, CX, E, X, sc, C, [_], _, h, _ => by simp [agL] at h
  | .cons _ (.var _), k, EX, CX, E, X, sc, C, _ :: _ :: _, _, h, _ => by simp [agL] at h
  | .cons _ (.mv _), k, EX, CX, E, X, sc, C, [_], _, h, _ => by simp [agL] at h
  | .cons _ (.mv _), k, EX, CX, E, X, sc, C, _ :: _ :: _, _, h, _ => by simp [agL] at h
  | .cons _ (.fv _), k, EX, CX, E, X, sc, C, [_], _, h, _ => by simp [agL] at h
  | .cons _ (.fv _), k, EX, CX, E, X, sc, C, _ :: _ :: _, _, h, _ => by simp [agL] at h
  | .cons _ (.k _), k, EX, CX, E, X, sc, C, [_], _, h, _ => by simp [agL] at h
  | .cons _ (.k _), k, EX, CX, E, X, sc, C, _ :: _ :: _, _, h, _ => by simp [agL] at h
  | .cons _ (.g _), k, EX, CX, E, X, sc, C, [_], _, h, _ => by simp [agL] at h
  | .cons _ (.g _), k, EX, CX, E, X, sc, C, _ :: _ :: _, _, h, _ => by simp [agL] at h
  | .cons _ (.op _ _), k, EX, CX, E, X, sc, C, [_], _, h, _ => by simp [agL] at h
  | .cons _ (.op _ _), k, EX, CX, E, X, sc, C, _ :: _ :: _, _, h, _ => by simp [agL] at h
  | .cons _ (.mop _ _ _), k, EX, CX, E, X, sc, C, [_], _, h, _ => by simp [agL] at h
  | .cons _ (.mop _ _ _), k, EX, CX, E, X, sc, C, _ :: _ :: _, _, h, _ => by simp [agL] at h
  | .cons _ (.slc _ _ _), k, EX, CX, E, X, sc, C, [_], _, h, _ => by simp [agL] at h
  | .cons _ (.slc _ _ _), k, EX, CX, E, X, sc, C, _ :: _ :: _, _, h, _ => by simp [agL] at h
  | .cons _ (.ch _ _ _ _ _), k, EX, CX, E, X, sc, C, [_], _, h, _ => by simp [agL] at h
  | .cons _ (.ch _ _ _ _ _), k, EX, CX, E, X, sc, C, _ :: _ :: _, _, h, _ => by simp [agL] at h
  | .cons _ (.and_ _), k, EX, CX, E, X, sc, C, [_], _, h, _ => by simp [agL] at h
  | .cons _ (.and_ _), k, EX, CX, E, X, sc, C, _ :: _ :: _, _, h, _ => by simp [agL] at h
  | .cons _ (.or_ _), k, EX, CX, E, X, sc, C, [_], _, h, _ => by simp [agL] at h
  | .cons _ (.or_ _), k, EX, CX, E, X, sc, C, _ :: _ :: _, _, h, _ => by simp [agL] at h
  | .cons _ (.not_ _), k, EX, CX, E, X, sc, C, [_], _, h, _ => by simp [agL] at h
  | .cons _ (.not_ _), k, EX, CX, E, X, sc, C, _ :: _ :: _, _, h, _ => by simp [agL] at h
  | .cons _ (.ite _ _ _), k, EX, CX, E, X, sc, C, [_], _, h, _ => by simp [agL] at h
  | .cons _ (.ite _ _ _), k, EX, CX, E, X, sc, C, _ :: _ :: _, _, h, _ => by simp [agL] at h
  | .cons _ (.lst _), k, EX, CX, E, X, sc, C, [_], _, h, _ => by simp [agL] at h
  | .cons _ (.lst _), k, EX, CX, E, X, sc, C, _ :: _ :: _, _, h, _ => by simp [agL] at h
  | .cons _ (.tup _), k, EX, CX, E, X, sc, C, [_], _, h, _ => by simp [agL] at h
  | .cons _ (.tup _), k, EX, CX, E, X, sc, C, _ :: _ :: _, _, h, _ => by simp [agL] at h
  | .cons _ (.dic _), k, EX, CX, E, X, sc, C, [_], _, h, _ => by simp [agL] at h
  | .cons _ (.dic _), k, EX, CX, E, X, sc, C, _ :: _ :: _, _, h, _ => by simp [agL] at h
  | .cons _ (.lc _ _ _ _ _), k, EX, CX, E, X, sc, C, [_], _, h, _ => by simp [agL] at h
  | .cons _ (.lc _ _ _ _ _), k, EX, CX, E, X, sc, C, _ :: _ :: _, _, h, _ => by simp [agL] at h
  | .cons _ (.call _ _), k, EX, CX, E, X, sc, C, [_], _, h, _ => by simp [agL] at h
  | .cons _ (.call _ _), k, EX, CX, E, X, sc, C, _ :: _ :: _, _, h, _ => by simp [agL] at h
  | .cons _ (.mut _ _ _), k, EX, CX, E, X, sc, C, [_], _, h, _ => by simp [agL] at h
  | .cons _ (.mut _ _ _), k, EX, CX, E, X, sc, C, _ :: _ :: _, _, h, _ => by simp [agL] at h
  | .var _, k, EX, CX, E, X, sc, C, l, _, h, _ => by cases l <;> simp [agL] at h
  | .mv _, k, EX, CX, E, X, sc, C, l, _, h, _ => by cases l <;> simp [agL] at h
  | .fv _, k, EX, CX, E, X, sc, C, l, _, h, _ => by cases l <;> simp [agL] at h
  | .k _, k, EX, CX, E, X, sc, C, l, _, h, _ => by cases l <;> simp [agL] at h
  | .g _, k, EX, CX, E, X, sc, C, l, _, h, _ => by cases l <;> simp [agL] at h
  | .op _ _, k, EX, CX, E, X, sc, C, l, _, h, _ => by cases l <;> simp [agL] at h
  | .mop _ _ _, k, EX, CX, E, X, sc, C, l, _, h, _ => by cases l <;> simp [agL] at h
  | .slc _ _ _, k, EX, CX, E, X, sc, C, l, _, h, _ => by cases l <;> simp [agL] at h
  | .ch _ _ _ _ _, k, EX, CX, E, X, sc, C, l, _, h, _ => by cases l <;> simp [agL] at h
  | .and_ _, k, EX, CX, E, X, sc, C, l, _, h, _ => by cases l <;> simp [agL] at h
  | .or_ _, k, EX, CX, E, X, sc, C, l, _, h, _ => by cases l <;> simp [agL] at h
  | .not_ _, k, EX, CX, E, X, sc, C, l, _, h, _ => by cases l <;> simp [agL] at h
  | .ite _ _ _, k, EX, CX, E, X, sc, C, l, _, h, _ => by cases l <;> simp [agL] at h
  | .lst _, k, EX, CX, E, X, sc, C, l, _, h, _ => by cases l <;> simp [agL] at h
  | .tup _, k, EX, CX, E, X, sc, C, l, _, h, _ => by cases l <;> simp [agL] at h
  | .dic _, k, EX, CX, E, X, sc, C, l, _, h, _ => by cases l <;> simp [agL] at h
  | .lc _ _ _ _ _, k, EX, CX, E, X, sc, C, l, _, h, _ => by cases l <;> simp [agL] at h
  | .call _ _, k, EX, CX, E, X, sc, C, l, _, h, _ => by cases l <;> simp [agL] at h
  | .mut _ _ _, k, EX, CX, E, X, sc, C, l, _, h, _ => by cases l <;> simp [agL] at h
theorem eOrT_ok : ∀ (es : I) {k : Nat} {EX : XR} {CX : CXT} {E : XK} {X : Cx} {sc : Scope} (C : CxE T G k EX CX E X sc) (l : List Expr) (p : Pos), agL T es sc l = true → tstL es = true → PW X (.BoolOp .Or l p) (tEF X.K EX E fun e => (evOr G es e).bind tB)
  | .nil, k, EX, CX, E, X, sc, C, [], _, h, _ => ⟨fun _ _ _ _ _ _ _ ⟨Z, e, A, R, h⟩ => by unfold evOr at h; exact h.elim⟩
  | .cons a .nil, k, EX, CX, E, X, sc, C, [x], p, h, ht => by
    simp only [agL, Bool.and_eq_true] at h
    simp only [tstL, Bool.and_eq_true] at ht
    refine PW.mono (pw_or1 (eT_ok a C x h.1 ht.1)) fun σ H Q ⟨Z, e, A, R, h⟩ => ?_
    unfold evOr at h
    refine ⟨Z, e, A, R, ?_⟩
    unfold evT
    dsimp only at h
    rw [Rs.bind_assoc] at h
    refine Ans.congr h ?_
    cases evl G a e with
    | ok o e1 =>
      show ((tB o e1).bind _).bind tB = tB o e1
      unfold tB
      split <;> rfl
    | ex _ _ => rfl
    | st => rfl
  | .cons a (.cons b r), k, EX, CX, E, X, sc, C, x :: y :: l, p, h, ht => by
    have h' : agE T a sc x = true ∧ agL T (.cons b r) sc (y :: l) = true := by simpa only [agL, Bool.and_eq_true] using h
    have ht' : tstE a = true ∧ tstL (.cons b r) = true := by simpa only [tstL, Bool.and_eq_true] using ht
    refine PW.mono (pw_or (eT_ok a C x h'.1 ht'.1) (eOrT_ok (.cons b r) C (y :: l) p h'.2 ht'.2)) fun σ H Q ⟨Z, e, A, R, h⟩ => ?_
    unfold evOr at h
    dsimp only at h
    rw [Rs.bind_assoc] at h
    have h0 : Ans X.K EX E H Z A σ ((evT G a e).bind fun t e1 => (if t = true then .ok (.d (.bl true)) e1 else evOr G (.cons b r) e1).bind tB) (AfB X.K H Z A σ Q) := by
      refine Ans.congr h ?_
      unfold evT
      rw [Rs.bind_assoc]
      cases evl G a e with
      | ok o e1 =>
        show ((tB o e1).bind _).bind tB = (tB o e1).bind _
        rw [Rs.bind_assoc]
      | ex _ _ => rfl
      | st => rfl
    refine ⟨Z, e, A, R, h0.bind fun t e1 _ h1 => ?_⟩
    intro H1 Z1 A1 R1 s1
    cases t with
    | true => exact iteT (h1.ok H1 Z1 A1 R1 s1)
    | false => exact iteF ⟨Z1, e1, A1, R1, Ans.moveB (A1 := A1) h1 s1 fun b w => w⟩
  | .nil, k, EX, CX, E, X, sc, C, _ :: _, _, h, _ => by simp [agL] at h
  | .cons _ _, k, EX, CX, E, X, sc, C, [], _, h, _ => by simp [agL] at h
  | .cons _ .nil, k, EX, CX, E, X, sc, C, _ :: _ :: _, _, h, _ => by simp [agL] at h
  | .cons _ (.cons _ _), k, EX, CX, E, X, sc, C, [_], _, h, _ => by simp [agL] at h
  | .cons _ (.var _), k, EX, CX, E, X, sc, C, [_], _, h, _ => by simp [agL] at h
  | .cons _ (.var _), k, EX, CX, E, X, sc, C, _ :: _ :: _, _, h, _ => by simp [agL] at h
  | .cons _ (.mv _), k, EX, CX, E, X, sc, C, [_], _, h, _ => by simp [agL] at h
  | .cons _ (.mv _), k, EX, CX, E, X, sc, C, _ :: _ :: _, _, h, _ => by simp [agL] at h
  | .cons _ (.fv _), k, EX, CX, E, X, sc, C, [_], _, h, _ => by simp [agL] at h
  | .cons _ (.fv _), k, EX, CX, E, X, sc, C, _ :: _ :: _, _, h, _ => by simp [agL] at h
  | .cons _ (.k _), k, EX, CX, E, X, sc, C, [_], _, h, _ => by simp [agL] at h
  | .cons _ (.k _), k, EX, CX, E, X, sc, C, _ :: _ :: _, _, h, _ => by simp [agL] at h
  | .cons _ (.g _), k, EX, CX, E, X, sc, C, [_], _, h, _ => by simp [agL] at h
  | .cons _ (.g _), k, EX, CX, E, X, sc, C, _ :: _ :: _, _, h, _ => by simp [agL] at h
  | .cons _ (.op _ _), k, EX, CX, E, X, sc, C, [_], _, h, _ => by simp [agL] at h
  | .cons _ (.op _ _), k, EX, CX, E, X, sc, C, _ :: _ :: _, _, h, _ => by simp [agL] at h
  | .cons _ (.mop _ _ _), k, EX, CX, E, X, sc, C, [_], _, h, _ => by simp [agL] at h
  | .cons _ (.mop _ _ _), k, EX, CX, E, X, sc, C, _ :: _ :: _, _, h, _ => by simp [agL] at h
  | .cons _ (.slc _ _ _), k, EX, CX, E, X, sc, C, [_], _, h, _ => by simp [agL] at h
  | .cons _ (.slc _ _ _), k, EX, CX, E, X, sc, C, _ :: _ :: _, _, h, _ => by simp [agL] at h
  | .cons _ (.ch _ _ _ _ _), k, EX, CX, E, X, sc, C, [_], _, h, _ => by simp [agL] at h
  | .cons _ (.ch _ _ _ _ _), k, EX, CX, E, X, sc, C, _ :: _ :: _, _, h, _ => by simp [agL] at h
  | .cons _ (.and_ _), k, EX, CX, E, X, sc, C, [_], _, h, _ => by simp [agL] at h
  | .cons _ (.and_ _), k, EX, CX, E, X, sc, C, _ :: _ :: _, _, h, _ => by simp [agL] at h
  | .cons _ (.or_ _), k, EX, CX, E, X, sc, C, [_], _, h, _ => by simp [agL] at h
  | .cons _ (.or_ _), k, EX, CX, E, X, sc, C, _ :: _ :: _, _, h, _ => by simp [agL] at h
  | .cons _ (.not_ _), k, EX, CX, E, X, sc, C, [_], _, h, _ => by simp [agL] at h
  | .cons _ (.not_ _), k, EX, CX, E, X, sc, C, _ :: _ :: _, _, h, _ => by simp [agL] at h
  | .cons _ (.ite _ _ _), k, EX, CX, E, X, sc, C, [_], _, h, _ => by simp [agL] at h
  | .cons _ (.ite _ _ _), k, EX, CX, E, X, sc, C, _ :: _ :: _, _, h, _ => by simp [agL] at h
  | .cons _ (.lst _), k, EX, CX, E, X, sc, C, [_], _, h, _ => by simp [agL] at h
  | .cons _ (.lst _), k, EX, CX, E, X, sc, C, _ :: _ :: _, _, h, _ => by simp [agL] at h
  | .cons _ (.tup _), k, EX, CX, E, X, sc, C, [_], _, h, _ => by simp [agL] at h
  | .cons _ (.tup _), k, EX, CX, E, X, sc, C, _ :: _ :: _, _, h, _ => by simp [agL] at h
  | .cons _ (.dic _), k, EX, CX, E, X, sc, C, [_], _, h, _ => by simp [agL] at h
  | .cons _ (.dic _), k, EX, CX, E, X, sc, C, _ :: _ :: _, _, h, _ => by simp [agL] at h
  | .cons _ (.lc _ _ _ _ _), k, EX, CX, E, X, sc, C, [_], _, h, _ => by simp [agL] at h
  | .cons _ (.lc _ _ _ _ _), k, EX, CX, E, X, sc, C, _ :: _ :: _, _, h, _ => by simp [agL] at h
  | .cons _ (.call _ _), k, EX, CX, E, X, sc, C, [_], _, h, _ => by simp [agL] at h
  | .cons _ (.call _ _), k, EX, CX, E, X, sc, C, _ :: _ :: _, _, h, _ => by simp [agL] at h
  | .cons _ (.mut _ _ _), k, EX, CX, E, X, sc, C, [_], _, h, _ => by simp [agL] at h
  | .cons _ (.mut _ _ _), k, EX, CX, E, X, sc, C, _ :: _ :: _, _, h, _ => by simp [agL] at h
  | .var _, k, EX, CX, E, X, sc, C, l, _, h, _ => by cases l <;> simp [agL] at h
  | .mv _, k, EX, CX, E, X, sc, C, l, _, h, _ => by cases l <;> simp [agL] at h
  | .fv _, k, EX, CX, E, X, sc, C, l, _, h, _ => by cases l <;> simp [agL] at h
  | .k _, k, EX, CX, E, X, sc, C, l, _, h, _ => by cases l <;> simp [agL] at h
  | .g _, k, EX, CX, E, X, sc, C, l, _, h, _ => by cases l <;> simp [agL] at h
  | .op _ _, k, EX, CX, E, X, sc, C, l, _, h, _ => by cases l <;> simp [agL] at h
  | .mop _ _ _, k, EX, CX, E, X, sc, C, l, _, h, _ => by cases l <;> simp [agL] at h
  | .slc _ _ _, k, EX, CX, E, X, sc, C, l, _, h, _ => by cases l <;> simp [agL] at h
  | .ch _ _ _ _ _, k, EX, CX, E, X, sc, C, l, _, h, _ => by cases l <;> simp [agL] at h
  | .and_ _, k, EX, CX, E, X, sc, C, l, _, h, _ => by cases l <;> simp [agL] at h
  | .or_ _, k, EX, CX, E, X, sc, C, l, _, h, _ => by cases l <;> simp [agL] at h
  | .not_ _, k, EX, CX, E, X, sc, C, l, _, h, _ => by cases l <;> simp [agL] at h
  | .ite _ _ _, k, EX, CX, E, X, sc, C, l, _, h, _ => by cases l <;> simp [agL] at h
  | .lst _, k, EX, CX, E, X, sc, C, l, _, h, _ => by cases l <;> simp [agL] at h
  | .tup _, k, EX, CX, E, X, sc, C, l, _, h, _ => by cases l <;> simp [agL] at h
  | .dic _, k, EX, CX, E, X, sc, C, l, _, h, _ => by cases l <;> simp [agL] at h
  | .lc _ _ _ _ _, k, EX, CX, E, X, sc, C, l, _, h, _ => by cases l <;> simp [agL] at h
  | .call _ _, k, EX, CX, E, X, sc, C, l, _, h, _ => by cases l <;> simp [agL] at h
  | .mut _ _ _, k, EX, CX, E, X, sc, C, l, _, h, _ => by cases l <;> simp [agL] at h
theorem eTs_ok : ∀ (es : I) {k : Nat} {EX : XR} {CX : CXT} {E : XK} {X : Cx} {sc : Scope} (C : CxE T G k EX CX E X sc) (l : List Expr), agL T es sc l = true → l.length ≤ 1 → tstL es = true → PTs X l (tEF X.K EX E (evTs G es))
  | .nil, k, EX, CX, E, X, sc, C, [], _, _, _ => PTs.mono pts_nil fun σ H Q ⟨Z, e, A, R, h⟩ => by
    unfold evTs at h
    exact h.ok H Z A R Stp.refl
  | .cons a .nil, k, EX, CX, E, X, sc, C, [x], h, _, ht => by
    simp only [agL, Bool.and_eq_true] at h
    simp only [tstL, Bool.and_eq_true] at ht
    refine PTs.mono (pts_one (eT_ok a C x h.1 ht.1)) fun σ H Q ⟨Z, e, A, R, h⟩ => ?_
    unfold evTs at h
    exact ⟨Z, e, A, R, h⟩
  | .nil, k, EX, CX, E, X, sc, C, _ :: _, h, _, _ => by simp [agL] at h
  | .cons _ _, k, EX, CX, E, X, sc, C, [], h, _, _ => by simp [agL] at h
  | .cons _ _, k, EX, CX, E, X, sc, C, _ :: _ :: _, _, h, _ => by simp at h
  | .cons _ (.cons _ _), k, EX, CX, E, X, sc, C, [_], h, _, _ => by simp [agL] at h
  | .cons _ (.var _), k, EX, CX, E, X, sc, C, [_], h, _, _ => by simp [agL] at h
  | .cons _ (.mv _), k, EX, CX, E, X, sc, C, [_], h, _, _ => by simp [agL] at h
  | .cons _ (.fv _), k, EX, CX, E, X, sc, C, [_], h, _, _ => by simp [agL] at h
  | .cons _ (.k _), k, EX, CX, E, X, sc, C, [_], h, _, _ => by simp [agL] at h
  | .cons _ (.g _), k, EX, CX, E, X, sc, C, [_], h, _, _ => by simp [agL] at h
  | .cons _ (.op _ _), k, EX, CX, E, X, sc, C, [_], h, _, _ => by simp [agL] at h
  | .cons _ (.mop _ _ _), k, EX, CX, E, X, sc, C, [_], h, _, _ => by simp [agL] at h
  | .cons _ (.slc _ _ _), k, EX, CX, E, X, sc, C, [_], h, _, _ => by simp [agL] at h
  | .cons _ (.ch _ _ _ _ _), k, EX, CX, E, X, sc, C, [_], h, _, _ => by simp [agL] at h
  | .cons _ (.and_ _), k, EX, CX, E, X, sc, C, [_], h, _, _ => by simp [agL] at h
  | .cons _ (.or_ _), k, EX, CX, E, X, sc, C, [_], h, _, _ => by simp [agL] at h
  | .cons _ (.not_ _), k, EX, CX, E, X, sc, C, [_], h, _, _ => by simp [agL] at h
  | .cons _ (.ite _ _ _), k, EX, CX, E, X, sc, C, [_], h, _, _ => by simp [agL] at h
  | .cons _ (.lst _), k, EX, CX, E, X, sc, C, [_], h, _, _ => by simp [agL] at h
  | .cons _ (.tup _), k, EX, CX, E, X, sc, C, [_], h, _, _ => by simp [agL] at h
  | .cons _ (.dic _), k, EX, CX, E, X, sc, C, [_], h, _, _ => by simp [agL] at h
  | .cons _ (.lc _ _ _ _ _), k, EX, CX, E, X, sc, C, [_], h, _, _ => by simp [agL] at h
  | .cons _ (.call _ _), k, EX, CX, E, X, sc, C, [_], h, _, _ => by simp [agL] at h
  | .cons _ (.mut _ _ _), k, EX, CX, E, X, sc, C, [_], h, _, _ => by simp [agL] at h
  | .var _, k, EX, CX, E, X, sc, C, l, h, _, _ => by cases l <;> simp [agL] at h
  | .mv _, k, EX, CX, E, X, sc, C, l, h, _, _ => by cases l <;> simp [agL] at h
  | .fv _, k, EX, CX, E, X, sc, C, l, h, _, _ => by cases l <;> simp [agL] at h
  | .k _, k, EX, CX, E, X, sc, C, l, h, _, _ => by cases l <;> simp [agL] at h
  | .g _, k, EX, CX, E, X, sc, C, l, h, _, _ => by cases l <;> simp [agL] at h
  | .op _ _, k, EX, CX, E, X, sc, C, l, h, _, _ => by cases l <;> simp [agL] at h
  | .mop _ _ _, k, EX, CX, E, X, sc, C, l, h, _, _ => by cases l <;> simp [agL] at h
  | .slc _ _ _, k, EX, CX, E, X, sc, C, l, h, _, _ => by cases l <;> simp [agL] at h
  | .ch _ _ _ _ _, k, EX, CX, E, X, sc, C, l, h, _, _ => by cases l <;> simp [agL] at h
  | .and_ _, k, EX, CX, E, X, sc, C, l, h, _, _ => by cases l <;> simp [agL] at h
  | .or_ _, k, EX, CX, E, X, sc, C, l, h, _, _ => by cases l <;> simp [agL] at h
  | .not_ _, k, EX, CX, E, X, sc, C, l, h, _, _ => by cases l <;> simp [agL] at h
  | .ite _ _ _, k, EX, CX, E, X, sc, C, l, h, _, _ => by cases l <;> simp [agL] at h
  | .lst _, k, EX, CX, E, X, sc, C, l, h, _, _ => by cases l <;> simp [agL] at h
  | .tup _, k, EX, CX, E, X, sc, C, l, h, _, _ => by cases l <;> simp [agL] at h
  | .dic _, k, EX, CX, E, X, sc, C, l, h, _, _ => by cases l <;> simp [agL] at h
  | .lc _ _ _ _ _, k, EX, CX, E, X, sc, C, l, h, _, _ => by cases l <;> simp [agL] at h
  | .call _ _, k, EX, CX, E, X, sc, C, l, h, _, _ => by cases l <;> simp [agL] at h
  | .mut _ _ _, k, EX, CX, E, X, sc, C, l, h, _, _ => by cases l <;> simp [agL] at h
theorem eT_ok : ∀ (a : I) {k : Nat} {EX : XR} {CX : CXT} {E : XK} {X : Cx} {sc : Scope} (C : CxE T G k EX CX E X sc) (ex : Expr), agE T a sc ex = true → tstE a = true → PT X ex (tEF X.K EX E (evT G a))
  | .var i, k, EX, CX, E, X, sc, C, ex, h, _ => by
    refine et_plain (e_ok (.var i) C ex h) ?_
    simp only [agE] at h
    cases ex <;> first | (cases h; done) | rfl
  | .op f es, k, EX, CX, E, X, sc, C, ex, h, _ => by
    have h0 := h
    simp only [agE] at h
    split at h
    · rename_i l hl
      cases hf : isCmp f with
      | false => exact et_plain (e_op C.ok hl (eL_ok es C l h)) (opT_plain hl hf)
      | true => exact e_opT C.ok hf hl (eL_ok es C l h)
    · cases h
  | .mop f o es, k, EX, CX, E, X, sc, C, ex, h, _ => by
    refine et_plain (e_ok (.mop f o es) C ex h) ?_
    simp only [agE] at h
    split at h
    · rename_i x l hl
      unfold mopArgs at hl
      split at hl
      · rfl
      · cases hl
    · cases h
  | .ch f h' a b d', k, EX, CX, E, X, sc, C, ex, h, _ => by
    by_cases hz : quiet a = true ∧ quiet b = true ∧ quiet d' = true
    · refine PT.mono (qT_ok (.ch f h' a b d') C.ok ex h (by simp only [quiet, hz.1, hz.2.1, hz.2.2, Bool.and_self]) rfl) fun σ H Q ⟨Z, e, A, R, h⟩ => ?_
      unfold evT evl at h
      rw [if_pos hz] at h
      unfold giv at h
      split at h
      · rename_i d hd
        obtain ⟨b, eb, h2⟩ := tB_ok' h
        simp only [Bool.false_eq_true, if_false] at eb
        cases eb
        exact ⟨Z, e, A, b, R, hd, fun H' Z' g zd => h2 H' Z' A (R.grow g zd) g.stp⟩
      · exact h.elim
    · refine ⟨fun _ _ _ _ _ _ ⟨Z, e, A, R, h⟩ => ?_⟩
      unfold evT evl at h
      rw [if_neg hz] at h
      exact h.elim
  | .and_ es, k, EX, CX, E, X, sc, C, ex, h, _ => by
    simp only [agE] at h
    split at h
    · rename_i l p
      simp only [Bool.and_eq_true] at h
      refine PT.mono (PW.pt (eAndT_ok es C l p h.1 h.2)) fun σ H Q ⟨Z, e, A, R, h⟩ => ?_
      unfold evT evl at h
      exact ⟨Z, e, A, R, h⟩
    · cases h
  | .or_ es, k, EX, CX, E, X, sc, C, ex, h, _ => by
    simp only [agE] at h
    split at h
    · rename_i l p
      simp only [Bool.and_eq_true] at h
      refine PT.mono (PW.pt (eOrT_ok es C l p h.1 h.2)) fun σ H Q ⟨Z, e, A, R, h⟩ => ?_
      unfold evT evl at h
      exact ⟨Z, e, A, R, h⟩
    · cases h
  | .not_ a, k, EX, CX, E, X, sc, C, ex, h, _ => by
    simp only [agE] at h
    split at h
    · rename_i x p
      simp only [Bool.and_eq_true] at h
      refine PT.mono (pt_not (eT_ok a C x h.1 h.2)) fun σ H Q ⟨Z, e, A, R, h⟩ => ?_
      unfold evT evl at h
      have h0 : Ans X.K EX E H Z A σ ((evT G a e).bind fun t e1 => .ok (!t) e1) (AfB X.K H Z A σ Q) := by
        refine Ans.congr h ?_
        unfold evT
        rw [Rs.bind_assoc, Rs.bind_assoc]
        cases evl G a e with
        | ok o e1 =>
          show ((tB o e1).bind _).bind tB = (tB o e1).bind _
          rw [Rs.bind_assoc]
          rfl
        | ex _ _ => rfl
        | st => rfl
      refine ⟨Z, e, A, R, h0.bind fun t e1 _ h1 => ?_⟩
      intro H1 Z1 A1 R1 s1
      exact h1.ok H1 Z1 A1 R1 s1
    · cases h
  | .call d es, k, EX, CX, E, X, sc, C, ex, h, _ => by
    refine et_plain (e_ok (.call d es) C ex h) ?_
    simp only [agE] at h
    split at h
    · rfl
    · cases h
  | .mv _, k, EX, CX, E, X, sc, C, _, _, h => by cases h
  | .fv _, k, EX, CX, E, X, sc, C, _, _, h => by cases h
  | .k _, k, EX, CX, E, X, sc, C, _, _, h => by cases h
  | .g _, k, EX, CX, E, X, sc, C, _, _, h => by cases h
  | .slc _ _ _, k, EX, CX, E, X, sc, C, _, _, h => by cases h
  | .ite _ _ _, k, EX, CX, E, X, sc, C, _, _, h => by cases h
  | .lst _, k, EX, CX, E, X, sc, C, _, _, h => by cases h
  | .tup _, k, EX, CX, E, X, sc, C, _, _, h => by cases h
  | .dic _, k, EX, CX, E, X, sc, C, _, _, h => by cases h
  | .lc _ _ _ _ _, k, EX, CX, E, X, sc, C, _, _, h => by cases h
  | .mut _ _ _, k, EX, CX, E, X, sc, C, _, _, h => by cases h
  | .nil, k, EX, CX, E, X, sc, C, _, _, h => by cases h
  | .cons _ _, k, EX, CX, E, X, sc, C, _, _, h => by cases h
end
end
end Vm

set_option Elab.async false
set_option linter.all false
set_option maxRecDepth 100000
set_option maxHeartbeats 8000000
/-! V19: statements: the parts. -/
namespace Vm
open PySem PySem.Spec PyProof.Rows L2

def Fix (fx : List Nat) (σ σ' : L2.St) : Prop := ∀ j ∈ fx, σ'[j]? = σ[j]?
theorem Fix.refl {fx : List Nat} {σ : L2.St} : Fix fx σ σ := fun _ _ => rfl
theorem Fix.trans {fx : List Nat} {σ σ1 σ2 : L2.St} (a : Fix fx σ σ1) (b : Fix fx σ1 σ2) : Fix fx σ σ2 := fun j h => (b j h).trans (a j h)
theorem Fix.set {fx : List Nat} {σ : L2.St} {i : Nat} {x : Option V} (h : i ∉ fx) : Fix fx σ (σ.set i x) := fun j hj => by rw [List.getElem?_set_ne (fun q => h (by rw [q]; exact hj))]
theorem Fix.off {fx vs : List Nat} {σ σ' : L2.St} (o : Off vs σ σ') (h : ∀ i ∈ vs, i ∉ fx) : Fix fx σ σ' := fun j hj => o.2 j fun m => h j m hj
section
variable (K : PySem.W.Frag) (EX : XR) (E : XK) (fx : List Nat) (H : Hp) (Z : Addr → Prop) (A : Nat → Addr → Prop) (σ : L2.St)
def AfS (P : L2.St → Hp → Prop) (e' : Env) : Prop := ∀ σ' H' Z' A', ER K H' Z' σ' e' A' → Stp H Z (W A) H' Z' (W A') → Fix fx σ σ' → P σ' H'
def AfR (P : VK) (o : O) (e' : Env) : Prop := ∀ σ' v H' Z' A' B, ER K H' Z' σ' e' A' → Stp H Z (W A) H' Z' (fun b => W A' b ∨ B b) → RO K H' Z' o v B → (∀ j b, A' j b → ¬ B b) → (∀ b, B b → ¬ Z' b) → Fix fx σ σ' → P v H'
def AfX (x : Ex) (e' : Env) : Prop := ∀ σ' cls d H' Z' A', ER K H' Z' σ' e' A' → Stp H Z (W A) H' Z' (W A') → Fix fx σ σ' → EX x H' Z' cls d → E cls d H'
def AnS (r : Fl) (D : Ends) : Prop := match r with
  | .nx e' => AfS K fx H Z A σ D.nx e'
  | .rt o e' => AfR K fx H Z A σ D.rt o e'
  | .bk e' => AfS K fx H Z A σ D.bk e'
  | .ct e' => AfS K fx H Z A σ D.ct e'
  | .ex x e' => AfX K EX E fx H Z A σ x e'
  | .st => False
end
section
variable {K : PySem.W.Frag} {EX : XR} {E : XK} {fx : List Nat} {H H1 H2 : Hp} {Z Z1 Z2 : Addr → Prop} {A A1 A2 : Nat → Addr → Prop} {σ σ1 σ2 : L2.St} {e e1 e' : Env} {W0 W1 W2 V1 V2 B : Addr → Prop} {o : O} {v : V} {D D' : Ends} {r : Fl}
theorem AfS.move {P : L2.St → Hp → Prop} (h : AfS K fx H Z A σ P e') (s : Stp H Z (W A) H1 Z1 W1) (hw : ∀ b, W A1 b → W1 b) (f : Fix fx σ σ1) : AfS K fx H1 Z1 A1 σ1 P e' :=
  fun σ' H' Z' A' R s' f' => h σ' H' Z' A' R (s.thn hw s' fun b w => .inl w) (f.trans f')
theorem AfR.move {P : VK} (h : AfR K fx H Z A σ P o e') (s : Stp H Z (W A) H1 Z1 W1) (hw : ∀ b, W A1 b → W1 b) (f : Fix fx σ σ1) : AfR K fx H1 Z1 A1 σ1 P o e' :=
  fun σ' v H' Z' A' B R s' ro dj nz f' => h σ' v H' Z' A' B R (s.thn hw s' fun b w => .inl w) ro dj nz (f.trans f')
theorem AfX.move {x : Ex} (h : AfX K EX E fx H Z A σ x e') (s : Stp H Z (W A) H1 Z1 W1) (hw : ∀ b, W A1 b → W1 b) (f : Fix fx σ σ1) : AfX K EX E fx H1 Z1 A1 σ1 x e' :=
  fun σ' c d H' Z' A' R s' f' q => h σ' c d H' Z' A' R (s.thn hw s' fun b w => .inl w) (f.trans f') q
theorem AnS.move (h : AnS K EX E fx H Z A σ r D) (s : Stp H Z (W A) H1 Z1 W1) (hw : ∀ b, W A1 b → W1 b) (f : Fix fx σ σ1) : AnS K EX E fx H1 Z1 A1 σ1 r D := by
  cases r with
  | nx e' => exact AfS.move (A1 := A1) h s hw f
  | rt o e' => exact AfR.move (A1 := A1) h s hw f
  | bk e' => exact AfS.move (A1 := A1) h s hw f
  | ct e' => exact AfS.move (A1 := A1) h s hw f
  | ex x e' => exact AfX.move (A1 := A1) h s hw f
  | st => exact h
theorem Ans.bnd {α : Type} {r : Rs α} {f : α → Env → Fl} {P : α → Env → Prop} (h : AnS K EX E fx H Z A σ (r.bnd f) D) (k : ∀ a e1, r = .ok a e1 → AnS K EX E fx H Z A σ (f a e1) D → P a e1) : Ans K EX E H Z A σ r P := by
  cases r with
  | ok a e1 => exact k a e1 rfl h
  | ex x e1 => exact fun cls d H' Z' A' R s q => h σ cls d H' Z' A' R s Fix.refl q
  | st => exact h
/-- the next statement -/
theorem AnS.seq {f : Env → Fl} {N : L2.St → Hp → Prop} (h : AnS K EX E fx H Z A σ (match r with | .nx e1 => f e1 | r => r) D)
    (k : ∀ e1, AnS K EX E fx H Z A σ (f e1) D → AfS K fx H Z A σ N e1) : AnS K EX E fx H Z A σ r { D with nx := N } := by
  cases r with
  | nx e1 => exact k e1 h
  | rt o e' => exact h
  | bk e' => exact h
  | ct e' => exact h
  | ex x e' => exact h
  | st => exact h
end
section
variable (G : Gs) (K : PySem.W.Frag) (EX : XR) (E : XK) (fx : List Nat)
def tS (s : S) : TS := fun D σ H => ∃ Z e A, ER K H Z σ e A ∧ AnS K EX E fx H Z A σ (exe G s e) D
end

/-! ### the text -/
def notLC : I → Bool
  | .lc _ _ _ _ _ => false
  | _ => true
def notComp : Expr → Bool
  | .ListComp _ _ _ _ => false | .SetComp _ _ _ _ => false | .DictComp _ _ _ _ _ => false
  | _ => true
def swB (sc : Scope) (e : Expr) (t : Str) (p : Pos) : Bool := match e with
  | .ListComp _ _ s q => sc.names.lookup t == some .local && p.line == q.line && !(s.names.any fun (n, k) => n == t && (k == .local || k == .cell))
  | _ => false
theorem swB_of {e : Expr} {t : Str} {p : Pos} {l : Nat} {env : PySem.Env} (hk : env.scope.kind = .function) (h : ∀ e' gs sc q, e ≠ .SetComp e' gs sc q) (h2 : ∀ k v gs sc q, e ≠ .DictComp k v gs sc q) : swapsWith e (some (.Name t p)) l env = pure (swB env.scope e t p) := by
  cases e <;> first | rfl | (exact absurd rfl (h _ _ _ _)) | (exact absurd rfl (h2 _ _ _ _ _)) | skip
  rename_i e' gs s q
  have hb : env.blockKind = .function := by unfold PySem.Env.blockKind; rw [hk]; rfl
  show (pure (env.blockKind == .function && env.kindOf t == some .local && p.line == q.line && !(s.names.any fun (n, k) => n == t && (k == .local || k == .cell))) : Sem Bool) = _
  rw [hb]
  rfl
theorem agE_nosc {T : Tb} {a : I} {sc : Scope} {e : Expr} (h : agE T a sc e = true) : (∀ e' gs sc q, e ≠ .SetComp e' gs sc q) ∧ (∀ k v gs sc q, e ≠ .DictComp k v gs sc q) := by
  constructor
  · rintro e' gs s q rfl
    cases a <;> first | (simp [agE, agV, agK, mopArgs] at h; done) | (rename_i f es; cases f <;> simp [agE, opArgs, opArgs0] at h)
  · rintro k v gs s q rfl
    cases a <;> first | (simp [agE, agV, agK, mopArgs] at h; done) | (rename_i f es; cases f <;> simp [agE, opArgs, opArgs0] at h)
def isTupE : Expr → Bool
  | .Tuple _ _ _ => true
  | _ => false
def iopO : OpK → Option Operator
  | .add => some .Add | .sub => some .Sub | .mul => some .Mult | .fdv => some .FloorDiv | .mod => some .Mod
  | _ => none
def nof (fx : List Nat) (l : List Nat) : Bool := l.all fun i => !fx.contains i
theorem nof_of {fx l : List Nat} (h : nof fx l = true) : ∀ i ∈ l, i ∉ fx := fun i hi hf => by
  have := List.all_eq_true.mp h i hi
  simp [hf] at this
/-- a tuple display of constants alone is not stored from the right -/
def fldE : Expr → Bool
  | .Tuple vs _ _ => vs.all (foldedForSure 8)
  | _ => true
theorem sw_none {e t : Expr} {env : PySem.Env} (h : fldE e = true) : swappedStores [t] e env = pure none := by
  cases e with
  | Tuple vs k p =>
    have h : vs.all (foldedForSure 8) = true := h
    have key : ∀ ts : List Expr, (∀ x : Sem (Option (List Str)), ∀ (c1 c2 c3 : Bool), (if c1 = true then pure none else if c2 = true then pure none else if c3 = true then pure none else if vs.all (foldedForSure 8) = true then pure none else x) = pure none) := by
      intro ts x c1 c2 c3
      cases c1 <;> cases c2 <;> cases c3 <;> simp [h]
    cases t <;> first | rfl | exact key [] _ _ _ _
  | _ => cases t <;> rfl
/-- x, y = p, q is stored from the right -/
def isStar : Expr → Bool
  | .Starred _ _ => true
  | _ => false
def parC (sc : Scope) (x y : Str) (px py : Pos) (p q : Expr) : Bool := (px.line == py.line) && decide (x ≠ y) && decide (sc.names.lookup x = some .local) && decide (sc.names.lookup y = some .local) &&
  !isStar p && !isStar q && !(foldedForSure 8 p && foldedForSure 8 q) && !(constantsAlone 8 p && constantsAlone 8 q)
mutual
def agS (T : Tb) (fx : List Nat) (sc : Scope) : S → Stmt → Bool
  | .ex a, st => match st with
    | .Expr e _ => agE T a sc e && notComp e
    | _ => false
  | .set tg a, st => match st with
    | .Assign [t] e _ => agE T a sc e && agT T.N sc tg t && nof fx (tgSlots tg) && (match t with
      | .Name x p => (match swB sc e x p with
        | false => true
        | true => (match a with
          | .lc _ _ _ _ _ => true
          | _ => false))
      | _ => notComp e && fldE e)
    | _ => false
  | .aug i f a, st => match st with
    | .AugAssign (.Name x _) o e _ => decide (T.N[i]? = some x) && locC sc x && decide (iopO f = some o) && agE T a sc e && nof fx [i]
    | _ => false
  | .sput i ix a, st => match st with
    | .Assign [.Subscript o k p] e _ => agV T.N sc i o && agE T ix sc k && agE T a sc e && notComp e
    | _ => false
  | .dput i ix a, st => match st with
    | .Assign [.Subscript o k p] e _ => agV T.N sc i o && agE T ix sc k && agE T a sc e && notComp e
    | _ => false
  | .bad, _ => true
  | .par i j a b, st => match st with
    | .Assign [.Tuple [.Name x px, .Name y py] kt pt] (.Tuple [p, q] k2 pt2) _ => decide (T.N[i]? = some x) && decide (T.N[j]? = some y) && decide (i ≠ j) && parC sc x y px py p q && agE T a sc p && agE T b sc q && nof fx [i, j]
    | _ => false
  | .whl c b _, st => match st with
    | .While t body [] _ => agE T c sc t && tstE c && agB T fx sc b body
    | _ => false
  | .saug i ix f a, st => match st with
    | .AugAssign (.Subscript o k _) op e _ => agV T.N sc i o && agE T ix sc k && quiet ix && decide (iopO f = some op) && agE T a sc e
    | _ => false
  | .iff c a b, st => match st with
    | .If t p q _ => agE T c sc t && tstE c && agB T fx sc a p && agB T fx sc b q
    | _ => false
  | .for_ tg k es b _, st => match st with
    | .For t it body [] _ => agT T.N sc tg t && nof fx (tgSlots tg) && noSet it && (match itArgs k sc t it with
      | some l => agL T es sc l
      | none => false) && agB T fx sc b body
    | _ => false
  | .ret a, st => match st with
    | .Return (some e) _ => agE T a sc e
    | _ => false
  | .retN, st => match st with
    | .Return none _ => true
    | _ => false
  | .brk, st => match st with
    | .Break _ => true
    | _ => false
  | .cnt, st => match st with
    | .Continue _ => true
    | _ => false
  | _, _ => false
def agB (T : Tb) (fx : List Nat) (sc : Scope) : S → List Stmt → Bool
  | .pass, [] => true
  | .seq a b, st :: r => agS T fx sc a st && agB T fx sc b r
  | _, _ => false
end

/-! ### items of lists -/
section
variable {X : Cx}
theorem PSet.or {r r' : TSet} (h : PSet X r) (h' : PSet X r') : PSet X (fun o i v H Q => r o i v H Q ∨ r' o i v H Q) := by
  intro pins s σ H o i v ov iv u Q I ro ri rv q
  rcases q with q | q
  · exact h pins s σ H o i v ov iv u Q I ro ri rv q
  · exact h' pins s σ H o i v ov iv u Q I ro ri rv q
theorem get_list : PGet X (rIxL X.K) := by
  intro pins s σ H x y v u Q I rx ry h
  obtain ⟨p, xs, i, z, rfl, rfl, hq, he, q⟩ := h
  cases rx
  obtain ⟨t, rfl⟩ := ry
  obtain ⟨its, r, pl, hz⟩ := I.list hq
  obtain ⟨j, h1, h2, h3, h4, h5⟩ := atI_get he
  obtain ⟨w, ew, rw'⟩ := r.get h2
  have hl := r.length
  have hn := line63
  have fin : EP X pins σ Q w s := ⟨z, H, I, rw', q⟩
  by_cases h0 : 0 ≤ i
  · have hj : i.toNat = j := by
      rw [seqIndex_of h0 h5] at h1
      exact Option.some.inj h1
    exact wpAny_getItem_list (Q := EP X pins σ Q) pl.isList h0 (by omega) (by rw [hj]; simpa using ew) fin
  · have hj : (i + (its.toArray.size : Int)).toNat = j := by
      rw [seqIndex_neg (by omega) h4] at h1
      rw [List.size_toArray, ← hl]
      exact Option.some.inj h1
    exact wpAny_getItem_list_neg (Q := EP X pins σ Q) pl.isList (by omega) (by rw [List.size_toArray] <;> omega) (by omega) (by rw [hj]; simpa using ew) fin
theorem r_iop {f : OpK} {o : Operator} (h : iopO f = some o) : OpR X (inplaceOp o) (fun x y H Q => ∃ i j n, x = .int i ∧ y = .int j ∧ opD f [.int i, .int j] = some (.int n) ∧ Q (.int n) H) := by
  cases f <;> first | (cases h; done) | skip
  all_goals cases h
  · exact OpR.imp iop_add fun x y H Q ⟨i, j, n, e1, e2, ho, q⟩ => by
      have : n = i + j := by simp only [opD, oAdd] at ho; cases ho; rfl
      subst this
      exact ⟨i, j, e1, e2, q⟩
  · exact OpR.imp iop_sub fun x y H Q ⟨i, j, n, e1, e2, ho, q⟩ => by
      have : n = i - j := by simp only [opD, oSub] at ho; cases ho; rfl
      subst this
      exact ⟨i, j, e1, e2, q⟩
  · exact OpR.imp (opI (C := mulOk) (g := fun i j => i * j) fun _ _ _ _ _ _ _ hc q => imul_int q (mulOk_ok hc)) fun x y H Q ⟨i, j, n, e1, e2, ho, q⟩ => by
      simp only [opD, oMul] at ho
      split at ho
      · rename_i hj
        cases ho
        exact ⟨i, j, e1, e2, hj, q⟩
      · cases ho
  · exact OpR.imp iop_fdivW fun x y H Q ⟨i, j, n, e1, e2, ho, q⟩ => by
      simp only [opD, oFdv] at ho
      split at ho
      · rename_i hj
        cases ho
        exact ⟨i, j, e1, e2, hj, q⟩
      · cases ho
  · exact OpR.imp iop_mod fun x y H Q ⟨i, j, n, e1, e2, ho, q⟩ => by
      simp only [opD, oMod] at ho
      split at ho
      · rename_i hj
        cases ho
        exact ⟨i, j, e1, e2, hj, q⟩
      · cases ho
end
end Vm

set_option Elab.async false
set_option linter.all false
set_option maxRecDepth 100000
set_option maxHeartbeats 8000000
/-! V20: statements: the theorem. -/
namespace Vm
open PySem PySem.Spec PyProof.Rows L2

structure CxS (T : Tb) (G : Gs) (k : Nat) (EX : XR) (CX : CXT) (E : XK) (X : Cx) (sc : Scope) : Prop where
  ex : CxE T G k EX CX E X sc
  own : PassesOwn (model X.prog X.w) X.A X.env X.xe
  fnt : ∀ x, X.fn x = true
  kind : sc.kind = .function
section
variable {T : Tb} {G : Gs} {k : Nat} {EX : XR} {CX : CXT} {E : XK} {fx : List Nat} {X : Cx} {sc : Scope}
theorem CxS.tg (C : CxS T G k EX CX E X sc) {tg : Tg} {t : Expr} (h : agT T.N sc tg t = true) : PG X t (gTg X.K tg) :=
  tg_rule C.ex.ok (scT := sc) (fun x hx => ⟨by rw [C.ex.ok.sc]; exact loc_of hx, .inl (C.fnt x)⟩) tg t h
theorem notComp_sw {e : Expr} (h : notComp e = true) (t : Option Expr) (l : Nat) (env : PySem.Env) : swapsWith e t l env = pure false := by
  cases e <;> first | rfl | cases h
theorem notComp_sole {e t : Expr} (h : notComp e = true) {l : Nat} {env : PySem.Env} : swapsWithSole [t] e l env = pure false := by
  unfold swapsWithSole
  exact notComp_sw h _ _ _
theorem uA_sub {A : Nat → Addr → Prop} {i : Nat} {B : Addr → Prop} {b : Addr} (h : W (uA A i B) b) : W A b ∨ B b := by
  obtain ⟨j, h⟩ := h
  by_cases hj : j = i
  · subst hj; rw [uA_same] at h; exact .inr h
  · rw [uA_ne hj] at h; exact .inl ⟨j, h⟩
theorem s_ex (C : CxS T G k EX CX E X sc) {a : I} {e : Expr} {pos : Pos} (h : agE T a sc e = true) (hc : notComp e = true) : PS X (.Expr e pos) (tS G X.K EX E fx (.ex a)) := by
  refine PS.mono (ps_expr (e_ok a C.ex e h) (notComp_sw hc _ _ _)) fun σ H D ⟨Z, en, A, R, hh⟩ => ?_
  unfold exe at hh
  refine ⟨Z, en, A, R, Ans.bnd hh fun o e1 _ h1 => ?_⟩
  intro v H1 Z1 A1 B R1 s1 ro dj nz
  exact h1 σ H1 Z1 A1 R1 (s1.less fun b w => .inl w) Fix.refl
theorem s_ret (C : CxS T G k EX CX E X sc) {a : I} {e : Expr} {pos : Pos} (h : agE T a sc e = true) : PS X (.Return (some e) pos) (tS G X.K EX E fx (.ret a)) := by
  refine PS.mono (ps_ret (e_ok a C.ex e h)) fun σ H D ⟨Z, en, A, R, hh⟩ => ?_
  unfold exe at hh
  refine ⟨Z, en, A, R, Ans.bnd hh fun o e1 _ h1 => ?_⟩
  intro v H1 Z1 A1 B R1 s1 ro dj nz
  exact h1 σ v H1 Z1 A1 B R1 s1 ro dj nz Fix.refl
theorem s_retN (C : CxS T G k EX CX E X sc) {pos : Pos} : PS X (.Return none pos) (tS G X.K EX E fx .retN) := by
  refine PS.mono ps_retN fun σ H D ⟨Z, en, A, R, hh⟩ => ?_
  unfold exe at hh
  exact hh σ .non H Z A noA R (Stp.refl.less fun b w => w.elim id fun z => z.elim) ⟨rd_non.mpr rfl, fun _ z => z⟩ (fun _ _ _ z => z) (fun _ z => z.elim) Fix.refl
/-- a value stored under a name -/
theorem st_name {K : PySem.W.Frag} {H : Hp} {Z : Addr → Prop} {A : Nat → Addr → Prop} {σ : L2.St} {D : Ends} {i : Nat} {o : O} {e1 : Env} {Q : VK} (hi : i ∉ fx)
    (h1 : AnS K EX E fx H Z A σ (if i < e1.length then .nx (e1.set i (some o)) else .st) D) (hq : ∀ v H', D.nx (σ.set i (some v)) H' → Q v H') : AfO K H Z A σ Q o e1 := by
  intro v H1 Z1 A1 B R1 s1 ro dj nz
  split at h1
  · rename_i hl
    refine hq v H1 (h1 _ H1 Z1 _ (R1.set ro dj nz hl) (s1.less fun b w => uA_sub w) (Fix.set hi))
  · exact h1.elim
theorem s_setN (C : CxS T G k EX CX E X sc) {a : I} {e : Expr} {pos p : Pos} {i : Nat} {x : Str} (h : agE T a sc e = true) (ht : agT T.N sc (.n i) (.Name x p) = true) (hf : nof fx [i] = true) (hs : swB sc e x p = false) :
    PS X (.Assign [.Name x p] e pos) (tS G X.K EX E fx (.set (.n i) a)) := by
  simp only [agT, Bool.and_eq_true, decide_eq_true_eq] at ht
  have nosc := agE_nosc h
  have hk : X.env.scope.kind = .function := by rw [C.ex.ok.sc]; exact C.kind
  refine PS.mono (ps_set (by rw [C.ex.ok.hN]; exact C.ex.ok.nd) (by rw [C.ex.ok.hN]; exact ht.1) (by rw [C.ex.ok.sc]; exact loc_of ht.2) (e_ok a C.ex e h) (by rw [swB_of hk nosc.1 nosc.2, C.ex.ok.sc, hs]) (.inl (C.fnt x))) fun σ H D ⟨Z, en, A, R, hh⟩ => ?_
  unfold exe at hh
  refine ⟨Z, en, A, R, Ans.bnd hh fun o e1 _ h1 => ?_⟩
  exact st_name (nof_of hf i (List.mem_singleton.mpr rfl)) h1 fun v H' q => q
theorem s_setLC (C : CxS T G k EX CX E X sc) {elt : I} {tg : Tg} {kk : ItK} {es ifs : I} {e : Expr} {pos p : Pos} {i : Nat} {x : Str} (h : agE T (.lc elt tg kk es ifs) sc e = true) (ht : agT T.N sc (.n i) (.Name x p) = true) (hf : nof fx [i] = true) (hs : swB sc e x p = true) :
    PS X (.Assign [.Name x p] e pos) (tS G X.K EX E fx (.set (.n i) (.lc elt tg kk es ifs))) := by
  simp only [agT, Bool.and_eq_true, decide_eq_true_eq] at ht
  have nosc := agE_nosc h
  have hk : X.env.scope.kind = .function := by rw [C.ex.ok.sc]; exact C.kind
  simp only [agE] at h
  split at h
  · rename_i y t it fs z scope p'
    simp only [Bool.and_eq_true, decide_eq_true_eq] at h
    obtain ⟨⟨⟨⟨⟨⟨⟨⟨rfl, h1⟩, h2⟩, h3⟩, h4⟩, h5⟩, h6⟩, h7⟩, h8⟩ := h
    split at h4
    · rename_i l hl
      have hyl : sc.names.lookup x = some .local := by
        unfold swB at hs
        simp only [Bool.and_eq_true, beq_iff_eq] at hs
        exact hs.1.1
      refine PS.mono (s_setLc C.ex.ok h1 h2 h3 hl (eV_ok es C.ex l h4) (fun s H cc cl fp => e_ok elt (C.ex.blk s H scope cc cl fp) y h5) (fun s H cc cl fp => eTs_ok ifs (C.ex.blk s H scope cc cl fp) fs h6 h7 h8) ht.1 hyl (by rw [swB_of hk nosc.1 nosc.2, C.ex.ok.sc, hs])) fun σ H D ⟨Z, en, A, R, hh⟩ => ?_
      unfold exe at hh
      refine ⟨Z, en, A, R, Ans.bnd hh fun o e1 _ h1 => ?_⟩
      exact st_name (nof_of hf i (List.mem_singleton.mpr rfl)) h1 fun v H' q => q
    · cases h4
  · cases h
theorem s_setT (C : CxS T G k EX CX E X sc) {a : I} {e : Expr} {pos p : Pos} {tg : Tg} {ts : List Expr} {kk : Nat} (h : agE T a sc e = true) (ht : agT T.N sc tg (.Tuple ts kk p) = true) (hf : nof fx (tgSlots tg) = true) (hc : notComp e = true) (hn : fldE e = true) :
    PS X (.Assign [.Tuple ts kk p] e pos) (tS G X.K EX E fx (.set tg a)) := by
  refine PS.mono (ps_asg (e_ok a C.ex e h) (C.tg ht) (notComp_sole hc) (sw_none hn) rfl) fun σ H D ⟨Z, en, A, R, hh⟩ => ?_
  unfold exe at hh
  refine ⟨Z, en, A, R, Ans.bnd hh fun o e1 _ h1 => ?_⟩
  intro v H1 Z1 A1 B R1 s1 ro dj nz
  cases tg with
  | n i => simp [agT] at ht
  | nil => simp [agT] at ht
  | cons b c =>
    dsimp only at h1
    split at h1
    · rename_i e2 he2
      refine ⟨_, e1, A1, o.toD, e2, R1.frzB ro dj, ro.toRD, he2, fun σ' A' R' sb off => ?_⟩
      exact h1 σ' H1 _ A' R' (s1.frzB.less fun b ⟨j, a⟩ => ⟨j, sb j b a⟩) (Fix.off off (nof_of hf))
    · exact h1.elim
theorem iop_int {f : OpK} {op : Operator} {n m : Int} {o : O} (ho : iopO f = some op) (hm : opD f [.int n, o.toD] = some (.int m)) : ∃ j, o = .d (.int j) := by
  cases o with
  | d d => cases d <;> first | exact ⟨_, rfl⟩ | (exfalso; revert hm; cases f <;> first | (cases ho; done) | (simp [opD, oAdd, oSub, oMul, oFdv, oMod, O.toD]))
  | lst _ => exfalso; revert hm; cases f <;> first | (cases ho; done) | (simp [opD, oAdd, oSub, oMul, oFdv, oMod, O.toD])
  | dct _ => exfalso; revert hm; cases f <;> first | (cases ho; done) | (simp [opD, oAdd, oSub, oMul, oFdv, oMod, O.toD])
theorem s_aug (C : CxS T G k EX CX E X sc) {a : I} {e : Expr} {pos p : Pos} {i : Nat} {x : Str} {f : OpK} {op : Operator} (h : agE T a sc e = true) (hN : T.N[i]? = some x) (hl : locC sc x = true) (ho : iopO f = some op) (hf : nof fx [i] = true) :
    PS X (.AugAssign (.Name x p) op e pos) (tS G X.K EX E fx (.aug i f a)) := by
  refine PS.mono (ps_aug (by rw [C.ex.ok.hN]; exact C.ex.ok.nd) (by rw [C.ex.ok.hN]; exact hN) (by rw [C.ex.ok.sc]; exact loc_of hl) (e_ok a C.ex e h) (r_iop ho) (.inl (C.fnt x))) fun σ H D ⟨Z, en, A, R, hh⟩ => ?_
  unfold exe at hh
  split at hh
  · rename_i n hi
    obtain ⟨v, hv, r⟩ := R.rep i _ hi
    refine ⟨v, hv, Z, en, A, R, ?_⟩
    refine Ans.bnd hh fun o e1 _ h1 => ?_
    intro y H1 Z1 A1 B R1 s1 ro dj nz
    split at h1
    · rename_i m hm
      obtain ⟨j, rfl⟩ := iop_int ho hm
      refine ⟨n, j, m, rd_int.mp r.1, ro_int ro, hm, ?_⟩
      have hlt : i < e1.length := by rw [R1.len, ← R.len]; exact (List.getElem?_eq_some_iff.mp hi).1
      exact h1 _ H1 Z1 _ (R1.setD (rd_int.mpr rfl) hlt) (s1.less fun b w => (uA_sub w).elim .inl fun z => z.elim) (Fix.set (nof_of hf i (List.mem_singleton.mpr rfl)))
    · exact h1.elim
  · exact hh.elim
theorem asg_sub {o i : Expr} {p : Pos} {env : PySem.Env} (h : ∀ a b c d, i ≠ .Slice a b c d) (h2 : True) : ∀ v, assign (.Subscript o i p) env v = (do
      let ov ← holding [v] (eval o env)
      let iv ← holding [v, ov] (eval i env)
      standAt p
      holding [v, ov, iv] (setItem ov iv v)
      release [v, ov, iv] []) := by
  intro v
  cases i <;> first | rfl | exact absurd rfl (h _ _ _ _)
theorem plain_sl {e : Expr} (h : plainH e = true) : ∀ a b c d, e ≠ .Slice a b c d := by
  rintro a b c d rfl
  cases h
theorem s_sput (C : CxS T G k EX CX E X sc) {ix a : I} {o kx e : Expr} {pos p : Pos} {i : Nat} (hv : agV T.N sc i o = true) (hk : agE T ix sc kx = true) (h : agE T a sc e = true) (hc : notComp e = true) (hf : nof fx [] = true) :
    PS X (.Assign [.Subscript o kx p] e pos) (tS G X.K EX E fx (.sput i ix a)) := by
  refine PS.mono (ps_asg (e_ok a C.ex e h) (pg_sub (var_rule C.ex.ok hv) (e_ok ix C.ex kx hk) set_list (asg_sub (plain_sl (agE_plain hk)) trivial)) (notComp_sole hc) (by cases e <;> rfl) rfl) fun σ H D ⟨Z, en, A, R, hh⟩ => ?_
  unfold exe at hh
  refine ⟨Z, en, A, R, Ans.bnd hh fun ov e1 _ h1 => ?_⟩
  intro v H1 Z1 A1 B R1 s1 ro dj nz
  split at h1
  · rename_i xs0 hi
    have R1f := R1.frzB ro dj
    obtain ⟨w, hw, rw'⟩ := R1f.rep i _ hi
    have h1' : AnS X.K EX E fx H1 (fun b => Z1 b ∨ B b) A1 σ _ D := AnS.move (A1 := A1) h1 s1.frzB (fun b w => w) Fix.refl
    refine ⟨w, hw, _, e1, A1, R1f, Ans.bnd h1' fun oi e2 _ h2 => ?_⟩
    intro u H2 Z2 A2 B2 R2 s2 ro2 dj2 nz2
    split at h2
    · rename_i xs n hi2 _
      split at h2
      · rename_i j hj
        have r2 : RO X.K H2 Z2 (.lst xs) w (A2 i) := R2.val (H' := H2) (Z' := Z2) (A' := A2) (e' := e2) hi2 hw
        obtain ⟨b, ws, rfl, hb, rx, hA⟩ := r2
        have s2' : Stp H1 (fun b => Z1 b ∨ B b) (W A1) H2 Z2 (W A2) := s2.less fun b w => .inl w
        have rv : RD X.K H2 Z2 ov.toD v := RD.still (R1f.still s2') ro.toRD
        refine ⟨b, ws, n, j, rfl, ro_int ro2, hb, by rw [← rx.length]; exact hj, ?_⟩
        obtain ⟨R3, s3, _⟩ := R2.mutd hi2 hw hb (rx.set j rv)
        exact h2 σ _ Z2 _ R3 (s2'.trans s3) Fix.refl
      · exact h2.elim
    · exact h2.elim
  · exact h1.elim
theorem aug_store {o iv new : Value} {kx : Expr} (h : ∀ a b c d, kx ≠ .Slice a b c d) : augStore kx o iv new = (do holding [new, o, iv] (setItem o iv new); release [new, o, iv] []; pure .next) := by
  cases kx <;> first | rfl | exact absurd rfl (h _ _ _ _)
theorem s_saug (C : CxS T G k EX CX E X sc) {ix a : I} {o kx e : Expr} {pos p : Pos} {i : Nat} {f : OpK} {op : Operator} (hv : agV T.N sc i o = true) (hk : agE T ix sc kx = true) (hq : quiet ix = true) (ho : iopO f = some op) (h : agE T a sc e = true) :
    PS X (.AugAssign (.Subscript o kx p) op e pos) (tS G X.K EX E fx (.saug i ix f a)) := by
  refine PS.mono (ps_augS (var_rule C.ex.ok hv) (q_ok ix C.ex.ok false kx hk hq) get_list (e_ok a C.ex e h) (r_iop ho) set_list (fun _ _ _ => aug_store (plain_sl (agE_plain hk)))) fun σ H D ⟨Z, en, A, R, hh⟩ => ?_
  unfold exe at hh
  split at hh
  · rename_i xs0 hi
    split at hh
    · rename_i n hn
      split at hh
      · rename_i vv hat
        obtain ⟨w, hw, r0⟩ := R.rep i _ hi
        obtain ⟨b, ws, rfl, hb, rx, hA⟩ := r0
        refine ⟨_, hw, Z, en, A, .int n, R, hn, fun y H1 Z1 g1 zd1 rv _ => ?_⟩
        obtain rfl := rv_int.mp rv
        have R1 := R.grow g1 zd1
        obtain ⟨j0, hj0, hatI⟩ := at_atI hat rx.length
        obtain ⟨z, hz, rz⟩ := rx.get hj0
        refine ⟨b, ws, n, z, rfl, rfl, SqL.of (g1.same _ _ hb), hatI z hz, ?_⟩
        obtain rfl := rd_int.mp rz
        have hh' : AnS X.K EX E fx H1 Z1 A σ _ D := AnS.move (A1 := A) hh g1.stp (fun b w => w) Fix.refl
        refine ⟨Z1, en, A, R1, Ans.bnd hh' fun ov e1 _ h1 => ?_⟩
        intro u H2 Z2 A2 B2 R2 s2 ro2 dj2 nz2
        split at h1
        · rename_i m xs hm hi2
          split at h1
          · rename_i j hj
            obtain ⟨jj, rfl⟩ := iop_int ho hm
            refine ⟨vv, jj, m, rfl, ro_int ro2, hm, ?_⟩
            have r2 : RO X.K H2 Z2 (.lst xs) (.ref b) (A2 i) := R2.val (H' := H2) (Z' := Z2) (A' := A2) (e' := e1) hi2 hw
            obtain ⟨b', ws2, eb, hb2, rx2, hA2⟩ := r2
            cases eb
            refine ⟨b, ws2, n, j, rfl, rfl, hb2, by rw [← rx2.length]; exact hj, ?_⟩
            obtain ⟨R3, s3, _⟩ := R2.mutd hi2 hw hb2 (rx2.set j (rd_int.mpr rfl))
            have s2' : Stp H1 Z1 (W A) H2 Z2 (W A2) := s2.less fun b w => .inl w
            exact h1 σ _ Z2 _ R3 (s2'.trans s3) Fix.refl
          · exact h1.elim
        · exact h1.elim
      · exact hh.elim
    · exact hh.elim
  · exact hh.elim
theorem RKs.app {K : PySem.W.Frag} {H : Hp} {Z : Addr → Prop} : ∀ {ds es : List (D × D)} {ks ls : List (Key × V)}, RKs K H Z ds ks → RKs K H Z es ls → RKs K H Z (ds ++ es) (ks ++ ls)
  | [], es, ks, ls, h, g => by rw [RKs.nil_iff.mp h]; exact g
  | d :: ds, es, ks, ls, h, g => by
    obtain ⟨k, v, r, e, hk, a, b⟩ := RKs.cons_iff.mp h
    subst e
    exact RKs.cons_iff.mpr ⟨k, v, r ++ ls, rfl, hk, a, RKs.app b g⟩
theorem RKs.any {K : PySem.W.Frag} {H : Hp} {Z : Addr → Prop} (kk : DK) : ∀ {ds : List (D × D)} {ks : List (Key × V)}, RKs K H Z ds ks → (ds.any fun p => decide (keyD p.1 = some kk)) = ks.any fun kv => decide (kv.1 = toK kk)
  | [], ks, h => by rw [RKs.nil_iff.mp h]; rfl
  | d :: ds, ks, h => by
    obtain ⟨k, v, r, e, hk, a, b⟩ := RKs.cons_iff.mp h
    subst e
    rw [List.any_cons, List.any_cons, RKs.any kk b, hk]
    congr 1
    by_cases c : k = kk
    · subst c; simp
    · rw [decide_eq_false (fun z => c (Option.some.inj z)), decide_eq_false (fun z => c (toK_inj z))]
theorem RKs.rep {K : PySem.W.Frag} {H : Hp} {Z : Addr → Prop} (kk : DK) {d : D} {v : V} (r : RD K H Z d v) : ∀ {ds : List (D × D)} {ks : List (Key × V)}, RKs K H Z ds ks →
    RKs K H Z (ds.map fun p => if keyD p.1 = some kk then (p.1, d) else p) (ks.map fun kv => if kv.1 = toK kk then (kv.1, v) else kv)
  | [], ks, h => by rw [RKs.nil_iff.mp h]; exact RKs.nil_iff.mpr rfl
  | p :: ds, ks, h => by
    obtain ⟨k, w, l, e, hk, a, b⟩ := RKs.cons_iff.mp h
    subst e
    rw [List.map_cons, List.map_cons]
    by_cases c : k = kk
    · subst c
      rw [if_pos hk, if_pos rfl]
      exact RKs.cons_iff.mpr ⟨k, v, _, rfl, hk, r, RKs.rep k r b⟩
    · rw [if_neg (fun z => c (Option.some.inj (hk.symm.trans z))), if_neg (fun z => c (toK_inj z))]
      exact RKs.cons_iff.mpr ⟨k, w, _, rfl, hk, a, RKs.rep kk r b⟩
theorem RKs.put {K : PySem.W.Frag} {H : Hp} {Z : Addr → Prop} {ds : List (D × D)} {ks : List (Key × V)} {x d : D} {kk : DK} {v : V} (h : RKs K H Z ds ks) (hk : keyD x = some kk) (r : RD K H Z d v) : RKs K H Z (putD ds x kk d) (putK ks (toK kk) v) := by
  unfold putD putK
  rw [RKs.any kk h]
  by_cases c : (ks.any fun kv => decide (kv.1 = toK kk)) = true
  · rw [if_pos c, if_pos c]; exact RKs.rep kk r h
  · rw [if_neg c, if_neg c]; exact h.app (RKs.cons_iff.mpr ⟨kk, v, [], rfl, hk, r, RKs.nil_iff.mpr rfl⟩)
/-- .. of a dict -/
theorem ER.mutk {K : PySem.W.Frag} {H : Hp} {Z : Addr → Prop} {σ : L2.St} {e : Env} {A : Nat → Addr → Prop} {i : Nat} {xs xs' : List (D × D)} {a : Addr} {us ws : List (Key × V)} (R : ER K H Z σ e A) (ho : e[i]? = some (some (.dct xs))) (hv : σ[i]? = some (some (.ref a))) (ha : H a = some (.dK ws)) (r : RKs K H Z xs' us) :
    ER K (upd H a (.dK us)) Z σ (e.set i (some (.dct xs'))) (uA A i (fun b => b = a)) ∧ Stp H Z (W A) (upd H a (.dK us)) Z (W (uA A i (fun b => b = a))) ∧ Still H Z (upd H a (.dK us)) Z := by
  have r0 := R.val (H' := H) (Z' := Z) (A' := A) (e' := e) ho hv
  obtain ⟨p, w0, e1, h1, h2, h3⟩ := r0
  cases e1
  have za : ¬ Z a := R.nz i a ((h3 a).mpr rfl)
  have st : Still H Z (upd H a (.dK us)) Z := ⟨fun b o h z => by rw [upd_ne (fun q : b = a => za (q ▸ z))]; exact h, fun b o h n => by
    rw [upd_ne (fun q : b = a => ?_)]
    · exact h
    · rw [q, ha] at h
      cases h
      exact n trivial, fun _ z => z⟩
  have s : Stp H Z (A i) (upd H a (.dK us)) Z (fun b => b = a) := ⟨fun b o h n => by rw [upd_ne (fun q : b = a => n ((h3 b).mpr q))]; exact h, fun b h n => by
    by_cases q : b = a
    · rw [q, upd_same] at n; cases n
    · rw [upd_ne q] at n; exact h n, fun _ z => z, fun _ z => .inl z, fun b q => .inl ((h3 b).mpr q)⟩
  refine ⟨R.chg hv ho s ⟨a, us, rfl, upd_same, RKs.still st r, fun _ => Iff.rfl⟩ (fun b q z => za (q ▸ z)) fun b z => ?_, R.stpChg s, st⟩
  rw [upd_ne (fun q : b = a => za (q ▸ z))]
  exact R.zd b z
theorem notComp_one {e : Expr} (h : notComp e = true) {t : Expr} {l : Nat} {env : PySem.Env} : swapsWith e (some t) l env = pure false := notComp_sw h (some t) l env
theorem s_dput (C : CxS T G k EX CX E X sc) {ix a : I} {o kx e : Expr} {pos p : Pos} {i : Nat} (hv : agV T.N sc i o = true) (hk : agE T ix sc kx = true) (h : agE T a sc e = true) (hc : notComp e = true) :
    PS X (.Assign [.Subscript o kx p] e pos) (tS G X.K EX E fx (.dput i ix a)) := by
  have hu : X.A.units + 1 < cLine := by have := C.ex.ok.hu; omega
  refine PS.mono (ps_dput hu (var_rule C.ex.ok hv) (e_ok ix C.ex kx hk) (e_ok a C.ex e h) (notComp_one hc)) fun σ H D ⟨Z, en, A, R, hh⟩ => ?_
  unfold exe at hh
  refine ⟨Z, en, A, R, Ans.bnd hh fun ov e1 _ h1 => ?_⟩
  intro v H1 Z1 A1 B R1 s1 ro dj nz
  split at h1
  · rename_i xs0 hi
    have R1f := R1.frzB ro dj
    obtain ⟨w, hw, rw'⟩ := R1f.rep i _ hi
    have h1' : AnS X.K EX E fx H1 (fun b => Z1 b ∨ B b) A1 σ _ D := AnS.move (A1 := A1) h1 s1.frzB (fun b w => w) Fix.refl
    refine ⟨w, hw, _, e1, A1, R1f, Ans.bnd h1' fun oi e2 _ h2 => ?_⟩
    intro u H2 Z2 A2 B2 R2 s2 ro2 dj2 nz2
    split at h2
    · rename_i kvs kd hi2 _
      split at h2
      · rename_i kk hkk
        split at h2
        · rename_i hlt
          have r2 : RO X.K H2 Z2 (.dct kvs) w (A2 i) := R2.val (H' := H2) (Z' := Z2) (A' := A2) (e' := e2) hi2 hw
          obtain ⟨b, ws, rfl, hb, rx, hA⟩ := r2
          have s2' : Stp H1 (fun b => Z1 b ∨ B b) (W A1) H2 Z2 (W A2) := s2.less fun b w => .inl w
          have rv : RD X.K H2 Z2 ov.toD v := RD.still (R1f.still s2') ro.toRD
          have hy : u = kV (toK kk) := key_v hkk (by
            have := ro2.1
            cases kd <;> first | exact this | cases hkk)
          subst hy
          obtain ⟨R3, s3, _⟩ := R2.mutk hi2 hw hb (rx.put hkk rv)
          exact ⟨b, _, rfl, DPut.k hb (by rw [← rx.length, ← big_line]; exact hlt), h2 σ _ Z2 _ R3 (s2'.trans s3) Fix.refl⟩
        · exact h2.elim
      · exact h2.elim
    · exact h2.elim
  · exact h1.elim
theorem par_sw {env : PySem.Env} {x y : Str} {px py pt pt2 : Pos} {p q : Expr} (hk : env.scope.kind = .function) (h : parC env.scope x y px py p q = true) {kt k2} :
    swappedStores [.Tuple [.Name x px, .Name y py] kt pt] (.Tuple [p, q] k2 pt2) env = pure (some [x, y]) := by
  unfold parC at h
  simp only [Bool.and_eq_true, decide_eq_true_eq, Bool.not_eq_true', Bool.and_eq_false_iff, beq_iff_eq] at h
  obtain ⟨⟨⟨⟨⟨⟨⟨h1, h2⟩, h3⟩, h4⟩, h5⟩, h6⟩, h7⟩, h8⟩ := h
  have hb : env.blockKind = .function := by unfold PySem.Env.blockKind; rw [hk]; rfl
  have hs : ([p, q].any fun | .Starred .. => true | _ => false) = false := by
    cases p <;> first | (cases h5; done) | (cases q <;> first | (cases h6; done) | rfl)
  have hn : (List.filterMap (fun | .Name id pos => if env.kindOf id == some .local && pos.line == px.line then some id else none | _ => none) [Expr.Name x px, .Name y py]) = [x, y] := by
    simp [PySem.Env.kindOf, h3, h4, h1]
  have he : ([x, y] : List Str).eraseDups.length = 2 := by
    simp [List.eraseDups_cons, List.eraseDups_nil, Ne.symm h2, h2]
  have f1 : [p, q].all (foldedForSure 8) = false := by
    rcases h7 with z | z <;> simp [z]
  have f2 : [p, q].all (constantsAlone 8) = false := by
    rcases h8 with z | z <;> simp [z]
  unfold swappedStores
  simp only [hb]
  refine (if_neg (fun z => Bool.noConfusion (show false = true from z))).trans ?_
  refine (if_neg (fun z => absurd (hs.symm.trans z) (by decide))).trans ?_
  have key : ∀ names : List Str, names = [x, y] → (if (names.length != [Expr.Name x px, .Name y py].length || names.eraseDups.length != names.length) = true then (pure none : Sem (Option (List Str))) else if [p, q].all (foldedForSure 8) = true then pure none else do
      if [p, q].all (constantsAlone 8) = true then unsupported "assign.tuple-of-constant-expressions:order-of-the-stores"
      pure (some names)) = pure (some [x, y]) := by
    rintro _ rfl
    rw [if_neg (by rw [he]; exact fun z => Bool.noConfusion (show false = true from z)), if_neg (by rw [f1]; decide), if_neg (by rw [f2]; decide)]
  exact key _ hn
theorem s_par (C : CxS T G k EX CX E X sc) {i j : Nat} {a b : I} {x y : Str} {px py pt pt2 pos : Pos} {p q : Expr} {kt k2} (hi : T.N[i]? = some x) (hj : T.N[j]? = some y) (hij : i ≠ j) (hp : parC sc x y px py p q = true) (ha : agE T a sc p = true) (hb : agE T b sc q = true) (hf : nof fx [i, j] = true) :
    PS X (.Assign [.Tuple [.Name x px, .Name y py] kt pt] (.Tuple [p, q] k2 pt2) pos) (tS G X.K EX E fx (.par i j a b)) := by
  have hk : X.env.scope.kind = .function := by rw [C.ex.ok.sc]; exact C.kind
  have hpc : parC X.env.scope x y px py p q = true := by rw [C.ex.ok.sc]; exact hp
  have hpar := par_sw (kt := kt) (k2 := k2) (pt := pt) (pt2 := pt2) hk hpc
  have hl : sc.names.lookup x = some .local ∧ sc.names.lookup y = some .local := by
    unfold parC at hp
    simp only [Bool.and_eq_true, decide_eq_true_eq] at hp
    exact ⟨hp.1.1.1.1.1.2, hp.1.1.1.1.2⟩
  have hv : PEL X [p, q] (tV G X.K EX E (.cons a (.cons b .nil))) := eV_ok _ C.ex _ (by simp only [agL, ha, hb, Bool.and_true])
  refine PS.mono (ps_par C.ex.ok.calm (by rw [C.ex.ok.hN]; exact C.ex.ok.nd) (by rw [C.ex.ok.hN]; exact hi) (by rw [C.ex.ok.hN]; exact hj) hij (by rw [C.ex.ok.sc]; exact hl.1) (by rw [C.ex.ok.sc]; exact hl.2) hv.pa hpar rfl) fun σ H D ⟨Z, en, A, R, hh⟩ => ?_
  unfold exe at hh
  refine chainV R (Ans.bnd hh fun ds e1 _ h1 => ?_)
  intro vs H1 Z1 A1 R1 s1 rx
  split at h1
  · rename_i d1 d2
    split at h1
    · rename_i hlt
      obtain ⟨v, r, rfl, r1, rx⟩ := RDs.cons_iff.mp rx
      obtain ⟨w, r', rfl, r2, rx⟩ := RDs.cons_iff.mp rx
      rw [RDs.nil_iff.mp rx]
      refine ⟨v, w, rfl, ?_⟩
      have R2 := R1.setD r1 hlt.1
      have R3 := R2.setD (i := j) r2 (by rw [List.length_set]; exact hlt.2.1)
      refine h1 _ H1 Z1 _ R3 (s1.less fun b w => ?_) ?_
      · exact (uA_sub w).elim (fun w => (uA_sub w).elim (fun w => w) fun z => z.elim) fun z => z.elim
      · exact Fix.trans (Fix.set (nof_of hf i (by simp))) (Fix.set (nof_of hf j (by simp)))
    · exact h1.elim
  · exact h1.elim
theorem s_iff {c : I} {a b : S} {t : Expr} {p q : List Stmt} {pos : Pos} (ht : PT X t (tEF X.K EX E (evT G c))) (ha : PSs X p (tS G X.K EX E fx a)) (hb : PSs X q (tS G X.K EX E fx b)) : PS X (.If t p q pos) (tS G X.K EX E fx (.iff c a b)) := by
  refine PS.mono (ps_if ht ha hb) fun σ H D ⟨Z, en, A, R, hh⟩ => ?_
  unfold exe at hh
  refine ⟨Z, en, A, R, Ans.bnd hh fun t e1 _ h1 => ?_⟩
  intro H1 Z1 A1 R1 s1
  cases t with
  | true => exact iteT ⟨Z1, e1, A1, R1, AnS.move (A1 := A1) h1 s1 (fun b w => w) Fix.refl⟩
  | false => exact iteF ⟨Z1, e1, A1, R1, AnS.move (A1 := A1) h1 s1 (fun b w => w) Fix.refl⟩
theorem s_for (C : CxS T G k EX CX E X sc) {tg : Tg} {kk : ItK} {es : I} {b : S} {fg : List Nat} {t it : Expr} {body : List Stmt} {l : List Expr} {pos : Pos} (ht : agT T.N sc tg t = true) (hf : nof fx (tgSlots tg) = true) (hn : noSet it = true) (hl : itArgs kk sc t it = some l)
    (pes : PEL X l (tV G X.K EX E es)) (hb : PSs X body (tS G X.K EX E fx b)) : PS X (.For t it body [] pos) (tS G X.K EX E fx (.for_ tg kk es b fg)) := by
  have hi : PI X t it (tIt true X.K kk (tV G X.K EX E es)) := it_rule C.ex.ok hl pes
  refine PS.mono (ps_for C.own C.ex.ok.calm hi (C.tg ht) hb (by cases it <;> first | (cases hn; done) | exact fun _ => rfl)) fun σ0 H0 D ⟨Z0, e, A0, R0, hh⟩ => ?_
  unfold exe at hh
  refine chainV R0 (Ans.bnd hh fun ds e1 _ h1 => ?_)
  intro vs H1 Z1 A1 R1 s1 rx
  split at h1
  · rename_i xs hxs
    generalize hfn : (fun x e2 => match tgSet tg x e2 with
        | some e3 => (exe G b e3).forget fg
        | none => .st) = fn at h1
    refine ⟨Z1, ds, xs, rds_rvs rx, fun _ => rx, hxs, fun J wk => ?_⟩
    obtain ⟨A1f, R1f, sub, _⟩ := R1.forgets (vs := fg)
    have sf : Stp H1 Z1 (W A1) H1 Z1 (W A1f) := Stp.refl.less fun b ⟨i, a⟩ => ⟨i, sub i b a⟩
    have h1' : AnS X.K EX E fx H1 Z1 A1f σ0 _ D := AnS.move (A1 := A1f) h1 (s1.trans sf) (fun b w => w) Fix.refl
    refine ⟨fun i m σ H => m = xs.length - i ∧ i ≤ xs.length ∧ ∃ Z ei A, ER X.K H Z σ ei A ∧ Stp H1 Z1 (W A1f) H Z (W A) ∧ AnS X.K EX E fx H Z A σ (forI fn (xs.drop i) ei) D,
      ⟨xs.length, by simp, Nat.zero_le _, Z1, _, A1f, R1f, Stp.refl, by simpa using h1'⟩, ?_⟩
    rintro i m σ H ⟨rfl, hil, Z, ei, A, R, s, hr⟩
    obtain ⟨wgo, wst⟩ := wk i H Z (R1f.still s) (fun z => nomatch z) R.zd
    by_cases hlt : i < xs.length
    · right
      have hx : xs[i]? = some xs[i] := List.getElem?_eq_getElem hlt
      obtain ⟨go, yl⟩ := wgo _ hx
      rw [List.drop_eq_getElem_cons hlt] at hr
      simp only [forI] at hr
      refine ⟨go, fun σ' H' => ∃ m', m' < xs.length - i ∧ (m' = xs.length - (i + 1) ∧ i + 1 ≤ xs.length ∧ ∃ Z ei A, ER X.K H' Z σ' ei A ∧ Stp H1 Z1 (W A1f) H' Z (W A) ∧ AnS X.K EX E fx H' Z A σ' (forI fn (xs.drop (i + 1)) ei) D), fun σ' H' h => h, fun yv H2 hy => ?_⟩
      obtain ⟨g2, rdy⟩ := yl yv H2 hy
      have R2 := R.grow g2 fun b z n => R.zd b z (g2.same.free n)
      have s2 : Stp H1 Z1 (W A1f) H2 Z (W A) := s.trans g2.stp
      have hr2 : AnS X.K EX E fx H2 Z A σ _ D := AnS.move (A1 := A) hr g2.stp (fun b w => w) Fix.refl
      generalize hfx : fn xs[i] ei = r at hr2
      rw [← hfn] at hfx
      dsimp only at hfx
      split at hfx
      · rename_i e3 he3
        refine ⟨Z, ei, A, _, e3, R2, rdy, he3, fun σ' A' R' sb off => ?_⟩
        have s2' : Stp H1 Z1 (W A1f) H2 Z (W A') := s2.less fun b ⟨i, a⟩ => ⟨i, sb i b a⟩
        have f2 : Fix fx σ σ' := Fix.off off (nof_of hf)
        have hr3 := AnS.move (A1 := A') hr2 ((Stp.refl (H := H2) (Z := Z) (W0 := W A)).less fun b ⟨i, a⟩ => (⟨i, sb i b a⟩ : W A b)) (fun b w => w) f2
        refine ⟨Z, e3, A', R', ?_⟩
        have again : ∀ e', AnS X.K EX E fx H2 Z A' σ' (forI fn (xs.drop (i + 1)) (forget fg e')) D → AfS X.K fx H2 Z A' σ' (fun σ' H' => ∃ m', m' < xs.length - i ∧ (m' = xs.length - (i + 1) ∧ i + 1 ≤ xs.length ∧ ∃ Z ei A, ER X.K H' Z σ' ei A ∧ Stp H1 Z1 (W A1f) H' Z (W A) ∧ AnS X.K EX E fx H' Z A σ' (forI fn (xs.drop (i + 1)) ei) D)) e' := by
          intro e' hk σ3 H3 Z3 A3 R3 s3 f3
          obtain ⟨A5, R5, sb5, _⟩ := R3.forgets (vs := fg)
          have s5 : Stp H2 Z (W A') H3 Z3 (W A5) := s3.less fun b ⟨i, a⟩ => ⟨i, sb5 i b a⟩
          exact ⟨xs.length - (i + 1), by omega, rfl, hlt, Z3, _, A5, R5, s2'.trans s5, AnS.move (A1 := A5) hk s5 (fun b w => w) f3⟩
        cases hx2 : exe G b e3 with
        | nx e' =>
          rw [hx2] at hfx
          subst hfx
          exact again e' hr3
        | ct e' =>
          rw [hx2] at hfx
          subst hfx
          exact again e' hr3
        | bk e' =>
          rw [hx2] at hfx
          subst hfx
          intro σ3 H3 Z3 A3 R3 s3 f3
          obtain ⟨A5, R5, sb5, _⟩ := R3.forgets (vs := fg)
          exact hr3 σ3 H3 Z3 A5 R5 (s3.less fun b ⟨i, a⟩ => ⟨i, sb5 i b a⟩) f3
        | rt o e' =>
          rw [hx2] at hfx
          subst hfx
          exact hr3
        | ex x e' =>
          rw [hx2] at hfx
          subst hfx
          exact hr3
        | st =>
          rw [hx2] at hfx
          subst hfx
          exact hr3
      · subst hfx
        exact hr2.elim
    · left
      have hi : i = xs.length := by omega
      refine ⟨wst hi, ?_⟩
      subst hi
      rw [List.drop_length] at hr
      simp only [forI] at hr
      exact hr σ H Z A R Stp.refl Fix.refl
  · exact h1.elim
theorem s_whl (C : CxS T G k EX CX E X sc) {c : I} {b : S} {fg : List Nat} {t : Expr} {body : List Stmt} {pos : Pos} (ht : PT X t (tEF X.K EX E (evT G c))) (hb : PSs X body (tS G X.K EX E fx b)) :
    PS X (.While t body [] pos) (tS G X.K EX E fx (.whl c b fg)) := by
  refine PS.mono (ps_while C.own ht hb) fun σ0 H0 D ⟨Z0, e, A0, R0, hh⟩ => ?_
  unfold exe at hh
  obtain ⟨A1f, R1f, sub, _⟩ := R0.forgets (vs := fg)
  have sf : Stp H0 Z0 (W A0) H0 Z0 (W A1f) := Stp.refl.less fun b ⟨i, a⟩ => ⟨i, sub i b a⟩
  have hh' : AnS X.K EX E fx H0 Z0 A1f σ0 _ D := AnS.move (A1 := A1f) hh sf (fun b w => w) Fix.refl
  unfold whl at hh'
  split at hh'
  · rename_i hex
    generalize Classical.choose hex = N at hh'
    refine ⟨fun m σ H => ∃ Z ei A, ER X.K H Z σ ei A ∧ AnS X.K EX E fx H Z A σ (whlN (evT G c) (fun e1 => (exe G b e1).forget fg) m ei) D, ⟨N, Z0, _, A1f, R1f, hh'⟩, ?_⟩
    rintro m σ H ⟨Z, ei, A, R, hr⟩
    cases m with
    | zero => exact hr.elim
    | succ m =>
      unfold whlN at hr
      refine ⟨Z, ei, A, R, Ans.bnd hr fun t e1 _ h1 => ?_⟩
      intro H1 Z1 A1 R1 s1
      cases t with
      | false =>
        exact iteF (h1 σ H1 Z1 A1 R1 s1 Fix.refl)
      | true =>
        refine iteT ⟨fun σ' H' => ∃ m', m' < m + 1 ∧ ∃ Z ei A, ER X.K H' Z σ' ei A ∧ AnS X.K EX E fx H' Z A σ' (whlN (evT G c) (fun e1 => (exe G b e1).forget fg) m' ei) D, fun _ _ h => h, ?_⟩
        have h2 : AnS X.K EX E fx H1 Z1 A1 σ _ D := AnS.move (A1 := A1) h1 s1 (fun b w => w) Fix.refl
        refine ⟨Z1, e1, A1, R1, ?_⟩
        rw [if_pos rfl] at h2
        have again : ∀ e', AnS X.K EX E fx H1 Z1 A1 σ (whlN (evT G c) (fun e1 => (exe G b e1).forget fg) m (forget fg e')) D → AfS X.K fx H1 Z1 A1 σ (fun σ' H' => ∃ m', m' < m + 1 ∧ ∃ Z ei A, ER X.K H' Z σ' ei A ∧ AnS X.K EX E fx H' Z A σ' (whlN (evT G c) (fun e1 => (exe G b e1).forget fg) m' ei) D) e' := by
          intro e' hk σ3 H3 Z3 A3 R3 s3 f3
          obtain ⟨A5, R5, sb5, _⟩ := R3.forgets (vs := fg)
          have s5 : Stp H1 Z1 (W A1) H3 Z3 (W A5) := s3.less fun b ⟨i, a⟩ => ⟨i, sb5 i b a⟩
          exact ⟨m, Nat.lt_succ_self m, Z3, _, A5, R5, AnS.move (A1 := A5) hk s5 (fun b w => w) f3⟩
        cases hx2 : exe G b e1 with
        | nx e' => rw [hx2] at h2; exact again e' h2
        | ct e' => rw [hx2] at h2; exact again e' h2
        | bk e' =>
          rw [hx2] at h2
          intro σ3 H3 Z3 A3 R3 s3 f3
          obtain ⟨A5, R5, sb5, _⟩ := R3.forgets (vs := fg)
          exact h2 σ3 H3 Z3 A5 R5 (s3.less fun b ⟨i, a⟩ => ⟨i, sb5 i b a⟩) f3
        | rt o e' => rw [hx2] at h2; exact h2
        | ex x e' => rw [hx2] at h2; exact h2
        | st => rw [hx2] at h2; exact h2
  · exact hh'.elim
mutual
/-- STATEMENTS -/
theorem s_ok (C : CxS T G k EX CX E X sc) : ∀ (s : S) (st : Stmt), agS T fx sc s st = true → PS X st (tS G X.K EX E fx s)
  | .ex a, st, h => by
    simp only [agS] at h
    split at h
    · simp only [Bool.and_eq_true] at h
      exact s_ex C h.1 h.2
    · cases h
  | .set tg a, st, h => by
    simp only [agS] at h
    split at h
    · rename_i t e pos
      simp only [Bool.and_eq_true] at h
      obtain ⟨⟨⟨h1, h2⟩, h3⟩, h4⟩ := h
      split at h4
      · rename_i x p
        cases tg with
        | n i =>
          split at h4
          · rename_i hs
            exact s_setN C h1 h2 h3 hs
          · rename_i hs
            split at h4
            · exact s_setLC C h1 h2 h3 hs
            · cases h4
        | nil => simp [agT] at h2
        | cons _ _ => simp [agT] at h2
      · rename_i hnn
        simp only [Bool.and_eq_true, Bool.not_eq_true'] at h4
        cases t <;> first | (cases tg <;> simp [agT] at h2; done) | (exact absurd rfl (hnn _ _)) | skip
        exact s_setT C h1 h2 h3 h4.1 h4.2
    · cases h
  | .aug i f a, st, h => by
    simp only [agS] at h
    split at h
    · simp only [Bool.and_eq_true, decide_eq_true_eq] at h
      obtain ⟨⟨⟨⟨h1, h2⟩, h3⟩, h4⟩, h5⟩ := h
      exact s_aug C h4 h1 h2 h3 h5
    · cases h
  | .sput i ix a, st, h => by
    simp only [agS] at h
    split at h
    · simp only [Bool.and_eq_true] at h
      obtain ⟨⟨⟨h1, h2⟩, h3⟩, h4⟩ := h
      exact s_sput C h1 h2 h3 h4 rfl
    · cases h
  | .saug i ix f a, st, h => by
    simp only [agS] at h
    split at h
    · simp only [Bool.and_eq_true, decide_eq_true_eq] at h
      obtain ⟨⟨⟨⟨h1, h2⟩, h3⟩, h4⟩, h5⟩ := h
      exact s_saug C h1 h2 h3 h4 h5
    · cases h
  | .iff c a b, st, h => by
    simp only [agS] at h
    split at h
    · simp only [Bool.and_eq_true] at h
      obtain ⟨⟨⟨h1, h2⟩, h3⟩, h4⟩ := h
      exact s_iff (eT_ok c C.ex _ h1 h2) (b_ok C a _ h3) (b_ok C b _ h4)
    · cases h
  | .for_ tg kk es b fg, st, h => by
    simp only [agS] at h
    split at h
    · simp only [Bool.and_eq_true] at h
      obtain ⟨⟨⟨⟨h1, h2⟩, h3⟩, h4⟩, h5⟩ := h
      split at h4
      · rename_i l hl
        exact s_for C h1 h2 h3 hl (eV_ok es C.ex l h4) (b_ok C b _ h5)
      · cases h4
    · cases h
  | .ret a, st, h => by
    simp only [agS] at h
    split at h
    · exact s_ret C h
    · cases h
  | .retN, st, h => by
    simp only [agS] at h
    split at h
    · exact s_retN C
    · cases h
  | .brk, st, h => by
    simp only [agS] at h
    split at h
    · exact PS.mono ps_break fun σ H D ⟨Z, en, A, R, hh⟩ => by unfold exe at hh; exact hh σ H Z A R Stp.refl Fix.refl
    · cases h
  | .cnt, st, h => by
    simp only [agS] at h
    split at h
    · exact PS.mono ps_continue fun σ H D ⟨Z, en, A, R, hh⟩ => by unfold exe at hh; exact hh σ H Z A R Stp.refl Fix.refl
    · cases h
  | .dput i ix a, st, h => by
    simp only [agS] at h
    split at h
    · simp only [Bool.and_eq_true] at h
      obtain ⟨⟨⟨h1, h2⟩, h3⟩, h4⟩ := h
      exact s_dput C h1 h2 h3 h4
    · cases h
  | .bad, st, h => PS.mono ps_never fun σ H D ⟨Z, en, A, R, hh⟩ => by unfold exe at hh; exact hh
  | .par i j a b, st, h => by
    simp only [agS] at h
    split at h
    · simp only [Bool.and_eq_true, decide_eq_true_eq] at h
      obtain ⟨⟨⟨⟨⟨⟨h1, h2⟩, h3⟩, h4⟩, h5⟩, h6⟩, h7⟩ := h
      exact s_par C h1 h2 h3 h4 h5 h6 h7
    · cases h
  | .whl c b fg, st, h => by
    simp only [agS] at h
    split at h
    · simp only [Bool.and_eq_true] at h
      obtain ⟨⟨h1, h2⟩, h3⟩ := h
      exact s_whl C (eT_ok c C.ex _ h1 h2) (b_ok C b _ h3)
    · cases h
  | .pass, st, h => by simp [agS] at h
  | .seq _ _, st, h => by simp [agS] at h
theorem b_ok (C : CxS T G k EX CX E X sc) : ∀ (s : S) (sts : List Stmt), agB T fx sc s sts = true → PSs X sts (tS G X.K EX E fx s)
  | .pass, [], h => PSs.mono pss_nil fun σ H D ⟨Z, en, A, R, hh⟩ => by unfold exe at hh; exact hh σ H Z A R Stp.refl Fix.refl
  | .seq a b, st :: r, h => by
    have h' : agS T fx sc a st = true ∧ agB T fx sc b r = true := by simpa only [agB, Bool.and_eq_true] using h
    refine PSs.mono (pss_cons (s_ok C a st h'.1) (b_ok C b r h'.2)) fun σ H D ⟨Z, en, A, R, hh⟩ => ?_
    unfold exe at hh
    refine ⟨Z, en, A, R, AnS.seq hh fun e1 h1 => ?_⟩
    intro σ' H' Z' A' R' s' f'
    exact ⟨Z', e1, A', R', AnS.move (A1 := A') h1 s' (fun b w => w) f'⟩
  | .pass, _ :: _, h => by simp [agB] at h
  | .seq _ _, [], h => by simp [agB] at h
  | .ex _, _, h => by simp [agB] at h
  | .set _ _, _, h => by simp [agB] at h
  | .par _ _ _ _, _, h => by simp [agB] at h
  | .aug _ _ _, _, h => by simp [agB] at h
  | .sput _ _ _, _, h => by simp [agB] at h
  | .dput _ _ _, _, h => by simp [agB] at h
  | .bad, _, h => by simp [agB] at h
  | .saug _ _ _ _, _, h => by simp [agB] at h
  | .iff _ _ _, _, h => by simp [agB] at h
  | .for_ _ _ _ _ _, _, h => by simp [agB] at h
  | .whl _ _ _, _, h => by simp [agB] at h
  | .ret _, _, h => by simp [agB] at h
  | .retN, _, h => by simp [agB] at h
  | .brk, _, h => by simp [agB] at h
  | .cnt, _, h => by simp [agB] at h
end
end
end Vm

set_option Elab.async false
set_option linter.all false
set_option maxRecDepth 100000
set_option maxHeartbeats 8000000
/-! V21: all defs, by induction on the fuel. -/
namespace Vm
open PySem PySem.Spec PyProof.Rows L2

/-- a def: its name, its text, its slots, its parameters, its words -/
structure Pd where
  id : Nat
  name : String
  st : Stmt
  N : List Str
  ps : List Str
  df : Df
def fxOf (df : Df) : List Nat := (List.range df.np).filter fun j => !df.rb.contains j
def lkP (tab : List Pd) (d : Nat) : Option Pd := tab.find? fun p => p.id == d
def lid (d : Nat) : Nat := if d < 2000 then d else d - 2000
def fnOf (tab : List Pd) : Nat → Option String := fun d => (lkP tab (lid d)).map (·.name)
def pgOf (tab : List Pd) : Nat → Option Df := fun d => (lkP tab d).map (·.df)
def scC (N P : List Str) (sc : Scope) : Bool :=
  decide (sc.kind = .function) && !sc.isCoroutine && !sc.isGenerator && decide N.Nodup && decide (N.take P.length = P) && P.all (fun x => decide (sc.names.lookup x = some .local) || decide (sc.names.lookup x = some .cell)) && sc.names.all (fun y => !decide (y.2 = .free))
theorem fnScope_by {N P : List Str} {sc : Scope} (h : scC N P sc = true) : FnScope N P sc := by
  unfold scC at h
  simp only [Bool.and_eq_true, Bool.not_eq_true', decide_eq_true_eq, List.all_eq_true, Bool.or_eq_true, decide_eq_false_iff_not] at h
  obtain ⟨⟨⟨⟨⟨⟨h1, h2⟩, h3⟩, h4⟩, h5⟩, h6⟩, h7⟩ := h
  exact ⟨h1, h2, h3, h4, h5, h6, h7⟩
/-- a def's text is what its words say -/
def okD (fn : Nat → Option String) (p : Pd) : Bool :=
  agB ⟨p.N, fn⟩ (fxOf p.df) (defScope p.st) p.df.body (defBody p.st) && scC p.N p.ps (defScope p.st) && decide (p.df.np = p.ps.length) && decide (p.df.nv = p.N.length) && decide (p.id < 2000)
/-- .. all of them -/
structure TabOk (tab : List Pd) : Prop where
  ok : ∀ p ∈ tab, okD (fnOf tab) p = true

theorem outs_at : ∀ {rb : List Nat} {ts : List O} {j : Nat} {e : Env} {ts' : List O}, outs rb j ts e = some ts' → ts'.length = ts.length ∧
    ∀ (i : Nat) (t : O), ts[i]? = some t → (rb.contains (j + i) = true ∧ ts'[i]? = some t) ∨ (rb.contains (j + i) = false ∧ ∃ o, e[i]? = some (some o) ∧ ts'[i]? = some o) := by
  intro rb ts
  induction ts with
  | nil =>
    intro j e ts' h
    simp only [outs] at h
    cases h
    exact ⟨rfl, fun i t h => by simp at h⟩
  | cons t ts ih =>
    intro j e ts' h
    cases e with
    | nil => simp [outs] at h
    | cons x r =>
      simp only [outs] at h
      split at h
      · rename_i os hos
        obtain ⟨h1, h2⟩ := ih hos
        split at h
        · rename_i hc
          cases h
          refine ⟨by simp [h1], fun i t' hi => ?_⟩
          cases i with
          | zero => simp at hi; subst hi; exact .inl ⟨by simpa using hc, rfl⟩
          | succ i =>
            have := h2 i t' (by simpa using hi)
            rw [show j + (i + 1) = j + 1 + i by omega]
            simpa using this
        · rename_i hc
          split at h
          · rename_i o
            cases h
            refine ⟨by simp [h1], fun i t' hi => ?_⟩
            cases i with
            | zero => exact .inr ⟨by simpa using hc, o, rfl, rfl⟩
            | succ i =>
              have := h2 i t' (by simpa using hi)
              rw [show j + (i + 1) = j + 1 + i by omega]
              simpa using this
          · cases h
      · cases h
theorem rb_at : ∀ {rb : List Nat} {ts : List O} {j : Nat}, rbOk rb j ts = true → ∀ (i : Nat) (t : O), ts[i]? = some t → rb.contains (j + i) = true → isD t = true := by
  intro rb ts
  induction ts with
  | nil => intro j _ i t h; simp at h
  | cons x ts ih =>
    intro j h i t hi hc
    simp only [rbOk, Bool.and_eq_true, Bool.or_eq_true, Bool.not_eq_true'] at h
    cases i with
    | zero =>
      simp at hi
      subst hi
      rcases h.1 with q | q
      · rw [Nat.add_zero, q] at hc; cases hc
      · exact q
    | succ i => exact ih h.2 i t (by simpa using hi) (by rw [show j + 1 + i = j + (i + 1) by omega]; exact hc)
section
variable {K : PySem.W.Frag} {H H' : Hp} {Z Z' : Addr → Prop} {A A' : Nat → Addr → Prop} {vs : List V} {ts ts' : List O} {σ' : L2.St} {e' : Env} {df : Df} {N : List Str}
theorem map_some {α : Type} {l : List α} {i : Nat} {x : α} : (l.map some)[i]? = some (some x) ↔ l[i]? = some x := by
  rw [List.getElem?_map]
  cases l[i]? <;> simp
/-- the body's beginning -/
theorem ER.start (R : ER K H Z (vs.map some) (ts.map some) A) (m : Nat) : ER K H Z (vs.map some ++ List.replicate m none) (ts.map some ++ List.replicate m none) A where
  len := by simpa using R.len
  rep := fun i o h => by
    have hl : vs.length = ts.length := by simpa using R.len.symm
    by_cases hi : i < ts.length
    · rw [List.getElem?_append_left (by simpa using hi)] at h
      obtain ⟨v, hv, r⟩ := R.rep i o h
      exact ⟨v, by rw [List.getElem?_append_left (by simpa [hl] using hi)]; exact hv, r⟩
    · rw [List.getElem?_append_right (by simpa using Nat.le_of_not_lt hi), List.getElem?_replicate] at h
      split at h <;> cases h
  emp := fun i h b a => by
    refine R.emp i (fun o q => h o ?_) b a
    have hi : i < (ts.map some).length := (List.getElem?_eq_some_iff.mp q).1
    rw [List.getElem?_append_left hi]
    exact q
  dj := R.dj
  nz := R.nz
  zd := R.zd
/-- the parameters at the end -/
theorem ER.fin {m : Nat} (R0 : ER K H Z (vs.map some) (ts.map some) A) (R : ER K H' Z' σ' e' A') (st : Still H Z H' Z') (f : Fix (fxOf df) (vs.map some ++ List.replicate m none) σ') (hn : ts.length = df.np)
    (ho : outs df.rb 0 ts e' = some ts') (hr : rbOk df.rb 0 ts = true) : ∃ A2, ER K H' Z' (vs.map some) (ts'.map some) A2 ∧ ∀ j b, A2 j b → A' j b := by
  obtain ⟨hl, hat⟩ := outs_at ho
  have hvl : vs.length = ts.length := by simpa using R0.len.symm
  refine ⟨fun j b => (j < ts.length ∧ df.rb.contains j = false) ∧ A' j b, ⟨by simpa [hl] using R0.len, ?_, ?_, fun i j b a c => R.dj i j b a.2 c.2, fun i b a => R.nz i b a.2, R.zd⟩, fun j b a => a.2⟩
  · intro i o h
    rw [map_some] at h
    have hlt : i < ts.length := by rw [← hl]; exact (List.getElem?_eq_some_iff.mp h).1
    have ht : ts[i]? = some ts[i] := List.getElem?_eq_getElem hlt
    have hv : vs[i]? = some (vs[i]'(by rw [hvl]; exact hlt)) := List.getElem?_eq_getElem (by rw [hvl]; exact hlt)
    rcases hat i _ ht with ⟨h1, h2⟩ | ⟨h1, o', h2, h3⟩
    · rw [h2] at h
      cases h
      have hd := rb_at hr i _ ht h1
      obtain ⟨v, hv', r⟩ := R0.rep i _ (map_some.mpr ht)
      refine ⟨v, hv', ?_⟩
      generalize ts[i] = t at hd r
      cases t <;> first | (cases hd; done) | skip
      exact ⟨RD.still st r.1, fun b a => by rw [Nat.zero_add] at h1; rw [h1] at a; cases a.1.2⟩
    · rw [h3] at h
      cases h
      obtain ⟨v, hv', r⟩ := R.rep i _ h2
      have hf := f i (by
        unfold fxOf
        rw [List.mem_filter]
        rw [Nat.zero_add] at h1
        exact ⟨List.mem_range.mpr (by rw [← hn]; exact hlt), by rw [h1]; rfl⟩)
      rw [hf, List.getElem?_append_left (by simpa [hvl] using hlt)] at hv'
      refine ⟨v, hv', r.iff fun b => ⟨fun a => ⟨⟨hlt, by rw [Nat.zero_add] at h1; exact h1⟩, a⟩, fun a => a.2⟩⟩
  · intro i h b a
    have hlt := a.1.1
    have h' : ts'[i]? = some (ts'[i]'(by rw [hl]; exact hlt)) := List.getElem?_eq_getElem (by rw [hl]; exact hlt)
    exact h _ (map_some.mpr h')
end
/-- what is known of the top -/
structure TopOk (tab : List Pd) (glob : String → Option D) (K : PySem.W.Frag) (w : World) (mg : Str → Option Value) : Prop where
  df : ∀ (d : Nat) (p : Pd), lkP tab d = some p → ∃ f fd, Fun K (Str.ofString p.name) (Str.ofString p.name) p.st f fd ∧ mg (Str.ofString p.name) = some (.ref f) ∧ Binds K fd p.ps []
  bn : ∀ x ∈ bnames, mg (Str.ofString x) = none
  gl : ∀ x d, glob x = some d → ∃ u v, mg (Str.ofString x) = some u ∧ RelV v u ∧ ∀ H Z, RD K H Z d v
  tb : ∀ p ∈ tab, ∀ n, isTab n = true → p.N.contains (Str.ofString n) = true → ∃ q, mg (Str.ofString n) = some (.ref q) ∧ (∀ s k, lkT (tabOf n) s = some k → KDct K w q (Str.ofString s) (kV (toK k))) ∧ ∀ s, lkT (tabOf n) s = none → TMiss K w q (Str.ofString s)
theorem spI_len {K : PySem.W.Frag} {EX : XR} {cal : List O → Option Out} {n : Nat} (hc : ∀ ts o, cal ts = some o → ts.length = n) {vs : List V} {H : Hp} {Q : VK} {E : XK} (h : spI K EX cal vs H Q E) : vs.length = n := by
  obtain ⟨Z, ts, A, R, h⟩ := h
  cases hq : cal ts with
  | none => rw [hq] at h; exact h.elim
  | some o =>
    have := hc ts o hq
    rw [← this]
    simpa using R.len.symm
/-- a call that lends -/
theorem spI_lend {K : PySem.W.Frag} {EX : XR} {cal : List O → Option Out} {vs : List V} {H : Hp} {Q : VK} {E : XK} (h : spI K EX (fun ts => lendO ts (cal (ts.map fun o => .d o.toD))) vs H Q E) : spI K EX cal vs H Q E := by
  obtain ⟨Z, ts, A, R, h⟩ := h
  refine ⟨fun b => Z b ∨ W A b, ts.map fun o => .d o.toD, fun _ _ => False, ⟨by simpa using R.len, ?_, fun _ _ _ a => a, fun _ _ _ a => a.elim, fun _ _ a => a.elim, fun b z => z.elim (R.zd b) fun ⟨_, a⟩ => R.ad a⟩, ?_⟩
  · intro i o ho
    rw [map_some, List.getElem?_map] at ho
    cases hq : ts[i]? with
    | none => rw [hq] at ho; cases ho
    | some o' =>
      rw [hq] at ho
      cases ho
      obtain ⟨v, hv, r⟩ := R.rep i o' (map_some.mpr hq)
      refine ⟨v, hv, RD.still ⟨fun b o h _ => h, fun b o h _ => h, fun b z => z.elim .inl fun a => .inr ⟨i, a⟩⟩ r.toRD, fun _ z => z⟩
  · dsimp only at h
    generalize cal (ts.map fun o => .d o.toD) = out at h
    match out, h with
    | none, h => exact h
    | some (.exc x ts'), h => exact h.elim
    | some (.ret (.lst xs) ts'), h => exact h.elim
    | some (.ret (.dct xs) ts'), h => exact h.elim
    | some (.ret (.d s) ts'), h =>
      intro v H' Z' A' B R' s' ro dj nz
      have hl : lendO ts (some (.ret (.d s) ts')) = if scalD s = true then some (.ret (.d s) ts) else none := rfl
      rw [hl] at h
      cases hs : scalD s with
      | false => rw [hs] at h; exact h.elim
      | true =>
        rw [hs] at h
        have g : Grow H Z H' Z := ⟨fun b o hb => s'.keep b o hb fun ⟨_, a⟩ => a, fun _ z => z, fun _ z => .inl z⟩
        have zd : ∀ b, Z b → H' b ≠ none := fun b z => s'.dom b (R.zd b z)
        refine h v H' Z A noA (R.grow g zd) (g.stp.less fun b w => w.elim id fun z => z.elim) ⟨?_, fun _ z => z⟩ (fun _ _ _ z => z) fun _ z => z.elim
        have r1 := ro.1
        cases s <;> first | (cases hs; done) | skip
        all_goals (unfold RD at r1 ⊢; exact r1)
/-- ALL DEFS -/
theorem all_ok {tab : List Pd} {glob : String → Option D} {P : Program} {w : World} {K : PySem.W.Frag} {mg : Str → Option Value} {base : Heap} {EX : XR} {CX : CXT} (TT : TabOk tab) (T : TopOk tab glob K w mg)
    (hp : ∀ N qual scope f cd A outer s H E, Passes CX (cxOf CX P w K mg base N qual scope f cd A outer s H E) E) (h0 : ∀ Y : Cx, Passes CX Y (fun _ _ _ => False)) :
    ∀ (k d : Nat) (p : Pd) (f : Addr) (fd : FuncData), lkP tab d = some p → Fun K (Str.ofString p.name) (Str.ofString p.name) p.st f fd → FnOk P w K mg base CX k f fd p.ps (spI K EX (run glob (pgOf tab) k d)) := by
  intro k
  induction k with
  | zero =>
    intro d p f fd hd F
    exact ⟨fun vs H Q E ⟨Z, ts, A, R, h⟩ => by unfold run at h; exact h.elim, fun A outer s H args us vs Q E hr e0 hb hv ⟨Z, ts, A', R, h⟩ => by unfold run at h; exact h.elim⟩
  | succ k ih =>
    intro d p f fd hd F
    have hok := TT.ok p (List.mem_of_find?_eq_some hd)
    unfold okD at hok
    simp only [Bool.and_eq_true, decide_eq_true_eq] at hok
    obtain ⟨⟨⟨⟨hag, hsc⟩, hnp⟩, hnv⟩, hid⟩ := hok
    have lt : ∀ (d : Nat) (p : Pd), lkP tab d = some p → d < 2000 := fun d p hd => by
      have h1 := TT.ok p (List.mem_of_find?_eq_some hd)
      unfold okD at h1
      simp only [Bool.and_eq_true, decide_eq_true_eq] at h1
      have h2 := List.find?_some hd
      rw [beq_iff_eq] at h2
      omega
    have hlt := lt d p hd
    have S := fnScope_by hsc
    have hpg : pgOf tab d = some p.df := by unfold pgOf; rw [hd]; rfl
    have hlen : ∀ vs H Q E, spI K EX (run glob (pgOf tab) (k + 1) d) vs H Q E → vs.length = p.ps.length := fun vs H Q E h => by
      refine spI_len (n := p.ps.length) (fun ts o q => ?_) h
      rw [run_lt hlt] at q
      unfold runD at q
      rw [hpg] at q
      dsimp only at q
      split at q
      · rename_i hc
        rw [← hnp]
        exact hc.1
      · cases q
    obtain ⟨oc, od, kV, doc, pm, an, cdv, ct, osl, rfl, lk, hcd⟩ := F.ex
    refine fn_of lk hcd S hlen fun A outer s H vs Q E hr hsp => ?_
    have hvl := hlen _ _ _ _ hsp
    have C : CxS ⟨p.N, fnOf tab⟩ ⟨run glob (pgOf tab) k, glob⟩ k EX CX E (cxOf CX P w K mg base p.N (Str.ofString p.name) (defScope p.st) f cdv A outer s H E) (defScope p.st) := by
      refine ⟨⟨⟨rfl, S.nd, rfl, rfl, hr.units, T.bn, T.gl, T.tb p (List.mem_of_find?_eq_some hd)⟩, fun d' n hn => ?_, hr, hp _ _ _ _ _ _ _ _ _ _, h0⟩, PassesOwn.leaving, fun _ => rfl, S.kind⟩
      have hn : (lkP tab (lid d')).map (·.name) = some n := hn
      cases hq : lkP tab (lid d') with
      | none => rw [hq] at hn; cases hn
      | some p' =>
        rw [hq] at hn
        cases hn
        obtain ⟨f', fd', F', m', b'⟩ := T.df (lid d') p' hq
        refine ⟨f', fd', p'.ps, ?_, m', F'.kp, b'⟩
        have F2 := ih (lid d') p' f' fd' hq F'
        have hl2 := lt (lid d') p' hq
        by_cases hd2 : d' < 2000
        · have e : lid d' = d' := if_pos hd2
          rw [e] at F2
          exact F2
        · have e : lid d' = d' - 2000 := if_neg hd2
          rw [e] at F2 hl2
          refine F2.imp fun vs H Q E h => ?_
          cases k with
          | zero =>
            obtain ⟨Z, ts, A, R, h⟩ := h
            unfold run at h
            exact h.elim
          | succ k =>
            dsimp only at h
            rw [run_ge hd2] at h
            rw [run_lt hl2]
            exact spI_lend h
    refine ⟨_, b_ok C p.df.body _ hag, ?_⟩
    obtain ⟨Z, ts, A0, R, h⟩ := hsp
    rw [run_lt hlt] at h
    unfold runD at h
    rw [hpg] at h
    dsimp only at h
    have hst : L2.start p.N vs = vs.map some ++ List.replicate (p.df.nv - p.df.np) none := by
      unfold L2.start
      rw [hnv, hnp, hvl]
    split at h
    · rename_i o ts' hrun
      split at hrun
      · rename_i hc
        refine ⟨Z, ts.map some ++ List.replicate (p.df.nv - p.df.np) none, A0, ?_, ?_⟩
        · rw [hst]; exact R.start _
        · generalize exe ⟨run glob (pgOf tab) k, glob⟩ p.df.body (ts.map some ++ List.replicate (p.df.nv - p.df.np) none) = fl at hrun ⊢
          unfold fin at hrun
          cases fl with
          | nx e' =>
            dsimp only at hrun
            cases ho : outs p.df.rb 0 ts e' with
            | none => rw [ho] at hrun; cases hrun
            | some ts2 =>
              rw [ho] at hrun
              cases hrun
              intro σ' H' Z' A' R' s' f'
              rw [hst] at f'
              obtain ⟨A2, R2, sb⟩ := ER.fin R R' (R.still s') f' hc.1 ho hc.2
              exact h .non H' Z' A2 noA R2 (s'.less fun b w => w.elim (fun ⟨j, a⟩ => ⟨j, sb j b a⟩) fun z => z.elim) ⟨rd_non.mpr rfl, fun _ z => z⟩ (fun _ _ _ z => z) fun _ z => z.elim
          | rt o' e' =>
            dsimp only at hrun
            cases ho : outs p.df.rb 0 ts e' with
            | none => rw [ho] at hrun; cases hrun
            | some ts2 =>
              rw [ho] at hrun
              cases hrun
              intro σ' v H' Z' A' B R' s' ro dj nz f'
              rw [hst] at f'
              obtain ⟨A2, R2, sb⟩ := ER.fin R R' (R.still s') f' hc.1 ho hc.2
              exact h v H' Z' A2 B R2 (s'.less fun b w => w.elim (fun ⟨j, a⟩ => .inl ⟨j, sb j b a⟩) .inr) ro (fun j b a => dj j b (sb j b a)) nz
          | ex x e' =>
            dsimp only at hrun
            cases ho : outs p.df.rb 0 ts e' with
            | none => rw [ho] at hrun; cases hrun
            | some ts2 => rw [ho] at hrun; cases hrun
          | bk e' => cases hrun
          | ct e' => cases hrun
          | st => cases hrun
      · cases hrun
    · rename_i x ts' hrun
      split at hrun
      · rename_i hc
        refine ⟨Z, ts.map some ++ List.replicate (p.df.nv - p.df.np) none, A0, ?_, ?_⟩
        · rw [hst]; exact R.start _
        · generalize exe ⟨run glob (pgOf tab) k, glob⟩ p.df.body (ts.map some ++ List.replicate (p.df.nv - p.df.np) none) = fl at hrun ⊢
          unfold fin at hrun
          cases fl with
          | nx e' =>
            dsimp only at hrun
            cases ho : outs p.df.rb 0 ts e' with
            | none => rw [ho] at hrun; cases hrun
            | some ts2 => rw [ho] at hrun; cases hrun
          | rt o' e' =>
            dsimp only at hrun
            cases ho : outs p.df.rb 0 ts e' with
            | none => rw [ho] at hrun; cases hrun
            | some ts2 => rw [ho] at hrun; cases hrun
          | ex x' e' =>
            dsimp only at hrun
            cases ho : outs p.df.rb 0 ts e' with
            | none => rw [ho] at hrun; cases hrun
            | some ts2 =>
              rw [ho] at hrun
              cases hrun
              intro σ' cls dd H' Z' A' R' s' f' hx
              rw [hst] at f'
              obtain ⟨A2, R2, sb⟩ := ER.fin R R' (R.still s') f' hc.1 ho hc.2
              exact h cls dd H' Z' A2 R2 (s'.less fun b ⟨j, a⟩ => ⟨j, sb j b a⟩) hx
          | bk e' => cases hrun
          | ct e' => cases hrun
          | st => cases hrun
      · cases hrun
    · exact h.elim
end Vm

set_option Elab.async false
set_option linter.all false
set_option maxRecDepth 100000
/-! W1: what the little machine answers, as wishes (WE, WS, WC): rules for simp. The wishes stand frozen. -/
namespace Wx
open Vm
theorem nd {α : Sort _} {a b : α} (h : a = b) : a = b := h
class Hold (T : Type) where
  f : T
/-- a reading ends well -/
def WE {α : Type} (r : Rs α) [q : Hold (α → Env → Prop)] [x : Hold (Ex → Env → Prop)] : Prop := match r with
  | .ok a e => q.f a e
  | .ex y e => x.f y e
  | .st => False
def WO {α : Type} (r : Option α) [q : Hold (α → Prop)] : Prop := match r with
  | some a => q.f a
  | none => False
class Ps where
  nx : Env → Prop
  rt : O → Env → Prop
  ex : Ex → Env → Prop
  bk : Env → Prop
  ct : Env → Prop
def WS (r : Fl) [P : Ps] : Prop := match r with
  | .nx e => P.nx e
  | .rt o e => P.rt o e
  | .bk e => P.bk e
  | .ct e => P.ct e
  | .ex x e => P.ex x e
  | .st => False
def WC (r : Option Out) [q : Hold (O → List O → Prop)] [x : Hold (Ex → List O → Prop)] : Prop := match r with
  | some (.ret o ts) => q.f o ts
  | some (.exc y ts) => x.f y ts
  | none => False
/-- a truth is wanted -/
def Wb (o : O) [q : Hold (Bool → Prop)] : Prop := match o with
  | .d (.bl t) => q.f t
  | _ => False
def Wsl (x : Option (Option O)) [q : Hold (O → Prop)] : Prop := match x with
  | some (some o) => q.f o
  | _ => False


section
variable {i j : Nat} {a b c x y : I} {es lo hi ifs : I} {f h : OpK} {tg : Tg} {e : Env} {o t : O}
theorem quiet_var : quiet (.var i) = true := nd rfl
theorem quiet_k {z : D} : quiet (.k z) = true := nd rfl
theorem quiet_g {z : String} : quiet (.g z) = true := nd rfl
theorem quiet_nil : quiet .nil = true := nd rfl
theorem quiet_mv : quiet (.mv i) = false := nd rfl
theorem quiet_fv : quiet (.fv i) = false := nd rfl
theorem quiet_call : quiet (.call i es) = false := nd rfl
theorem quiet_mut {m : MK} : quiet (.mut m i es) = false := nd rfl
theorem quiet_op : quiet (.op f es) = quiet es := nd rfl
theorem quiet_mop : quiet (.mop f x es) = (quiet x && quiet es) := nd rfl
theorem quiet_slc : quiet (.slc x lo hi) = (quiet x && quiet lo && quiet hi) := nd rfl
theorem quiet_ch : quiet (.ch f h a b c) = (quiet a && quiet b && quiet c) := nd rfl
theorem quiet_and : quiet (.and_ es) = quiet es := nd rfl
theorem quiet_or : quiet (.or_ es) = quiet es := nd rfl
theorem quiet_not : quiet (.not_ es) = quiet es := nd rfl
theorem quiet_ite : quiet (.ite c a b) = (quiet c && quiet a && quiet b) := nd rfl
theorem quiet_lst : quiet (.lst es) = quiet es := nd rfl
theorem quiet_tup : quiet (.tup es) = quiet es := nd rfl
theorem quiet_dic : quiet (.dic es) = quiet es := nd rfl
theorem quiet_lc {k : ItK} : quiet (.lc a tg k es ifs) = (quiet a && quiet es && quiet ifs) := nd rfl
theorem quiet_cons : quiet (.cons a b) = (quiet a && quiet b) := nd rfl
theorem forget_nil : forget [] e = e := nd rfl
theorem forget_cons {r : List Nat} : forget (i :: r) e = forget r (e.set i none) := nd rfl
theorem tgSlots_n : tgSlots (.n i) = [i] := nd rfl
theorem tgSlots_nil : tgSlots .nil = [] := nd rfl
theorem tgSlots_cons {u v : Tg} : tgSlots (.cons u v) = tgSlots u ++ tgSlots v := nd rfl
theorem tgSet_n {d : D} {R : Env → Prop} : @WO _ (tgSet (.n i) d e) ⟨R⟩ = (i < e.length ∧ R (e.set i (some (.d d)))) := by
  unfold tgSet
  by_cases h : i < e.length
  · rw [if_pos h]; simp only [h, true_and]; rfl
  · rw [if_neg h]; simp only [h, false_and]; rfl
theorem tgSet_cons {u v : Tg} {xs : List D} {R : Env → Prop} : @WO _ (tgSet (.cons u v) (.tup xs) e) ⟨R⟩ = @WO _ (tgSets (.cons u v) xs e) ⟨R⟩ := nd rfl
theorem tgSets_nil {R : Env → Prop} : @WO _ (tgSets .nil [] e) ⟨R⟩ = R e := nd rfl
theorem tgSets_cons {u v : Tg} {d : D} {xs : List D} {R : Env → Prop} : @WO _ (tgSets (.cons u v) (d :: xs) e) ⟨R⟩ = @WO _ (tgSet u d e) ⟨fun e' => @WO _ (tgSets v xs e') ⟨R⟩⟩ := by
  unfold tgSets
  cases tgSet u d e <;> rfl
theorem arIx_nil : arIx [] = [] := nd rfl
theorem arIx_sl {r : List Ar} : arIx (.sl i :: r) = i :: arIx r := nd rfl
theorem arIx_tm {r : List Ar} : arIx (.tm o :: r) = arIx r := nd rfl
theorem arOs_nil {R : List O → Prop} : @WO _ (arOs e []) ⟨R⟩ = R [] := nd rfl
theorem arOs_sl {r : List Ar} {R : List O → Prop} : @WO _ (arOs e (.sl i :: r)) ⟨R⟩ = @Wsl e[i]? ⟨fun o => @WO _ (arOs e r) ⟨fun os => R (o :: os)⟩⟩ := by
  unfold arOs arO
  dsimp only
  cases h : e[i]? with
  | none => dsimp only; cases arOs e r <;> rfl
  | some o =>
    cases o with
    | none => dsimp only; cases arOs e r <;> rfl
    | some o =>
      rw [show ∀ K : O → Prop, @Wsl (some (some o)) ⟨K⟩ = K o from fun _ => rfl]
      dsimp only
      cases arOs e r <;> rfl
theorem arOs_tm {r : List Ar} {R : List O → Prop} : @WO _ (arOs e (.tm o :: r)) ⟨R⟩ = @WO _ (arOs e r) ⟨fun os => R (o :: os)⟩ := by
  rw [arOs, arO]
  cases arOs e r <;> rfl
theorem back_nil : back [] [] e = some e := nd rfl
theorem back_sl {r : List Ar} {ts : List O} : back (.sl i :: r) (t :: ts) e = back r ts (e.set i (some t)) := nd rfl
theorem back_tm {r : List Ar} {ts : List O} : back (.tm o :: r) (t :: ts) e = back r ts e := nd rfl
theorem outs_nil {rb : List Nat} {R : List O → Prop} : @WO _ (outs rb j [] e) ⟨R⟩ = R [] := nd rfl
theorem outs_cons {rb : List Nat} {R : List O → Prop} {z : Option O} {ts : List O} : @WO _ (outs rb j (t :: ts) (z :: e)) ⟨R⟩ = if rb.contains j = true then @WO _ (outs rb (j + 1) ts e) ⟨fun os => R (t :: os)⟩ else @WO _ z ⟨fun o => @WO _ (outs rb (j + 1) ts e) ⟨fun os => R (o :: os)⟩⟩ := by
  simp only [outs]
  cases outs rb (j + 1) ts e with
  | none =>
    cases z with
    | none => by_cases h : rb.contains j = true <;> simp [h, WO]
    | some o => by_cases h : rb.contains j = true <;> simp [h, WO]
  | some os =>
    by_cases h : rb.contains j = true
    · rw [if_pos h]; dsimp only; rw [if_pos h]; rfl
    · rw [if_neg h]; dsimp only; rw [if_neg h]; cases z <;> rfl
theorem shal_non {n : Nat} : shal n .non = true := nd (by cases n <;> rfl)
theorem shal_bl {n : Nat} {z : Bool} : shal n (.bl z) = true := nd (by cases n <;> rfl)
theorem shal_int {n : Nat} {z : Int} : shal n (.int z) = true := nd (by cases n <;> rfl)
theorem shal_str {n : Nat} {z : String} : shal n (.str z) = true := nd (by cases n <;> rfl)
theorem shal_nil {n : Nat} : shals n [] = true := nd (by cases n <;> rfl)
theorem shal_cons {n : Nat} {z : D} {zs : List D} : shals n (z :: zs) = (shal n z && shals n zs) := nd (by cases n <;> rfl)
theorem shal_lst {n : Nat} {zs : List D} : shal (n + 1) (.lst zs) = shals n zs := nd rfl
theorem shal_tup {n : Nat} {zs : List D} : shal (n + 1) (.tup zs) = shals n zs := nd rfl
theorem eqD_ii {i j : Int} : eqD (.int i) (.int j) = (i == j) := nd rfl
theorem eqD_ss {i j : String} : eqD (.str i) (.str j) = (i == j) := nd rfl
theorem eqD_bb {i j : Bool} : eqD (.bl i) (.bl j) = (i == j) := nd rfl
theorem eqD_nn : eqD .non .non = true := nd rfl
theorem eqD_ni {j : Int} : eqD .non (.int j) = false := nd rfl
theorem eqD_ns {j : String} : eqD .non (.str j) = false := nd rfl
theorem eqD_in {j : Int} : eqD (.int j) .non = false := nd rfl
theorem eqD_sn {j : String} : eqD (.str j) .non = false := nd rfl
theorem eqD_is {i : Int} {j : String} : eqD (.int i) (.str j) = false := nd rfl
theorem eqD_si {i : Int} {j : String} : eqD (.str j) (.int i) = false := nd rfl
theorem eqD_ll {u v : List D} : eqD (.lst u) (.lst v) = eqDs u v := nd rfl
theorem eqD_tt {u v : List D} : eqD (.tup u) (.tup v) = eqDs u v := nd rfl
theorem eqD_lt {u v : List D} : eqD (.lst u) (.tup v) = false := nd rfl
theorem eqD_tl {u v : List D} : eqD (.tup u) (.lst v) = false := nd rfl
theorem eqDs_nn : eqDs [] [] = true := nd rfl
theorem eqDs_cc {u v : D} {us vs : List D} : eqDs (u :: us) (v :: vs) = (eqD u v && eqDs us vs) := nd rfl
theorem eqDs_nc {v : D} {vs : List D} : eqDs [] (v :: vs) = false := nd rfl
theorem eqDs_cn {v : D} {vs : List D} : eqDs (v :: vs) [] = false := nd rfl
end
section
variable {α β : Type} {Q : α → Env → Prop} {X : Ex → Env → Prop}
theorem WE_ext {Q' : α → Env → Prop} {r : Rs α} (h : ∀ a e, Q a e = Q' a e) : @WE _ r ⟨Q⟩ ⟨X⟩ = @WE _ r ⟨Q'⟩ ⟨X⟩ := by
  obtain rfl : Q = Q' := funext fun a => funext fun e => h a e
  rfl
theorem Wb_ext {K K' : Bool → Prop} {o : O} (h : ∀ a, K a = K' a) : @Wb o ⟨K⟩ = @Wb o ⟨K'⟩ := by
  obtain rfl : K = K' := funext h
  rfl
theorem Wsl_ext {K K' : O → Prop} {o : Option (Option O)} (h : ∀ a, K a = K' a) : @Wsl o ⟨K⟩ = @Wsl o ⟨K'⟩ := by
  obtain rfl : K = K' := funext h
  rfl
theorem W_bind {r : Rs β} {f : β → Env → Rs α} : @WE _ (r.bind f) ⟨Q⟩ ⟨X⟩ = @WE _ r ⟨fun a e => @WE _ (f a e) ⟨Q⟩ ⟨X⟩⟩ ⟨X⟩ := by cases r <;> rfl
theorem W_okr {a : α} {e : Env} : @WE _ (.ok a e) ⟨Q⟩ ⟨X⟩ = Q a e := nd rfl
theorem W_st : @WE _ .st ⟨Q⟩ ⟨X⟩ = False := nd rfl
theorem WO_some {Q : α → Prop} {a : α} : @WO _ (some a) ⟨Q⟩ = Q a := nd rfl
theorem WO_none {Q : α → Prop} : @WO _ none ⟨Q⟩ = False := nd rfl
theorem Wsl_some {K : O → Prop} {o : O} : @Wsl (some (some o)) ⟨K⟩ = K o := nd rfl
theorem Wb_bl {K : Bool → Prop} {t : Bool} : @Wb (.d (.bl t)) ⟨K⟩ = K t := nd rfl
theorem W_slot {Q : O → Env → Prop} {e : Env} {i : Nat} : @WE _ (slot e i) ⟨Q⟩ ⟨X⟩ = @Wsl e[i]? ⟨fun o => Q o e⟩ := by
  unfold slot
  cases h : e[i]? with
  | none => rfl
  | some o => cases o <;> rfl
theorem W_giv {Q : O → Env → Prop} {m : Bool} {e : Env} {x : Option D} : @WE _ (giv m e x) ⟨Q⟩ ⟨X⟩ = @WO _ x ⟨fun d => Q (if m = true then ownOf d else .d d) e⟩ := by
  cases x <;> rfl
theorem W_tB {Q : Bool → Env → Prop} {o : O} {e : Env} : @WE _ (tB o e) ⟨Q⟩ ⟨X⟩ = @Wb o ⟨fun t => Q t e⟩ := by
  cases o with
  | d x => cases x <;> rfl
  | lst => rfl
  | dct => rfl
theorem W_mono {Q' : α → Env → Prop} {X' : Ex → Env → Prop} {r : Rs α} (h : @WE _ r ⟨Q⟩ ⟨X⟩) (hq : ∀ a e, Q a e → Q' a e) (hx : ∀ x e, X x e → X' x e) : @WE _ r ⟨Q'⟩ ⟨X'⟩ := by
  cases r with
  | ok a e => exact hq _ _ h
  | ex x e => exact hx _ _ h
  | st => exact h.elim
theorem WO_of {Q : α → Prop} {r : Option α} {a : α} (h : r = some a) (q : Q a) : @WO _ r ⟨Q⟩ := by rw [h]; exact q
theorem WC_mono {Q Q' : O → List O → Prop} {X X' : Ex → List O → Prop} {r : Option Out} (h : @WC r ⟨Q⟩ ⟨X⟩) (hq : ∀ o ts, Q o ts → Q' o ts) (hx : ∀ x ts, X x ts → X' x ts) : @WC r ⟨Q'⟩ ⟨X'⟩ := by
  cases r with
  | none => exact h.elim
  | some o =>
    cases o with
    | ret o ts => exact hq _ _ h
    | exc x ts => exact hx _ _ h
theorem WS_mono {P P' : Ps} {r : Fl} (h : @WS r P) (h1 : ∀ e, P.nx e → P'.nx e) (h2 : ∀ o e, P.rt o e → P'.rt o e) (h3 : ∀ x e, P.ex x e → P'.ex x e) (h4 : ∀ e, P.bk e → P'.bk e) (h5 : ∀ e, P.ct e → P'.ct e) : @WS r P' := by
  cases r with
  | nx e => exact h1 _ h
  | rt o e => exact h2 _ _ h
  | bk e => exact h4 _ h
  | ct e => exact h5 _ h
  | ex x e => exact h3 _ _ h
  | st => exact h.elim
end

section
variable {G : Gs} {Q : O → Env → Prop} {X : Ex → Env → Prop} {e : Env}
/-! ### quiet expressions -/
section
variable {c : Bool} {R : D → Prop} {RL : List D → Prop}
def slD (c : Bool) (o : O) : Option D := if c = true then (match o with
  | .d x => some x
  | _ => none) else some o.toD
theorem q_var {i : Nat} : @WO _ (q G c (.var i) e) ⟨R⟩ = @Wsl e[i]? ⟨fun o => @WO _ (slD c o) ⟨R⟩⟩ := by
  unfold q slD
  cases h : e[i]? with
  | none => rfl
  | some o => cases o <;> rfl
theorem slc_f {o : O} : slD false o = some o.toD := nd rfl
theorem slc_t {x : D} : slD true (.d x) = some x := nd rfl
theorem q_k {x : D} : @WO _ (q G c (.k x) e) ⟨R⟩ = R x := nd rfl
theorem q_g {x : String} : @WO _ (q G c (.g x) e) ⟨R⟩ = @WO _ (G.glob x) ⟨R⟩ := nd rfl
theorem q_op {f : OpK} {es : I} : @WO _ (q G c (.op f es) e) ⟨R⟩ = @WO _ (qs G es e) ⟨fun ds => @WO _ (opD f ds) ⟨R⟩⟩ := by
  rw [q]
  cases qs G es e <;> rfl
theorem q_mop {f : OpK} {o es : I} : @WO _ (q G c (.mop f o es) e) ⟨R⟩ = @WO _ (q G false o e) ⟨fun d => @WO _ (qs G es e) ⟨fun ds => tyD f d = true ∧ @WO _ (opD f (d :: ds)) ⟨R⟩⟩⟩ := by
  rw [q]
  cases q G false o e with
  | none => rfl
  | some d =>
    cases qs G es e with
    | none => rfl
    | some ds =>
      dsimp only [WO]
      by_cases h : tyD f d = true
      · rw [if_pos h]; simp only [h, true_and]
      · rw [if_neg h]; simp only [h]; simp
theorem q_slc {x lo hi : I} : @WO _ (q G c (.slc x lo hi) e) ⟨R⟩ = @WO _ (q G false x e) ⟨fun d => @WO _ (qI G lo e) ⟨fun i => @WO _ (qI G hi e) ⟨fun j => @WO _ (oSl i j d) ⟨R⟩⟩⟩⟩ := by
  rw [q]
  cases q G false x e with
  | none => rfl
  | some d => cases qI G lo e with
    | none => rfl
    | some i => cases qI G hi e <;> rfl
def WbD (d : D) [q : Hold (Bool → Prop)] : Prop := match d with
  | .bl t => q.f t
  | _ => False
theorem WbD_bl {K : Bool → Prop} {t : Bool} : @WbD (.bl t) ⟨K⟩ = K t := nd rfl
def Wch (t : Bool) (x : Option D) [q : Hold (D → Prop)] : Prop := if t = true then @WO _ x q else q.f (.bl false)
theorem Wch_bl {t u : Bool} {R : D → Prop} : @Wch t (some (.bl u)) ⟨R⟩ = R (.bl (t && u)) := by cases t <;> rfl
theorem q_ch {f h : OpK} {x y z : I} : @WO _ (q G c (.ch f h x y z) e) ⟨R⟩ = @WO _ (q G false x e) ⟨fun a => @WO _ (q G false y e) ⟨fun b => @WO _ (q G false z e) ⟨fun c => @WO _ (opD f [a, b]) ⟨fun r => @WbD r ⟨fun t => @Wch t (opD h [b, c]) ⟨R⟩⟩⟩⟩⟩⟩ := by
  rw [q]
  cases q G false x e with
  | none => rfl
  | some a => cases q G false y e with
    | none => rfl
    | some b => cases q G false z e with
      | none => rfl
      | some c =>
        dsimp only [WO]
        cases opD f [a, b] with
        | none => rfl
        | some r =>
          cases r with
          | bl t => cases t <;> rfl
          | _ => rfl
theorem q_and {es : I} : @WO _ (q G c (.and_ es) e) ⟨R⟩ = @WO _ (qAnd G es e) ⟨R⟩ := nd rfl
theorem q_or {es : I} : @WO _ (q G c (.or_ es) e) ⟨R⟩ = @WO _ (qOr G es e) ⟨R⟩ := nd rfl
theorem q_not {a : I} : @WO _ (q G c (.not_ a) e) ⟨R⟩ = @WO _ (q G false a e) ⟨fun d => @WbD d ⟨fun t => R (.bl (!t))⟩⟩ := by
  rw [q]
  cases q G false a e with
  | none => rfl
  | some d => cases d <;> rfl
theorem q_ite {t a b : I} : @WO _ (q G c (.ite t a b) e) ⟨R⟩ = @WO _ (q G false t e) ⟨fun d => @WbD d ⟨fun t => if t = true then @WO _ (q G c a e) ⟨R⟩ else @WO _ (q G c b e) ⟨R⟩⟩⟩ := by
  rw [q]
  cases q G false t e with
  | none => rfl
  | some d =>
    cases d with
    | bl t => cases t <;> rfl
    | _ => rfl
theorem q_lst {es : I} : @WO _ (q G c (.lst es) e) ⟨R⟩ = @WO _ (qcs G es e) ⟨fun ds => ds.length ≤ big ∧ R (.lst ds)⟩ := by
  rw [q]
  cases qcs G es e with
  | none => rfl
  | some ds =>
    dsimp only [WO]
    by_cases h : ds.length ≤ big
    · rw [if_pos h]; simp only [h, true_and]
    · rw [if_neg h]; simp only [h, false_and]
theorem q_tup {es : I} : @WO _ (q G c (.tup es) e) ⟨R⟩ = @WO _ (qcs G es e) ⟨fun ds => ds.length ≤ big ∧ R (.tup ds)⟩ := by
  rw [q]
  cases qcs G es e with
  | none => rfl
  | some ds =>
    dsimp only [WO]
    by_cases h : ds.length ≤ big
    · rw [if_pos h]; simp only [h, true_and]
    · rw [if_neg h]; simp only [h, false_and]
theorem q_dic {es : I} : @WO _ (q G c (.dic es) e) ⟨R⟩ = @WO _ (qcs G es e) ⟨fun ds => @WO _ (pairD ds) ⟨fun ps => (ps.length ≤ 15 ∧ (ps.map fun p => keyD p.1).Nodup) ∧ R (.dct ps)⟩⟩ := by
  rw [q]
  cases qcs G es e with
  | none => rfl
  | some ds =>
    show @WO _ (match pairD ds with
      | some ps => if ps.length ≤ 15 ∧ (ps.map fun p => keyD p.1).Nodup then some (D.dct ps) else none
      | none => none) ⟨R⟩ = @WO _ (pairD ds) ⟨fun ps => (ps.length ≤ 15 ∧ (ps.map fun p => keyD p.1).Nodup) ∧ R (.dct ps)⟩
    cases pairD ds with
    | none => rfl
    | some ps =>
      show @WO _ (if ps.length ≤ 15 ∧ (ps.map fun p => keyD p.1).Nodup then some (D.dct ps) else none) ⟨R⟩ = ((ps.length ≤ 15 ∧ (ps.map fun p => keyD p.1).Nodup) ∧ R (.dct ps))
      by_cases h : ps.length ≤ 15 ∧ (ps.map fun p => keyD p.1).Nodup
      · rw [if_pos h]; exact propext ⟨fun z => ⟨h, z⟩, fun z => z.2⟩
      · rw [if_neg h]; exact propext ⟨fun z => z.elim, fun z => h z.1⟩
theorem pairD_nil {R : List (D × D) → Prop} : @WO _ (pairD []) ⟨R⟩ = R [] := nd rfl
theorem pairD_cons {a b : D} {r : List D} {R : List (D × D) → Prop} : @WO _ (pairD (a :: b :: r)) ⟨R⟩ = ((keyD a).isSome = true ∧ @WO _ (pairD r) ⟨fun ps => R ((a, b) :: ps)⟩) := by
  rw [pairD]
  cases keyD a with
  | none => exact propext ⟨fun z => z.elim, fun z => by cases z.1⟩
  | some k =>
    cases pairD r with
    | none => exact propext ⟨fun z => z.elim, fun z => z.2⟩
    | some ps => exact propext ⟨fun z => ⟨rfl, z⟩, fun z => z.2⟩
/-- one turn of a quiet comprehension -/
def lcQ (G : Gs) (elt : I) (tg : Tg) (ifs : I) (e : Env) (x : D) : Option (Option D) := match tgSet tg x (forget (tgSlots tg) e) with
  | some e' => match qTs G ifs e' with
    | some true => match q G true elt e' with
      | some y => some (some y)
      | none => none
    | some false => some none
    | none => none
  | none => none
theorem q_lc {elt : I} {tg : Tg} {k : ItK} {es ifs : I} : @WO _ (q G c (.lc elt tg k es ifs) e) ⟨R⟩ = @WO _ (qs G es e) ⟨fun ds => @WO _ (itD k ds) ⟨fun xs => xs.length ≤ big ∧ @WO _ (qLp (lcQ G elt tg ifs e) xs) ⟨fun ys => R (.lst ys)⟩⟩⟩ := by
  rw [q]
  cases qs G es e with
  | none => rfl
  | some ds =>
    dsimp only [WO]
    cases itD k ds with
    | none => rfl
    | some xs =>
      dsimp only
      by_cases h : xs.length ≤ big
      · rw [if_pos h]; simp only [h, true_and]
        show @WO _ (match qLp (lcQ G elt tg ifs e) xs with
          | some ys => some (.lst ys)
          | none => none) ⟨R⟩ = _
        cases qLp (lcQ G elt tg ifs e) xs <;> rfl
      · rw [if_neg h]; simp only [h, false_and]
theorem qs_nil {RL : List D → Prop} : @WO _ (qs G .nil e) ⟨RL⟩ = RL [] := nd rfl
theorem qs_cons {a r : I} : @WO _ (qs G (.cons a r) e) ⟨RL⟩ = @WO _ (q G false a e) ⟨fun d => @WO _ (qs G r e) ⟨fun ds => RL (d :: ds)⟩⟩ := by
  rw [qs]
  cases q G false a e with
  | none => rfl
  | some d => cases qs G r e <;> rfl
theorem qcs_nil : @WO _ (qcs G .nil e) ⟨RL⟩ = RL [] := nd rfl
theorem qcs_cons {a r : I} : @WO _ (qcs G (.cons a r) e) ⟨RL⟩ = @WO _ (q G true a e) ⟨fun d => @WO _ (qcs G r e) ⟨fun ds => RL (d :: ds)⟩⟩ := by
  rw [qcs]
  cases q G true a e with
  | none => rfl
  | some d => cases qcs G r e <;> rfl
theorem qI_nil {R : Option Int → Prop} : @WO _ (qI G .nil e) ⟨R⟩ = R none := nd rfl
def WiD (d : D) [q : Hold (Int → Prop)] : Prop := match d with
  | .int t => q.f t
  | _ => False
theorem WiD_int {K : Int → Prop} {t : Int} : @WiD (.int t) ⟨K⟩ = K t := nd rfl
theorem qI_cons {R : Option Int → Prop} {a r : I} : @WO _ (qI G (.cons a r) e) ⟨R⟩ = @WO _ (q G false a e) ⟨fun d => @WiD d ⟨fun i => R (some i)⟩⟩ := by
  rw [qI]
  cases q G false a e with
  | none => rfl
  | some d => cases d <;> rfl
theorem qTs_nil {R : Bool → Prop} : @WO _ (qTs G .nil e) ⟨R⟩ = R true := nd rfl
theorem qTs_cons {R : Bool → Prop} {a r : I} : @WO _ (qTs G (.cons a r) e) ⟨R⟩ = @WO _ (q G false a e) ⟨fun d => @WbD d ⟨R⟩⟩ := by
  rw [qTs]
  cases q G false a e with
  | none => rfl
  | some d => cases d <;> rfl
theorem qAnd_1 {a : I} : @WO _ (qAnd G (.cons a .nil) e) ⟨R⟩ = @WO _ (q G false a e) ⟨fun d => @WbD d ⟨fun t => R (.bl t)⟩⟩ := by
  rw [qAnd]
  cases q G false a e with
  | none => rfl
  | some d => cases d <;> rfl
theorem qAnd_2 {a b r : I} : @WO _ (qAnd G (.cons a (.cons b r)) e) ⟨R⟩ = @WO _ (q G false a e) ⟨fun d => @WbD d ⟨fun t => if t = true then @WO _ (qAnd G (.cons b r) e) ⟨R⟩ else R (.bl false)⟩⟩ := by
  rw [qAnd]
  cases q G false a e with
  | none => rfl
  | some d =>
    cases d with
    | bl t => cases t <;> rfl
    | _ => rfl
  · intro h; cases h
theorem qOr_1 {a : I} : @WO _ (qOr G (.cons a .nil) e) ⟨R⟩ = @WO _ (q G false a e) ⟨fun d => @WbD d ⟨fun t => R (.bl t)⟩⟩ := by
  rw [qOr]
  cases q G false a e with
  | none => rfl
  | some d => cases d <;> rfl
theorem qOr_2 {a b r : I} : @WO _ (qOr G (.cons a (.cons b r)) e) ⟨R⟩ = @WO _ (q G false a e) ⟨fun d => @WbD d ⟨fun t => if t = true then R (.bl true) else @WO _ (qOr G (.cons b r) e) ⟨R⟩⟩⟩ := by
  rw [qOr]
  cases q G false a e with
  | none => rfl
  | some d =>
    cases d with
    | bl t => cases t <;> rfl
    | _ => rfl
  · intro h; cases h
end
/-! ### expressions -/
theorem e_var {i : Nat} : @WE _ (evl G (.var i) e) ⟨Q⟩ ⟨X⟩ = @Wsl e[i]? ⟨fun o => Q (.d o.toD) (e.set i (some (.d o.toD)))⟩ := by
  rw [evl, W_bind, W_slot]; rfl
theorem e_fv {i : Nat} : @WE _ (evl G (.fv i) e) ⟨Q⟩ ⟨X⟩ = @Wsl e[i]? ⟨fun o => Q (.d o.toD) (e.set i (some (.d o.toD)))⟩ := by
  rw [evl, W_bind, W_slot]; rfl
theorem e_mv {i : Nat} : @WE _ (evl G (.mv i) e) ⟨Q⟩ ⟨X⟩ = @Wsl e[i]? ⟨fun o => Q o (e.set i none)⟩ := by
  rw [evl, W_bind, W_slot]; rfl
theorem e_k {x : D} : @WE _ (evl G (.k x) e) ⟨Q⟩ ⟨X⟩ = Q (.d x) e := nd rfl
theorem e_g {x : String} : @WE _ (evl G (.g x) e) ⟨Q⟩ ⟨X⟩ = @WO _ (G.glob x) ⟨fun d => Q (.d d) e⟩ := by
  rw [evl, W_giv]
theorem e_opw {f : OpK} {es : I} : @WE _ (evl G (.op f es) e) ⟨Q⟩ ⟨X⟩ = @WE _ (evL G es e) ⟨fun ds e1 => @WO _ (opD f ds) ⟨fun d => Q (if mk f = true then ownOf d else .d d) e1⟩⟩ ⟨X⟩ := by
  rw [evl, W_bind]; refine WE_ext fun ds e1 => ?_; rw [W_giv]
theorem W_if {α : Type} {Q : α → Env → Prop} {c : Prop} [Decidable c] {a b : Rs α} : @WE _ (if c then a else b) ⟨Q⟩ ⟨X⟩ = if c then @WE _ a ⟨Q⟩ ⟨X⟩ else @WE _ b ⟨Q⟩ ⟨X⟩ := by
  by_cases h : c
  · rw [if_pos h, if_pos h]
  · rw [if_neg h, if_neg h]
def mopVar (G : Gs) (o es : I) (e : Env) : Rs O := match o with
  | .var i => (slot e i).bind fun o0 e => if tyD .get2 o0.toD = true then (evL G es e).bind fun ds e1 => (slot e1 i).bind fun o1 e1 => giv false e1 (opD .get2 (o1.toD :: ds)) else .st
  | _ => .st
theorem e_mop {f : OpK} {o es : I} : @WE _ (evl G (.mop f o es) e) ⟨Q⟩ ⟨X⟩ = if quiet o = true ∧ lentE o = false ∧ f ≠ .get2 then
    @WO _ (q G false o e) ⟨fun d0 => tyD f d0 = true ∧ @WE _ (evL G es e) ⟨fun ds e1 => @WO _ (opD f (d0 :: ds)) ⟨fun d => Q (if mk f = true then ownOf d else .d d) e1⟩⟩ ⟨X⟩⟩
    else if quiet o = true ∧ quiet es = true then @WO _ (q G false (.mop f o es) e) ⟨fun d => Q (.d d) e⟩
    else if f = .get2 ∧ dfl es = true then @WE _ (mopVar G o es e) ⟨Q⟩ ⟨X⟩ else False := by
  have he : evl G (.mop f o es) e = if quiet o = true ∧ lentE o = false ∧ f ≠ .get2 then (match q G false o e with
      | some d0 => if tyD f d0 = true then (evL G es e).bind fun ds e1 => giv (mk f) e1 (opD f (d0 :: ds)) else .st
      | none => .st)
    else if quiet o = true ∧ quiet es = true then giv false e (q G false (.mop f o es) e)
    else if f = .get2 ∧ dfl es = true then (match o with
      | .var i => (slot e i).bind fun o0 e => if tyD .get2 o0.toD = true then (evL G es e).bind fun ds e1 => (slot e1 i).bind fun o1 e1 => giv false e1 (opD .get2 (o1.toD :: ds)) else .st
      | _ => .st) else .st := by cases o <;> rfl
  rw [he]
  by_cases h : quiet o = true ∧ lentE o = false ∧ f ≠ .get2
  · rw [if_pos h, if_pos h]
    cases q G false o e with
    | none => rfl
    | some d0 =>
      dsimp only [WO]
      by_cases h2 : tyD f d0 = true
      · rw [if_pos h2, W_bind]; simp only [h2, true_and]; refine WE_ext fun ds e1 => ?_; rw [W_giv]
      · rw [if_neg h2]; simp [h2]; exact id
  · rw [if_neg h, if_neg h]
    by_cases h2 : quiet o = true ∧ quiet es = true
    · rw [if_pos h2, if_pos h2, W_giv]
    · rw [if_neg h2, if_neg h2]
      by_cases h3 : f = .get2 ∧ dfl es = true
      · rw [if_pos h3, if_pos h3]; rfl
      · rw [if_neg h3, if_neg h3]; rfl
/-- d.get(x, c) where x is told by a call -/
theorem e_mopv {i : Nat} {es : I} : @WE _ (mopVar G (.var i) es e) ⟨Q⟩ ⟨X⟩ = @Wsl e[i]? ⟨fun o0 => tyD .get2 o0.toD = true ∧ @WE _ (evL G es e) ⟨fun ds e1 => @Wsl e1[i]? ⟨fun o1 => @WO _ (opD .get2 (o1.toD :: ds)) ⟨fun d => Q (.d d) e1⟩⟩⟩ ⟨X⟩⟩ := by
  rw [mopVar, W_bind, W_slot]
  refine Wsl_ext fun o0 => ?_
  rw [W_if]
  by_cases h : tyD .get2 o0.toD = true
  · rw [if_pos h, W_bind]
    refine Eq.trans ?_ (propext ⟨fun z => ⟨h, z⟩, fun z => z.2⟩)
    refine WE_ext fun ds e1 => ?_
    rw [W_bind, W_slot]
    refine Wsl_ext fun o1 => ?_
    rw [W_giv]
  · rw [if_neg h]
    exact propext ⟨fun z => z.elim, fun z => h z.1⟩
theorem dfl_k {a : I} {c : D} : dfl (.cons a (.cons (.k c) .nil)) = flat c := nd rfl
theorem e_slcV {i : Nat} {lo hi : I} : @WE _ (evl G (.slc (.var i) lo hi) e) ⟨Q⟩ ⟨X⟩ = @Wsl e[i]? ⟨fun _ => @WE _ (evI G lo e) ⟨fun l e1 => @WE _ (evI G hi e1) ⟨fun h e2 => @Wsl e2[i]? ⟨fun o => @WO _ (oSl l h o.toD) ⟨fun d => Q (ownOf d) e2⟩⟩⟩ ⟨X⟩⟩ ⟨X⟩⟩ := by
  rw [evl, W_bind, W_slot]; refine Wsl_ext fun _ => ?_; rw [W_bind]; refine WE_ext fun l e1 => ?_; rw [W_bind]; refine WE_ext fun h e2 => ?_; rw [W_bind, W_slot]; refine Wsl_ext fun o => ?_; rw [W_giv]
theorem e_slcE {x lo hi : I} (h : ∀ i, x ≠ .var i) : @WE _ (evl G (.slc x lo hi) e) ⟨Q⟩ ⟨X⟩ = (lentE x = false ∧ @WE _ (evl G x e) ⟨fun o e0 => @WE _ (evI G lo e0) ⟨fun l e1 => @WE _ (evI G hi e1) ⟨fun h e2 => @WO _ (oSl l h o.toD) ⟨fun d => Q (ownOf d) e2⟩⟩ ⟨X⟩⟩ ⟨X⟩⟩ ⟨X⟩) := by
  rw [evl]
  · by_cases hl : lentE x = true
    · rw [if_pos hl]; simp [hl, W_st]
    · rw [if_neg hl]
      rw [Bool.eq_false_iff.mpr hl]
      rw [W_bind]; simp only [true_and]; refine WE_ext fun o e0 => ?_; rw [W_bind]; refine WE_ext fun l e1 => ?_; rw [W_bind]; refine WE_ext fun h e2 => ?_; rw [W_giv]
  · intro i hi; exact h i hi
theorem e_ch {f h : OpK} {a b c : I} : @WE _ (evl G (.ch f h a b c) e) ⟨Q⟩ ⟨X⟩ = (quiet a = true ∧ quiet b = true ∧ quiet c = true ∧ @WO _ (q G false (.ch f h a b c) e) ⟨fun d => Q (.d d) e⟩) := by
  rw [evl]
  by_cases hc : quiet a = true ∧ quiet b = true ∧ quiet c = true
  · rw [if_pos hc, W_giv]; simp only [hc, true_and]
  · rw [if_neg hc]
    have : ∀ p : Prop, (quiet a = true ∧ quiet b = true ∧ quiet c = true ∧ p) = ((quiet a = true ∧ quiet b = true ∧ quiet c = true) ∧ p) := fun p => by simp only [and_assoc]
    rw [this]; simp only [hc, false_and]; rfl
theorem e_and {es : I} : @WE _ (evl G (.and_ es) e) ⟨Q⟩ ⟨X⟩ = @WE _ (evAnd G es e) ⟨Q⟩ ⟨X⟩ := nd rfl
theorem e_or {es : I} : @WE _ (evl G (.or_ es) e) ⟨Q⟩ ⟨X⟩ = @WE _ (evOr G es e) ⟨Q⟩ ⟨X⟩ := nd rfl
theorem e_not {a : I} : @WE _ (evl G (.not_ a) e) ⟨Q⟩ ⟨X⟩ = @WE _ (evl G a e) ⟨fun o e1 => @Wb o ⟨fun t => Q (.d (.bl (!t))) e1⟩⟩ ⟨X⟩ := by
  rw [evl, W_bind]; refine WE_ext fun o e1 => ?_; rw [W_bind, W_tB]; rfl
theorem e_ite {c a b : I} : @WE _ (evl G (.ite c a b) e) ⟨Q⟩ ⟨X⟩ = @WE _ (evl G c e) ⟨fun o e1 => @Wb o ⟨fun t => if t = true then @WE _ (evl G a e1) ⟨Q⟩ ⟨X⟩ else @WE _ (evl G b e1) ⟨Q⟩ ⟨X⟩⟩⟩ ⟨X⟩ := by
  rw [evl, W_bind]; refine WE_ext fun o e1 => ?_; rw [W_bind, W_tB]; refine Wb_ext fun t => ?_; rw [W_if]
theorem e_lst {es : I} : @WE _ (evl G (.lst es) e) ⟨Q⟩ ⟨X⟩ = @WE _ (evV G es e) ⟨fun ds e1 => ds.length ≤ big ∧ Q (.lst ds) e1⟩ ⟨X⟩ := by
  rw [evl, W_bind]
  refine WE_ext fun ds e1 => ?_
  rw [W_if]
  by_cases h : ds.length ≤ big
  · rw [if_pos h]; simp only [h, true_and]; rfl
  · rw [if_neg h]; simp only [h, false_and]; rfl
theorem e_tup {es : I} : @WE _ (evl G (.tup es) e) ⟨Q⟩ ⟨X⟩ = @WE _ (evV G es e) ⟨fun ds e1 => ds.length ≤ big ∧ Q (.d (.tup ds)) e1⟩ ⟨X⟩ := by
  rw [evl, W_bind]
  refine WE_ext fun ds e1 => ?_
  rw [W_if]
  by_cases h : ds.length ≤ big
  · rw [if_pos h]; simp only [h, true_and]; rfl
  · rw [if_neg h]; simp only [h, false_and]; rfl
theorem e_dic0 : @WE _ (evl G (.dic .nil) e) ⟨Q⟩ ⟨X⟩ = Q (.dct []) e := nd rfl
theorem e_dic {a r : I} : @WE _ (evl G (.dic (.cons a r)) e) ⟨Q⟩ ⟨X⟩ = (quiet (.cons a r) = true ∧ @WO _ (q G false (.dic (.cons a r)) e) ⟨fun d => Q (.d d) e⟩) := by
  rw [evl]
  · rw [W_if]
    by_cases h : quiet (.cons a r) = true
    · rw [if_pos h, W_giv]; exact propext ⟨fun z => ⟨h, z⟩, fun z => z.2⟩
    · rw [if_neg h]; exact propext ⟨fun z => z.elim, fun z => h z.1⟩
  · intro h; cases h
/-- one turn of a comprehension -/
def lcE (G : Gs) (elt : I) (tg : Tg) (ifs : I) (x : D) (e2 : Env) : Rs (Option D) := match tgSet tg x e2 with
  | some e3 => (evTs G ifs e3).bind fun t e4 => if t = true then (evl G elt e4).bind fun o e5 => .ok (some o.toD) (forget (tgSlots tg) e5) else .ok none (forget (tgSlots tg) e4)
  | none => .st
theorem e_lcw {elt : I} {tg : Tg} {k : ItK} {es ifs : I} : @WE _ (evl G (.lc elt tg k es ifs) e) ⟨Q⟩ ⟨X⟩ = @WE _ (evV G es e) ⟨fun ds e1 => @WO _ (itD k ds) ⟨fun xs => xs.length ≤ big ∧ @WE _ (lcLp (lcE G elt tg ifs) xs (forget (tgSlots tg) e1)).nox ⟨fun ys e2 => Q (.lst ys) e2⟩ ⟨X⟩⟩⟩ ⟨X⟩ := by
  rw [evl, W_bind]
  refine WE_ext fun ds e1 => ?_
  cases itD k ds with
  | none => rfl
  | some xs =>
    dsimp only [WO]
    rw [W_if]
    by_cases h : xs.length ≤ big
    · rw [if_pos h, W_bind]; simp only [h, true_and]; rfl
    · rw [if_neg h]; simp only [h, false_and]; rfl
theorem e_callw {d : Nat} {es : I} : @WE _ (evl G (.call d es) e) ⟨Q⟩ ⟨X⟩ = @WE _ (evA G es e) ⟨fun as e1 => arOk e1 as = true ∧ @WO _ (arOs e1 as) ⟨fun ts => @WC (G.call d ts) ⟨fun o ts' => @WO _ (back as ts' e1) ⟨fun e2 => Q o e2⟩⟩ ⟨fun x ts' => @WO _ (back as ts' e1) ⟨fun e2 => X x e2⟩⟩⟩⟩ ⟨X⟩ := by
  rw [evl, W_bind]
  refine WE_ext fun as e1 => ?_
  rw [W_if]
  by_cases h : arOk e1 as = true
  · rw [if_pos h]; simp only [h, true_and]
    cases arOs e1 as with
    | none => rfl
    | some ts =>
      dsimp only [WO]
      cases G.call d ts with
      | none => rfl
      | some o =>
        cases o with
        | ret o ts' =>
          dsimp only [WC]
          cases back as ts' e1 <;> rfl
        | exc x ts' =>
          dsimp only [WC]
          cases back as ts' e1 <;> rfl
  · rw [if_neg h]; simp only [h]; exact (eq_false fun z => Bool.noConfusion z.1).symm
/-- a list in a slot -/
def Wli (x : Option (Option O)) [q : Hold (List D → Prop)] : Prop := match x with
  | some (some (.lst xs)) => q.f xs
  | _ => False
theorem Wli_some {K : List D → Prop} {xs : List D} : @Wli (some (some (.lst xs))) ⟨K⟩ = K xs := nd rfl
def WM (x : Option (D × O)) [q : Hold (D → List D → Prop)] : Prop := match x with
  | some (r, .lst xs) => q.f r xs
  | _ => False
theorem e_mut {m : MK} {i : Nat} {es : I} : @WE _ (evl G (.mut m i es) e) ⟨Q⟩ ⟨X⟩ = @Wli e[i]? ⟨fun _ => mutRule m = true ∧ @WE _ (evV G es e) ⟨fun ds e1 => @Wli e1[i]? ⟨fun xs => @WM (mutD m (.lst xs) ds) ⟨fun r xs' => Q (.d r) (e1.set i (some (.lst xs')))⟩⟩⟩ ⟨X⟩⟩ := by
  rw [evl]
  cases h : e[i]? with
  | none => rfl
  | some o =>
    cases o with
    | none => rfl
    | some o =>
      cases o with
      | d x => rfl
      | dct x => rfl
      | lst xs0 =>
        dsimp only [Wli]
        rw [W_if]
        by_cases h : mutRule m = true
        · rw [if_pos h, W_bind]; simp only [h, true_and]
          refine WE_ext fun ds e1 => ?_
          cases h : e1[i]? with
          | none => rfl
          | some o =>
            cases o with
            | none => rfl
            | some o =>
              cases o with
              | d x => rfl
              | dct x => rfl
              | lst xs =>
                rw [show ∀ K, @Wli (some (some (.lst xs))) ⟨K⟩ = K xs from fun _ => rfl]
                dsimp only
                cases mutD m (.lst xs) ds with
                | none => rfl
                | some p =>
                  obtain ⟨r, o⟩ := p
                  cases o <;> rfl
        · rw [if_neg h]; simp only [h]; exact (eq_false fun z => Bool.noConfusion z.1).symm
theorem m_app {K : D → List D → Prop} {xs : List D} {x : D} : @WM (mutD .app (.lst xs) [x]) ⟨K⟩ = (xs.length < big ∧ K .non (xs ++ [x])) := by
  simp only [mutD]
  by_cases h : xs.length < big
  · rw [if_pos h]; simp only [h, true_and]; rfl
  · rw [if_neg h]; simp only [h, false_and]; rfl
theorem m_ext {K : D → List D → Prop} {xs ys : List D} : @WM (mutD .ext (.lst xs) [.lst ys]) ⟨K⟩ = (xs.length + ys.length ≤ big ∧ K .non (xs ++ ys)) := by
  simp only [mutD]
  by_cases h : xs.length + ys.length ≤ big
  · rw [if_pos h]; simp only [h, true_and]; rfl
  · rw [if_neg h]; simp only [h, false_and]; rfl
theorem m_clr {K : D → List D → Prop} {xs : List D} : @WM (mutD .clr (.lst xs) []) ⟨K⟩ = K .non [] := nd rfl
theorem evAnd_1 {a : I} : @WE _ (evAnd G (.cons a .nil) e) ⟨Q⟩ ⟨X⟩ = @WE _ (evl G a e) ⟨fun o e1 => @Wb o ⟨fun t => Q (.d (.bl t)) e1⟩⟩ ⟨X⟩ := by
  rw [evAnd, W_bind]; refine WE_ext fun o e1 => ?_; rw [W_bind, W_tB]; rfl
theorem evAnd_2 {a b r : I} : @WE _ (evAnd G (.cons a (.cons b r)) e) ⟨Q⟩ ⟨X⟩ = @WE _ (evl G a e) ⟨fun o e1 => @Wb o ⟨fun t => if t = true then @WE _ (evAnd G (.cons b r) e1) ⟨Q⟩ ⟨X⟩ else Q (.d (.bl false)) e1⟩⟩ ⟨X⟩ := by
  rw [evAnd, W_bind]
  · refine WE_ext fun o e1 => ?_; rw [W_bind, W_tB]; refine Wb_ext fun t => ?_; rw [W_if]; rfl
  · intro h; cases h
theorem evOr_1 {a : I} : @WE _ (evOr G (.cons a .nil) e) ⟨Q⟩ ⟨X⟩ = @WE _ (evl G a e) ⟨fun o e1 => @Wb o ⟨fun t => Q (.d (.bl t)) e1⟩⟩ ⟨X⟩ := by
  rw [evOr, W_bind]; refine WE_ext fun o e1 => ?_; rw [W_bind, W_tB]; rfl
theorem evOr_2 {a b r : I} : @WE _ (evOr G (.cons a (.cons b r)) e) ⟨Q⟩ ⟨X⟩ = @WE _ (evl G a e) ⟨fun o e1 => @Wb o ⟨fun t => if t = true then Q (.d (.bl true)) e1 else @WE _ (evOr G (.cons b r) e1) ⟨Q⟩ ⟨X⟩⟩⟩ ⟨X⟩ := by
  rw [evOr, W_bind]
  · refine WE_ext fun o e1 => ?_; rw [W_bind, W_tB]; refine Wb_ext fun t => ?_; rw [W_if]; rfl
  · intro h; cases h
section
variable {QI : Option Int → Env → Prop} {QB : Bool → Env → Prop} {QL : List D → Env → Prop} {QA : List Ar → Env → Prop}
def Wi (o : O) [q : Hold (Int → Prop)] : Prop := match o with
  | .d (.int t) => q.f t
  | _ => False
theorem Wi_int {K : Int → Prop} {t : Int} : @Wi (.d (.int t)) ⟨K⟩ = K t := nd rfl
theorem evI_nil : @WE _ (evI G .nil e) ⟨QI⟩ ⟨X⟩ = QI none e := nd rfl
theorem evI_1 {a : I} : @WE _ (evI G (.cons a .nil) e) ⟨QI⟩ ⟨X⟩ = @WE _ (evl G a e) ⟨fun o e1 => @Wi o ⟨fun i => QI (some i) e1⟩⟩ ⟨X⟩ := by
  rw [evI, W_bind]
  refine WE_ext fun o e1 => ?_
  cases o with
  | d x => cases x <;> rfl
  | lst => rfl
  | dct => rfl
theorem evL_nil : @WE _ (evL G .nil e) ⟨QL⟩ ⟨X⟩ = QL [] e := nd rfl
theorem evL_var {i : Nat} {r : I} : @WE _ (evL G (.cons (.var i) r) e) ⟨QL⟩ ⟨X⟩ = @Wsl e[i]? ⟨fun _ => @WE _ (evL G r e) ⟨fun ds e1 => @Wsl e1[i]? ⟨fun o => QL (o.toD :: ds) e1⟩⟩ ⟨X⟩⟩ := by
  rw [evL, W_bind, W_slot]; refine Wsl_ext fun _ => ?_; rw [W_bind]; refine WE_ext fun ds e1 => ?_; rw [W_bind, W_slot]; rfl
theorem evL_o {a r : I} (h : ∀ i, a ≠ .var i) : @WE _ (evL G (.cons a r) e) ⟨QL⟩ ⟨X⟩ = if quiet a = true ∧ lentE a = false then @WO _ (q G false a e) ⟨fun d => @WE _ (evL G r e) ⟨fun ds e1 => QL (d :: ds) e1⟩ ⟨X⟩⟩
    else @WE _ (evl G a e) ⟨fun o e1 => @WE _ (evL G r e1) ⟨fun ds e2 => QL (o.toD :: ds) e2⟩ ⟨X⟩⟩ ⟨X⟩ := by
  rw [evL]
  · rw [W_if]
    congr 1
    · cases q G false a e with
      | none => rfl
      | some d => dsimp only [WO]; rw [W_bind]; rfl
    · rw [W_bind]; refine WE_ext fun o e1 => ?_; rw [W_bind]; rfl
  · exact fun i hi => h i hi
theorem evV_nil : @WE _ (evV G .nil e) ⟨QL⟩ ⟨X⟩ = QL [] e := nd rfl
theorem evV_cons {a r : I} : @WE _ (evV G (.cons a r) e) ⟨QL⟩ ⟨X⟩ = @WE _ (evl G a e) ⟨fun o e1 => @WE _ (evV G r e1) ⟨fun ds e2 => QL (o.toD :: ds) e2⟩ ⟨X⟩⟩ ⟨X⟩ := by
  rw [evV, W_bind]; refine WE_ext fun o e1 => ?_; rw [W_bind]; rfl
theorem evA_nil : @WE _ (evA G .nil e) ⟨QA⟩ ⟨X⟩ = QA [] e := nd rfl
theorem evA_var {i : Nat} {r : I} : @WE _ (evA G (.cons (.var i) r) e) ⟨QA⟩ ⟨X⟩ = @Wsl e[i]? ⟨fun _ => @WE _ (evA G r e) ⟨fun as e1 => QA (.sl i :: as) e1⟩ ⟨X⟩⟩ := by
  rw [evA, W_bind, W_slot]; refine Wsl_ext fun _ => ?_; rw [W_bind]; rfl
theorem evA_o {a r : I} (h : ∀ i, a ≠ .var i) : @WE _ (evA G (.cons a r) e) ⟨QA⟩ ⟨X⟩ = @WE _ (evl G a e) ⟨fun o e1 => @WE _ (evA G r e1) ⟨fun as e2 => QA (.tm o :: as) e2⟩ ⟨X⟩⟩ ⟨X⟩ := by
  rw [evA]
  · rw [W_bind]; refine WE_ext fun o e1 => ?_; rw [W_bind]; rfl
  · exact fun i hi => h i hi
theorem evTs_nil : @WE _ (evTs G .nil e) ⟨QB⟩ ⟨X⟩ = QB true e := nd rfl
theorem evTs_1 {a : I} : @WE _ (evTs G (.cons a .nil) e) ⟨QB⟩ ⟨X⟩ = @WE _ (evl G a e) ⟨fun o e1 => @Wb o ⟨fun t => QB t e1⟩⟩ ⟨X⟩ := by
  rw [evTs, W_bind]; refine WE_ext fun o e1 => ?_; rw [W_tB]
end
/-! ### statements -/
variable {P : Ps}
theorem WS_bnd {α : Type} {r : Rs α} {f : α → Env → Fl} : @WS (r.bnd f) P = @WE _ r ⟨fun a e => @WS (f a e) P⟩ ⟨P.ex⟩ := by cases r <;> rfl
theorem WS_if {c : Prop} [Decidable c] {a b : Fl} : @WS (if c then a else b) P = if c then @WS a P else @WS b P := by
  by_cases h : c
  · rw [if_pos h, if_pos h]
  · rw [if_neg h, if_neg h]
theorem WS_seq {a b : S} : @WS (exe G (.seq a b) e) P = @WS (exe G a e) ⟨fun e1 => @WS (exe G b e1) P, P.rt, P.ex, P.bk, P.ct⟩ := by
  rw [exe]
  cases exe G a e <;> rfl
theorem WS_ex {a : I} : @WS (exe G (.ex a) e) P = @WE _ (evl G a e) ⟨fun _ e1 => P.nx e1⟩ ⟨P.ex⟩ := by
  rw [exe, WS_bnd]; rfl
theorem WS_setn {i : Nat} {a : I} : @WS (exe G (.set (.n i) a) e) P = @WE _ (evl G a e) ⟨fun o e1 => i < e1.length ∧ P.nx (e1.set i (some o))⟩ ⟨P.ex⟩ := by
  rw [exe, WS_bnd]
  refine WE_ext fun o e1 => ?_
  dsimp only
  rw [WS_if]
  by_cases h : i < e1.length
  · rw [if_pos h]; simp only [h, true_and]; rfl
  · rw [if_neg h]; simp only [h, false_and]; rfl
theorem WS_sett {x y : Tg} {a : I} : @WS (exe G (.set (.cons x y) a) e) P = @WE _ (evl G a e) ⟨fun o e1 => @WO _ (tgSet (.cons x y) o.toD e1) ⟨P.nx⟩⟩ ⟨P.ex⟩ := by
  rw [exe, WS_bnd]
  refine WE_ext fun o e1 => ?_
  dsimp only
  cases tgSet (.cons x y) o.toD e1 <;> rfl
theorem WS_par {i j : Nat} {a b : I} : @WS (exe G (.par i j a b) e) P = @WE _ (evl G a e) ⟨fun o e1 => @WE _ (evl G b e1) ⟨fun o2 e2 => (i < e2.length ∧ j < e2.length ∧ i ≠ j) ∧ P.nx ((e2.set i (some (.d o.toD))).set j (some (.d o2.toD)))⟩ ⟨P.ex⟩⟩ ⟨P.ex⟩ := by
  rw [exe, WS_bnd, evV_cons]
  refine WE_ext fun o e1 => ?_
  rw [evV_cons]
  refine WE_ext fun o2 e2 => ?_
  rw [evV_nil]
  dsimp only
  rw [WS_if]
  by_cases h : i < e2.length ∧ j < e2.length ∧ i ≠ j
  · rw [if_pos h]; exact propext ⟨fun z => ⟨h, z⟩, fun z => z.2⟩
  · rw [if_neg h]; simp only [h, false_and]; rfl
def Wint (x : Option (Option O)) [q : Hold (Int → Prop)] : Prop := match x with
  | some (some (.d (.int n))) => q.f n
  | _ => False
theorem Wint_some {K : Int → Prop} {n : Int} : @Wint (some (some (.d (.int n)))) ⟨K⟩ = K n := nd rfl
theorem WS_aug {i : Nat} {f : OpK} {a : I} : @WS (exe G (.aug i f a) e) P = @Wint e[i]? ⟨fun n => @WE _ (evl G a e) ⟨fun o e1 => @WO _ (opD f [.int n, o.toD]) ⟨fun d => @WiD d ⟨fun m => P.nx (e1.set i (some (.d (.int m))))⟩⟩⟩ ⟨P.ex⟩⟩ := by
  rw [exe]
  cases h : e[i]? with
  | none => rfl
  | some o =>
    cases o with
    | none => rfl
    | some o =>
      cases o with
      | lst => rfl
      | dct => rfl
      | d x =>
        cases x with
        | int n =>
          dsimp only [Wint]
          rw [WS_bnd]
          refine WE_ext fun o e1 => ?_
          cases opD f [.int n, o.toD] with
          | none => rfl
          | some d => cases d <;> rfl
        | _ => rfl
def WDint (o : O) [q : Hold (Int → Prop)] : Prop := match o with
  | .d (.int n) => q.f n
  | _ => False
theorem WDint_int {K : Int → Prop} {n : Int} : @WDint (.d (.int n)) ⟨K⟩ = K n := nd rfl
theorem WS_sput {i : Nat} {ix a : I} : @WS (exe G (.sput i ix a) e) P = @WE _ (evl G a e) ⟨fun o e1 => @Wli e1[i]? ⟨fun _ => @WE _ (evl G ix e1) ⟨fun oi e2 => @Wli e2[i]? ⟨fun xs => @WDint oi ⟨fun n => @WO _ (ixD xs.length n) ⟨fun j => P.nx (e2.set i (some (.lst (xs.set j o.toD))))⟩⟩⟩⟩ ⟨P.ex⟩⟩⟩ ⟨P.ex⟩ := by
  rw [exe, WS_bnd]
  refine WE_ext fun o e1 => ?_
  cases h : e1[i]? with
  | none => rfl
  | some s =>
    cases s with
    | none => rfl
    | some s =>
      cases s with
      | d => rfl
      | dct => rfl
      | lst xs0 =>
        dsimp only [Wli]
        rw [WS_bnd]
        refine WE_ext fun oi e2 => ?_
        cases h : e2[i]? with
        | none => rfl
        | some s =>
          cases s with
          | none => rfl
          | some s =>
            cases s with
            | d => rfl
            | dct => rfl
            | lst xs =>
              rw [show ∀ K, @Wli (some (some (.lst xs))) ⟨K⟩ = K xs from fun _ => rfl]
              cases oi with
              | lst => rfl
              | dct => rfl
              | d x =>
                cases x with
                | int n =>
                  rw [show ∀ K, @WDint (.d (.int n)) ⟨K⟩ = K n from fun _ => rfl]
                  dsimp only
                  cases ixD xs.length n <;> rfl
                | _ => rfl
theorem WS_saug {i : Nat} {ix a : I} {f : OpK} : @WS (exe G (.saug i ix f a) e) P = @Wli e[i]? ⟨fun xs0 => @WO _ (q G false ix e) ⟨fun dn => @WiD dn ⟨fun n => @WO _ (at? xs0 n) ⟨fun dv => @WiD dv ⟨fun v => @WE _ (evl G a e) ⟨fun o e1 => @WO _ (opD f [.int v, o.toD]) ⟨fun d => @WiD d ⟨fun m => @Wli e1[i]? ⟨fun xs => @WO _ (ixD xs.length n) ⟨fun j => P.nx (e1.set i (some (.lst (xs.set j (.int m)))))⟩⟩⟩⟩⟩ ⟨P.ex⟩⟩⟩⟩⟩⟩ := by
  rw [exe]
  cases h : e[i]? with
  | none => rfl
  | some s =>
    cases s with
    | none => rfl
    | some s =>
      cases s with
      | d => rfl
      | dct => rfl
      | lst xs0 =>
        dsimp only [Wli]
        cases q G false ix e with
        | none => rfl
        | some dn =>
          cases dn with
          | int n =>
            dsimp only [WO, WiD]
            cases at? xs0 n with
            | none => rfl
            | some dv =>
              cases dv with
              | int v =>
                dsimp only
                rw [WS_bnd]
                refine WE_ext fun o e1 => ?_
                cases opD f [.int v, o.toD] with
                | none => rfl
                | some d =>
                  cases d with
                  | int m =>
                    rw [show ∀ K : D → Prop, @WO _ (some (D.int m)) ⟨K⟩ = K (D.int m) from fun _ => rfl, show ∀ K, @WiD (D.int m) ⟨K⟩ = K m from fun _ => rfl]
                    cases h : e1[i]? with
                    | none => rfl
                    | some s =>
                      cases s with
                      | none => rfl
                      | some s =>
                        cases s with
                        | d => rfl
                        | dct => rfl
                        | lst xs =>
                          rw [show ∀ K, @Wli (some (some (.lst xs))) ⟨K⟩ = K xs from fun _ => rfl]
                          dsimp only
                          cases ixD xs.length n <;> rfl
                  | _ => rfl
              | _ => rfl
          | _ => rfl
theorem WS_iff {c : I} {a b : S} : @WS (exe G (.iff c a b) e) P = @WE _ (evl G c e) ⟨fun o e1 => @Wb o ⟨fun t => if t = true then @WS (exe G a e1) P else @WS (exe G b e1) P⟩⟩ ⟨P.ex⟩ := by
  rw [exe, WS_bnd, evT, W_bind]; refine WE_ext fun o e1 => ?_; rw [W_tB]; refine Wb_ext fun t => ?_; rw [WS_if]
/-- one turn of a for -/
noncomputable def forB (G : Gs) (tg : Tg) (body : S) (fg : List Nat) (x : D) (e2 : Env) : Fl := match tgSet tg x e2 with
  | some e3 => (exe G body e3).forget fg
  | none => .st
theorem WS_for {tg : Tg} {k : ItK} {es : I} {body : S} {fg : List Nat} : @WS (exe G (.for_ tg k es body fg) e) P = @WE _ (evV G es e) ⟨fun ds e1 => @WO _ (itD k ds) ⟨fun xs => @WS (forI (forB G tg body fg) xs (forget fg e1)) P⟩⟩ ⟨P.ex⟩ := by
  rw [exe, WS_bnd]
  refine WE_ext fun ds e1 => ?_
  cases itD k ds <;> rfl
theorem WS_whl {c : I} {body : S} {fg : List Nat} : @WS (exe G (.whl c body fg) e) P = @WS (whl (evT G c) (fun e1 => (exe G body e1).forget fg) (forget fg e)) P := by
  rw [exe]
theorem WS_ret {a : I} : @WS (exe G (.ret a) e) P = @WE _ (evl G a e) ⟨fun o e1 => P.rt o e1⟩ ⟨P.ex⟩ := by
  rw [exe, WS_bnd]; rfl
theorem WS_retN : @WS (exe G .retN e) P = P.rt (.d .non) e := nd rfl
/-- a dict in a slot -/
def Wdc (x : Option (Option O)) [q : Hold (List (D × D) → Prop)] : Prop := match x with
  | some (some (.dct xs)) => q.f xs
  | _ => False
theorem Wdc_some {K : List (D × D) → Prop} {xs : List (D × D)} : @Wdc (some (some (.dct xs))) ⟨K⟩ = K xs := nd rfl
def Wky (o : O) [q : Hold (D → DK → Prop)] : Prop := match o with
  | .d k => (match keyD k with
    | some kk => q.f k kk
    | none => False)
  | _ => False
theorem Wky_int {K : D → DK → Prop} {i : Int} : @Wky (.d (.int i)) ⟨K⟩ = K (.int i) (.inl i) := nd rfl
theorem Wky_str {K : D → DK → Prop} {i : String} : @Wky (.d (.str i)) ⟨K⟩ = K (.str i) (.inr i) := nd rfl
theorem WS_dput {i : Nat} {ix a : I} : @WS (exe G (.dput i ix a) e) P = @WE _ (evl G a e) ⟨fun o e1 => @Wdc e1[i]? ⟨fun _ => @WE _ (evl G ix e1) ⟨fun oi e2 => @Wdc e2[i]? ⟨fun kvs => @Wky oi ⟨fun k kk => kvs.length < big ∧ P.nx (e2.set i (some (.dct (putD kvs k kk o.toD))))⟩⟩⟩ ⟨P.ex⟩⟩⟩ ⟨P.ex⟩ := by
  rw [exe, WS_bnd]
  refine WE_ext fun o e1 => ?_
  cases h : e1[i]? with
  | none => rfl
  | some s =>
    cases s with
    | none => rfl
    | some s =>
      cases s with
      | d => rfl
      | lst => rfl
      | dct xs0 =>
        rw [show ∀ K, @Wdc (some (some (.dct xs0))) ⟨K⟩ = K xs0 from fun _ => rfl]
        dsimp only
        rw [WS_bnd]
        refine WE_ext fun oi e2 => ?_
        cases h : e2[i]? with
        | none => rfl
        | some s =>
          cases s with
          | none => rfl
          | some s =>
            cases s with
            | d => rfl
            | lst => rfl
            | dct kvs =>
              rw [show ∀ K, @Wdc (some (some (.dct kvs))) ⟨K⟩ = K kvs from fun _ => rfl]
              cases oi with
              | lst => rfl
              | dct => rfl
              | d k =>
                dsimp only [Wky]
                cases keyD k with
                | none => rfl
                | some kk =>
                  dsimp only
                  rw [WS_if]
                  by_cases hl : kvs.length < big
                  · rw [if_pos hl]; exact propext ⟨fun z => ⟨hl, z⟩, fun z => z.2⟩
                  · rw [if_neg hl]; exact propext ⟨fun z => z.elim, fun z => hl z.1⟩
theorem WS_bad : @WS (exe G .bad e) P = False := by rw [exe]; rfl
theorem WS_brk : @WS (exe G .brk e) P = P.bk e := nd rfl
theorem WS_cnt : @WS (exe G .cnt e) P = P.ct e := nd rfl
theorem WS_pass : @WS (exe G .pass e) P = P.nx e := nd rfl
end
end Wx

set_option Elab.async false
set_option linter.all false
set_option maxRecDepth 100000
/-! W2: operators, loops, calls. -/
namespace Wx
open Vm
theorem WO_if {α : Type} {Q : α → Prop} {c : Prop} [Decidable c] {a b : Option α} : @WO _ (if c then a else b) ⟨Q⟩ = if c then @WO _ a ⟨Q⟩ else @WO _ b ⟨Q⟩ := by
  by_cases h : c
  · rw [if_pos h, if_pos h]
  · rw [if_neg h, if_neg h]
theorem if_F {c : Prop} [Decidable c] {p : Prop} : (if c then p else False) = (c ∧ p) := by
  by_cases h : c
  · rw [if_pos h]; simp [h]
  · rw [if_neg h]; simp [h]
theorem F_if {c : Prop} [Decidable c] {p : Prop} : (if c then False else p) = (¬ c ∧ p) := by
  by_cases h : c
  · rw [if_pos h]; simp [h]
  · rw [if_neg h]; simp [h]
theorem if_and2 {c d : Prop} [Decidable c] [Decidable d] {p q : Prop} : (if c then (if d then p else q) else q) = (if c ∧ d then p else q) := by
  by_cases h : c <;> by_cases k : d <;> simp [h, k]
theorem if_or2 {c d : Prop} [Decidable c] [Decidable d] {p q : Prop} : (if c then p else (if d then p else q)) = (if c ∨ d then p else q) := by
  by_cases h : c <;> by_cases k : d <;> simp [h, k]
theorem WO_map {α β : Type} {Q : β → Prop} {f : α → β} {x : Option α} : @WO _ (x.map f) ⟨Q⟩ = @WO _ x ⟨fun a => Q (f a)⟩ := by cases x <;> rfl
theorem WO_bindo {α β : Type} {Q : β → Prop} {f : α → Option β} {x : Option α} : @WO _ (x.bind f) ⟨Q⟩ = @WO _ x ⟨fun a => @WO _ (f a) ⟨Q⟩⟩ := by cases x <;> rfl
theorem nat10 : (Int.natAbs 10 < 18446744073709551616) = True := eq_true (by decide)
theorem cl_one {n : Nat} : cl (n + 1) 1 = 1 := by unfold cl; rw [if_neg (by decide)]; show min 1 (n + 1) = 1; omega
theorem big_eq : big = 16777216 := nd rfl
theorem toD_d {x : D} : (O.d x).toD = x := nd rfl
theorem toD_lst {x : List D} : (O.lst x).toD = .lst x := nd rfl
theorem toD_dct {x : List (D × D)} : (O.dct x).toD = .dct x := nd rfl
theorem ow_int {i : Int} : ownOf (.int i) = .d (.int i) := nd rfl
theorem ow_str {i : String} : ownOf (.str i) = .d (.str i) := nd rfl
theorem ow_bl {i : Bool} : ownOf (.bl i) = .d (.bl i) := nd rfl
theorem ow_non : ownOf .non = .d .non := nd rfl
theorem ow_tup {i : List D} : ownOf (.tup i) = .d (.tup i) := nd rfl
theorem ow_lst {i : List D} : ownOf (.lst i) = .lst i := nd rfl
theorem ow_dct {i : List (D × D)} : ownOf (.dct i) = .dct i := nd rfl
theorem atN {xs : List D} {p : Nat} (h : p < 9223372036854775808) : at? xs (p : Int) = xs[p]? := by
  unfold at?
  rw [if_pos (Int.natCast_nonneg p), if_pos (by omega), Int.toNat_natCast]
theorem at0 {xs : List D} : at? xs 0 = xs[0]? := atN (p := 0) (by decide)
theorem at1 {xs : List D} : at? xs 1 = xs[1]? := atN (p := 1) (by decide)
theorem at2 {xs : List D} : at? xs 2 = xs[2]? := atN (p := 2) (by decide)
theorem at3 {xs : List D} : at? xs 3 = xs[3]? := atN (p := 3) (by decide)
theorem at4 {xs : List D} : at? xs 4 = xs[4]? := atN (p := 4) (by decide)
theorem at5 {xs : List D} : at? xs 5 = xs[5]? := atN (p := 5) (by decide)
theorem at6 {xs : List D} : at? xs 6 = xs[6]? := atN (p := 6) (by decide)
theorem at7 {xs : List D} : at? xs 7 = xs[7]? := atN (p := 7) (by decide)
theorem atm1 {xs : List D} : at? xs (-1) = xs.getLast? := by
  unfold at?
  rw [if_neg (by decide), List.getLast?_eq_getElem?]
  cases xs with
  | nil => rfl
  | cons a xs =>
    rw [if_pos (by simp only [List.length_cons]; omega)]
    congr 1
    simp only [List.length_cons]; omega
theorem ix0 {n : Nat} (h : 0 < n) : ixD n 0 = some 0 := by unfold ixD; rw [if_pos (by decide), if_pos (by omega)]; rfl
theorem ix1 {n : Nat} (h : 1 < n) : ixD n 1 = some 1 := by unfold ixD; rw [if_pos (by decide), if_pos (by omega)]; rfl
theorem ix2 {n : Nat} (h : 2 < n) : ixD n 2 = some 2 := by unfold ixD; rw [if_pos (by decide), if_pos (by omega)]; rfl
theorem ix3 {n : Nat} (h : 3 < n) : ixD n 3 = some 3 := by unfold ixD; rw [if_pos (by decide), if_pos (by omega)]; rfl
theorem ix4 {n : Nat} (h : 4 < n) : ixD n 4 = some 4 := by unfold ixD; rw [if_pos (by decide), if_pos (by omega)]; rfl
theorem ixN {n p : Nat} (h : p < n) : ixD n (p : Int) = some p := by unfold ixD; rw [if_pos (by omega), if_pos (by omega), Int.toNat_natCast]

/-! ### a def -/
theorem run_ok {glob : String → Option D} {pg : Nat → Option Df} {k d : Nat} {ts : List O} {np nv : Nat} {rb : List Nat} {body : S} {Q : O → List O → Prop} {X : Ex → List O → Prop} (hd : pg d = some ⟨np, nv, rb, body⟩) (hl : ts.length = np) (hr : rbOk rb 0 ts = true)
    (h : @WS (exe ⟨run glob pg k, glob⟩ body (ts.map some ++ List.replicate (nv - np) none)) ⟨fun e => @WO _ (outs rb 0 ts e) ⟨fun ts' => Q (.d .non) ts'⟩, fun o e => @WO _ (outs rb 0 ts e) ⟨fun ts' => Q o ts'⟩, fun x e => @WO _ (outs rb 0 ts e) ⟨fun ts' => X x ts'⟩, fun _ => False, fun _ => False⟩) (h2 : d < 2000 := by decide) : @WC (run glob pg (k + 1) d ts) ⟨Q⟩ ⟨X⟩ := by
  rw [run_lt h2]
  unfold runD
  rw [hd]
  dsimp only
  rw [if_pos ⟨hl, hr⟩]
  generalize exe ⟨run glob pg k, glob⟩ body (ts.map some ++ List.replicate (nv - np) none) = fl at h ⊢
  unfold fin
  cases fl with
  | nx e => dsimp only [WS] at h ⊢; cases ho : outs rb 0 ts e <;> rw [ho] at h <;> exact h
  | rt o e => dsimp only [WS] at h ⊢; cases ho : outs rb 0 ts e <;> rw [ho] at h <;> exact h
  | ex x e => dsimp only [WS] at h ⊢; cases ho : outs rb 0 ts e <;> rw [ho] at h <;> exact h
  | bk e => exact h.elim
  | ct e => exact h.elim
  | st => exact h.elim
theorem WC_of {Q Q' : O → List O → Prop} {X : Ex → List O → Prop} {r : Option Out} (h : @WC r ⟨Q⟩ ⟨fun _ _ => False⟩) (hq : ∀ o ts, Q o ts → Q' o ts) : @WC r ⟨Q'⟩ ⟨X⟩ := WC_mono h hq fun _ _ z => z.elim
theorem WC_eq {r : Option Out} {o : O} {ts : List O} (h : @WC r ⟨fun o' ts' => o' = o ∧ ts' = ts⟩ ⟨fun _ _ => False⟩) : r = some (.ret o ts) := by
  cases r with
  | none => exact h.elim
  | some x =>
    cases x with
    | ret o' ts' => obtain ⟨rfl, rfl⟩ := h; rfl
    | exc x ts' => exact h.elim
theorem WC_ret {r : Option Out} {o : O} {ts : List O} {Q : O → List O → Prop} {X : Ex → List O → Prop} (h : r = some (.ret o ts)) : @WC r ⟨Q⟩ ⟨X⟩ = Q o ts := by rw [h]; rfl
/-- what holds behind a statement -/
theorem ws_cut {r : Fl} {P : Ps} (R : Env → Prop) (h : @WS r ⟨R, P.rt, P.ex, P.bk, P.ct⟩) (h2 : ∀ e, R e → P.nx e) : @WS r P := WS_mono h h2 (fun _ _ z => z) (fun _ _ z => z) (fun _ z => z) fun _ z => z
/-! ### loops -/
/-- a for by what holds ahead of each turn: what is left, the slots -/
theorem for_inv {G : Gs} {tg : Tg} {body : S} {fg : List Nat} {P : Ps} (Iv : List D → Env → Prop)
    (step : ∀ x r e, Iv (x :: r) e → @WO _ (tgSet tg x e) ⟨fun e3 => @WS (exe G body e3) ⟨fun e' => Iv r (forget fg e'), P.rt, P.ex, fun e' => P.nx (forget fg e'), fun e' => Iv r (forget fg e')⟩⟩)
    (last : ∀ e, Iv [] e → P.nx e) : ∀ {xs : List D} {e : Env}, Iv xs e → @WS (forI (forB G tg body fg) xs e) P := by
  intro xs
  induction xs with
  | nil => intro e h; exact last e h
  | cons x r ih =>
    intro e h
    have s := step x r e h
    unfold forI
    unfold forB
    cases ht : tgSet tg x e with
    | none => rw [ht] at s; exact s.elim
    | some e3 =>
      rw [ht] at s
      dsimp only [WO] at s
      dsimp only
      cases hx : exe G body e3 with
      | nx e' => rw [hx] at s; exact ih s
      | ct e' => rw [hx] at s; exact ih s
      | bk e' => rw [hx] at s; exact s
      | rt o e' => rw [hx] at s; exact s
      | ex x e' => rw [hx] at s; exact s
      | st => rw [hx] at s; exact s.elim
theorem for_nil {G : Gs} {tg : Tg} {body : S} {fg : List Nat} {P : Ps} {e : Env} : @WS (forI (forB G tg body fg) [] e) P = P.nx e := nd rfl
theorem for_cons {G : Gs} {tg : Tg} {body : S} {fg : List Nat} {P : Ps} {x : D} {xs : List D} {e : Env} : @WS (forI (forB G tg body fg) (x :: xs) e) P =
    @WO _ (tgSet tg x e) ⟨fun e3 => @WS (exe G body e3) ⟨fun e' => @WS (forI (forB G tg body fg) xs (forget fg e')) P, P.rt, P.ex, fun e' => P.nx (forget fg e'), fun e' => @WS (forI (forB G tg body fg) xs (forget fg e')) P⟩⟩ := by
  have key : ∀ (r : Fl) (f : D → Env → Fl), @WS (match r.forget fg with
      | .nx e' => forI f xs e'
      | .ct e' => forI f xs e'
      | .bk e' => .nx e'
      | r => r) P = @WS r ⟨fun e' => @WS (forI f xs (forget fg e')) P, P.rt, P.ex, fun e' => P.nx (forget fg e'), fun e' => @WS (forI f xs (forget fg e')) P⟩ := by
    intro r f
    cases r <;> rfl
  rw [forI]
  cases ht : tgSet tg x e with
  | none =>
    have : forB G tg body fg x e = .st := by unfold forB; rw [ht]
    rw [this]; rfl
  | some e3 =>
    have : forB G tg body fg x e = (exe G body e3).forget fg := by unfold forB; rw [ht]
    rw [this]
    exact key _ _
/-- a comprehension by what holds ahead of each turn: what is left, what was told, the slots -/
theorem lc_inv {G : Gs} {elt : I} {tg : Tg} {ifs : I} {Q : List D → Env → Prop} {X : Ex → Env → Prop} (Iv : List D → List D → Env → Prop)
    (step : ∀ x r ys e, Iv (x :: r) ys e → @WO _ (tgSet tg x e) ⟨fun e3 => @WE _ (evTs G ifs e3) ⟨fun t e4 => if t = true then @WE _ (evl G elt e4) ⟨fun o e5 => Iv r (ys ++ [o.toD]) (forget (tgSlots tg) e5)⟩ ⟨fun _ _ => False⟩ else Iv r ys (forget (tgSlots tg) e4)⟩ ⟨fun _ _ => False⟩⟩)
    (last : ∀ ys e, Iv [] ys e → Q ys e) : ∀ {xs : List D} {e : Env}, Iv xs [] e → @WE _ (lcLp (lcE G elt tg ifs) xs e).nox ⟨Q⟩ ⟨X⟩ := by
  have st2 : ∀ x r ys e, Iv (x :: r) ys e → ∃ y e', lcE G elt tg ifs x e = .ok y e' ∧ Iv r (ys ++ y.toList) e' := by
    intro x r ys e h
    have s := step x r ys e h
    unfold lcE
    cases ht : tgSet tg x e with
    | none => rw [ht] at s; exact s.elim
    | some e3 =>
      rw [ht] at s
      dsimp only [WO] at s
      dsimp only
      cases h1 : evTs G ifs e3 with
      | st => rw [h1] at s; exact s.elim
      | ex x e4 => rw [h1] at s; exact s.elim
      | ok t e4 =>
        rw [h1] at s
        dsimp only [WE] at s
        dsimp only [Rs.bind]
        by_cases t1 : t = true
        · rw [if_pos t1] at s
          rw [if_pos t1]
          cases h2 : evl G elt e4 with
          | st => rw [h2] at s; exact s.elim
          | ex x e5 => rw [h2] at s; exact s.elim
          | ok o e5 =>
            rw [h2] at s
            exact ⟨_, _, rfl, s⟩
        · rw [if_neg t1] at s
          rw [if_neg t1]
          exact ⟨_, _, rfl, by simpa using s⟩
  generalize lcE G elt tg ifs = f at st2 ⊢
  have : ∀ {xs : List D} {ys : List D} {e : Env}, Iv xs ys e → ∃ zs e', lcLp f xs e = .ok zs e' ∧ Q (ys ++ zs) e' := by
    intro xs
    induction xs with
    | nil => intro ys e h; exact ⟨[], e, rfl, by rw [List.append_nil]; exact last _ _ h⟩
    | cons x r ih =>
      intro ys e h
      obtain ⟨y, e', hf, h2⟩ := st2 x r ys e h
      obtain ⟨zs, e2, hz, hq⟩ := ih h2
      unfold lcLp
      rw [hf]
      dsimp only [Rs.bind]
      rw [hz]
      dsimp only
      refine ⟨_, _, rfl, ?_⟩
      cases y with
      | none => simpa using hq
      | some y => simpa using hq
  intro xs e h
  obtain ⟨zs, e', hz, hq⟩ := this h
  rw [hz]
  exact hq
theorem qLp_map {f : D → Option (Option D)} {g : D → Option D} : ∀ {xs : List D}, (∀ x ∈ xs, f x = some (g x)) → qLp f xs = some (xs.filterMap g)
  | [], _ => rfl
  | x :: xs, h => by
    unfold qLp
    rw [h x (List.mem_cons_self), qLp_map fun y hy => h y (List.mem_cons_of_mem _ hy), List.filterMap_cons]
    cases g x <;> rfl
theorem qLp_WO {f : D → Option (Option D)} {g : D → Option D} {xs : List D} (h : ∀ x ∈ xs, @WO _ (f x) ⟨fun y => y = g x⟩) : qLp f xs = some (xs.filterMap g) := qLp_map fun x hx => by
  have := h x hx
  cases hf : f x with
  | none => rw [hf] at this; exact this.elim
  | some y => rw [hf] at this; rw [show y = g x from this]
theorem WO_lcQ {G : Gs} {elt : I} {tg : Tg} {ifs : I} {e : Env} {x : D} {R : Option D → Prop} : @WO _ (lcQ G elt tg ifs e x) ⟨R⟩ = @WO _ (tgSet tg x (forget (tgSlots tg) e)) ⟨fun e' => @WO _ (qTs G ifs e') ⟨fun t => if t = true then @WO _ (q G true elt e') ⟨fun y => R (some y)⟩ else R none⟩⟩ := by
  unfold lcQ
  cases tgSet tg x (forget (tgSlots tg) e) with
  | none => rfl
  | some e' =>
    dsimp only [WO]
    cases qTs G ifs e' with
    | none => rfl
    | some t =>
      cases t
      · rfl
      · dsimp only
        cases q G true elt e' <;> rfl
theorem W_evT {G : Gs} {c : I} {e : Env} {Q : Bool → Env → Prop} {X : Ex → Env → Prop} : @WE _ (evT G c e) ⟨Q⟩ ⟨X⟩ = @WE _ (evl G c e) ⟨fun o e1 => @Wb o ⟨fun t => Q t e1⟩⟩ ⟨X⟩ := by
  rw [evT, W_bind]; refine WE_ext fun o e1 => ?_; rw [W_tB]
theorem WS_forget {r : Fl} {fg : List Nat} {P : Ps} : @WS (r.forget fg) P = @WS r ⟨fun e => P.nx (forget fg e), P.rt, P.ex, fun e => P.bk (forget fg e), fun e => P.ct (forget fg e)⟩ := by cases r <;> rfl
/-- a while by a measure -/
theorem whl_inv {c : Env → Rs Bool} {b : Env → Fl} {P : Ps} (Iv : Nat → Env → Prop)
    (step : ∀ n e, Iv n e → @WE _ (c e) ⟨fun t e1 => if t = true then @WS (b e1) ⟨fun e' => ∃ m, m < n ∧ Iv m e', P.rt, P.ex, P.nx, fun e' => ∃ m, m < n ∧ Iv m e'⟩ else P.nx e1⟩ ⟨P.ex⟩) {n : Nat} {e : Env} (h : Iv n e) : @WS (whl c b e) P := by
  have key : ∀ n e, Iv n e → ∀ N, n < N → whlN c b N e ≠ .st ∧ @WS (whlN c b N e) P := by
    intro n
    induction n using Nat.strongRecOn with
    | ind n ih =>
      intro e h N hN
      match N, hN with
      | N + 1, hN =>
        have s := step n e h
        unfold whlN
        cases hc : c e with
        | st => rw [hc] at s; exact s.elim
        | ex x e1 => rw [hc] at s; exact ⟨fun z => by simp [Rs.bnd] at z, s⟩
        | ok t e1 =>
          rw [hc] at s
          dsimp only [WE] at s
          dsimp only [Rs.bnd]
          by_cases t1 : t = true
          · rw [if_pos t1] at s
            rw [if_pos t1]
            cases hb : b e1 with
            | st => rw [hb] at s; exact s.elim
            | ex x e2 => rw [hb] at s; exact ⟨fun z => (by cases z), s⟩
            | rt x e2 => rw [hb] at s; exact ⟨fun z => (by cases z), s⟩
            | bk e2 => rw [hb] at s; exact ⟨fun z => (by cases z), s⟩
            | nx e2 => rw [hb] at s; obtain ⟨m, hm, im⟩ := s; exact ih m hm e2 im N (by omega)
            | ct e2 => rw [hb] at s; obtain ⟨m, hm, im⟩ := s; exact ih m hm e2 im N (by omega)
          · rw [if_neg t1] at s
            rw [if_neg t1]
            exact ⟨fun z => (by cases z), s⟩
  have det : ∀ N M e, whlN c b N e ≠ .st → whlN c b M e ≠ .st → whlN c b N e = whlN c b M e := by
    intro N
    induction N with
    | zero => intro M e h; exact (h rfl).elim
    | succ N ih =>
      intro M e h h'
      cases M with
      | zero => exact (h' rfl).elim
      | succ M =>
        unfold whlN at h h' ⊢
        cases hc : c e with
        | st => rfl
        | ex x e1 => rfl
        | ok t e1 =>
          rw [hc] at h h'
          dsimp only [Rs.bnd] at h h' ⊢
          by_cases t1 : t = true
          · rw [if_pos t1] at h h' ⊢
            rw [if_pos t1]
            cases hb : b e1 with
            | nx e2 => rw [hb] at h h'; exact ih M e2 h h'
            | ct e2 => rw [hb] at h h'; exact ih M e2 h h'
            | _ => rfl
          · rw [if_neg t1, if_neg t1]
  unfold whl
  have hex : ∃ n, whlN c b n e ≠ .st := ⟨n + 1, (key n e h (n + 1) (Nat.lt_succ_self n)).1⟩
  rw [dif_pos hex]
  rw [det _ (n + 1) e (Classical.choose_spec hex) (key n e h (n + 1) (Nat.lt_succ_self n)).1]
  exact (key n e h (n + 1) (Nat.lt_succ_self n)).2
/-- a call that only lends -/
theorem lend_ok {glob : String → Option D} {pg : Nat → Option Df} {k d : Nat} {ts : List O} {Q : O → List O → Prop} {X : Ex → List O → Prop} (h : @WC (run glob pg (k + 1) d (ts.map fun o => .d o.toD)) ⟨fun o _ => ∃ s, o = .d s ∧ scalD s = true ∧ Q (.d s) ts⟩ ⟨fun _ _ => False⟩) (h2 : d < 2000 := by decide) : @WC (run glob pg (k + 1) (d + 2000) ts) ⟨Q⟩ ⟨X⟩ := by
  rw [run_lt h2] at h
  rw [run_ge (by omega), Nat.add_sub_cancel]
  dsimp only
  generalize runD pg ⟨run glob pg k, glob⟩ d (ts.map fun o => .d o.toD) = r at h ⊢
  cases r with
  | none => exact h.elim
  | some x =>
    cases x with
    | exc x ts' => exact h.elim
    | ret o ts' =>
      obtain ⟨s, rfl, hs, hq⟩ := h
      show @WC (if scalD s = true then some (.ret (.d s) ts) else none) ⟨Q⟩ ⟨X⟩
      rw [if_pos hs]
      exact hq
end Wx

set_option Elab.async false
set_option linter.all false
set_option maxRecDepth 100000
namespace Wx
open Vm
/-! is_of -/
def b1_1 : S := (.ret (.and_ (.cons (.ch .le .le (.k (.int 1)) (.op .len (.cons (.var 0) .nil)) (.g "LONGEST")) (.cons (.op .all1 (.cons (.lc (.op .inn (.cons (.var 2) (.cons (.var 1) .nil))) (.n 2) .pl (.cons (.var 0) .nil) .nil) .nil)) .nil))))
def b1 : S := (.seq b1_1 .pass)
def df1 : Df := ⟨2, 3, [], b1⟩
/-! is_small -/
def b2_1 : S := (.ret (.call 1 (.cons (.var 0) (.cons (.g "SMALL") .nil))))
def b2 : S := (.seq b2_1 .pass)
def df2 : Df := ⟨1, 1, [], b2⟩
/-! is_great -/
def b3_1 : S := (.ret (.call 1 (.cons (.var 0) (.cons (.g "GREAT") .nil))))
def b3 : S := (.seq b3_1 .pass)
def df3 : Df := ⟨1, 1, [], b3⟩
/-! l_box -/
def b4_1 : S := (.ret (.lst (.cons (.op .lst1 (.cons (.slc (.var 0) .nil (.cons (.k (.int 63)) .nil)) .nil)) (.cons (.k (.int 0)) (.cons (.k (.int 0)) (.cons (.k (.int 90007)) (.cons (.k (.int 0)) .nil)))))))
def b4 : S := (.seq b4_1 .pass)
def df4 : Df := ⟨1, 1, [], b4⟩
/-! l_take -/
def b5_1t_1 : S := (.set (.n 2) (.op .idx (.cons (.op .idx (.cons (.var 0) (.cons (.k (.int 0)) .nil))) (.cons (.op .idx (.cons (.var 0) (.cons (.k (.int 1)) .nil))) .nil))))
def b5_1t_2 : S := (.saug 0 (.k (.int 1)) .add (.k (.int 1)))
def b5_1t_3 : S := (.sput 0 (.k (.int 3)) (.op .mod (.cons (.op .add (.cons (.op .add (.cons (.op .mul (.cons (.op .idx (.cons (.var 0) (.cons (.k (.int 3)) .nil))) (.cons (.k (.int 30011)) .nil))) (.cons (.op .mul (.cons (.op .mod (.cons (.var 2) (.cons (.k (.int 2147483587)) .nil))) (.cons (.k (.int 211)) .nil))) .nil))) (.cons (.k (.int 977)) .nil))) (.cons (.k (.int 2147483587)) .nil))))
def b5_1t_4t_1 : S := (.sput 0 (.k (.int 2)) (.var 2))
def b5_1t_4 : S := (.iff (.op .ge (.cons (.var 2) (.cons (.op .pow (.cons (.k (.int 10)) (.cons (.k (.int 18)) .nil))) .nil))) (.seq b5_1t_4t_1 .pass) .pass)
def b5_1 : S := (.iff (.and_ (.cons (.op .eq (.cons (.op .idx (.cons (.var 0) (.cons (.k (.int 2)) .nil))) (.cons (.k (.int 0)) .nil))) (.cons (.op .lt (.cons (.op .idx (.cons (.var 0) (.cons (.k (.int 1)) .nil))) (.cons (.op .len (.cons (.op .idx (.cons (.var 0) (.cons (.k (.int 0)) .nil))) .nil)) .nil))) .nil))) (.seq b5_1t_1 (.seq b5_1t_2 (.seq b5_1t_3 (.seq b5_1t_4 .pass)))) .pass)
def b5_2t_1 : S := (.set (.n 3) (.op .mod (.cons (.op .idx (.cons (.var 0) (.cons (.k (.int 2)) .nil))) (.cons (.var 1) .nil))))
def b5_2t_2 : S := (.sput 0 (.k (.int 2)) (.op .fdv (.cons (.op .idx (.cons (.var 0) (.cons (.k (.int 2)) .nil))) (.cons (.var 1) .nil))))
def b5_2t_3 : S := (.ret (.mv 3))
def b5_2 : S := (.iff (.op .gt (.cons (.op .idx (.cons (.var 0) (.cons (.k (.int 2)) .nil))) (.cons (.k (.int 0)) .nil))) (.seq b5_2t_1 (.seq b5_2t_2 (.seq b5_2t_3 .pass))) .pass)
def b5_3 : S := (.saug 0 (.k (.int 4)) .add (.k (.int 1)))
def b5_4 : S := (.set (.n 4) (.op .idx (.cons (.var 0) (.cons (.k (.int 3)) .nil))))
def b5_5 : S := (.sput 0 (.k (.int 3)) (.op .mod (.cons (.op .add (.cons (.op .add (.cons (.op .add (.cons (.op .mul (.cons (.var 4) (.cons (.var 4) .nil))) (.cons (.op .mul (.cons (.k (.int 69997)) (.cons (.var 4) .nil))) .nil))) (.cons (.op .mul (.cons (.k (.int 7919)) (.cons (.op .idx (.cons (.var 0) (.cons (.k (.int 4)) .nil))) .nil))) .nil))) (.cons (.k (.int 40507)) .nil))) (.cons (.k (.int 2147483587)) .nil))))
def b5_6 : S := (.ret (.op .mod (.cons (.op .add (.cons (.op .add (.cons (.op .fdv (.cons (.op .idx (.cons (.var 0) (.cons (.k (.int 3)) .nil))) (.cons (.k (.int 61)) .nil))) (.cons (.op .mul (.cons (.var 4) (.cons (.k (.int 35201)) .nil))) .nil))) (.cons (.op .idx (.cons (.var 0) (.cons (.k (.int 4)) .nil))) .nil))) (.cons (.var 1) .nil))))
def b5 : S := (.seq b5_1 (.seq b5_2 (.seq b5_3 (.seq b5_4 (.seq b5_5 (.seq b5_6 .pass))))))
def df5 : Df := ⟨2, 5, [], b5⟩
/-! l_same -/
def b6_1t_1 : S := (.ret (.op .isN (.cons (.var 0) .nil)))
def b6_1 : S := (.iff (.op .isN (.cons (.var 1) .nil)) (.seq b6_1t_1 .pass) .pass)
def b6_2t_1t_1 : S := (.ret (.k (.bl false)))
def b6_2t_1 : S := (.iff (.or_ (.cons (.op .ne (.cons (.op (.isi 3) (.cons (.var 0) .nil)) (.cons (.op (.isi 3) (.cons (.var 1) .nil)) .nil))) (.cons (.op .ne (.cons (.op (.isi 4) (.cons (.var 0) .nil)) (.cons (.op (.isi 4) (.cons (.var 1) .nil)) .nil))) .nil))) (.seq b6_2t_1t_1 .pass) .pass)
def b6_2t_2 : S := (.ret (.and_ (.cons (.op .eq (.cons (.op .len (.cons (.var 0) .nil)) (.cons (.op .len (.cons (.var 1) .nil)) .nil))) (.cons (.op .all1 (.cons (.lc (.call 6 (.cons (.var 2) (.cons (.var 3) .nil))) (.cons (.n 2) (.cons (.n 3) .nil)) .zp (.cons (.var 0) (.cons (.var 1) .nil)) .nil) .nil)) .nil))))
def b6_2 : S := (.iff (.op (.isi 5) (.cons (.var 1) .nil)) (.seq b6_2t_1 (.seq b6_2t_2 .pass)) .pass)
def b6_3t_1 : S := (.ret (.k (.bl false)))
def b6_3 : S := (.iff (.or_ (.cons (.op .ne (.cons (.op (.isi 0) (.cons (.var 0) .nil)) (.cons (.op (.isi 0) (.cons (.var 1) .nil)) .nil))) (.cons (.op .ne (.cons (.op (.isi 2) (.cons (.var 0) .nil)) (.cons (.op (.isi 2) (.cons (.var 1) .nil)) .nil))) .nil))) (.seq b6_3t_1 .pass) .pass)
def b6_4 : S := (.ret (.and_ (.cons (.op .eq (.cons (.op (.isi 1) (.cons (.var 0) .nil)) (.cons (.op (.isi 1) (.cons (.var 1) .nil)) .nil))) (.cons (.op .eq (.cons (.var 0) (.cons (.var 1) .nil))) .nil))))
def b6 : S := (.seq b6_1 (.seq b6_2 (.seq b6_3 (.seq b6_4 .pass))))
def df6 : Df := ⟨2, 4, [], b6⟩
/-! l_sign -/
def b7_1 : S := (.set (.n 1) (.k (.str " !\"#$&'()*+,-./0123456789:;<=>?@ABCDEFGHIJKLMNOPQRSTUVWXYZ[\\]^_`abcdefghijklmnopqrstuvwxyz{|}~\n")))
def b7_2 : S := (.ret (.op .idx (.cons (.var 1) (.cons (.call 5 (.cons (.var 0) (.cons (.op .len (.cons (.var 1) .nil)) .nil))) .nil))))
def b7 : S := (.seq b7_1 (.seq b7_2 .pass))
def df7 : Df := ⟨1, 2, [], b7⟩
/-! l_text -/
def b8_1 : S := (.set (.n 1) (.op .idx (.cons (.lst (.cons (.k (.str "abcdefghijklmnopqrstuvwxyz")) (.cons (.k (.str "ABCDEFGHIJKLMNOPQRSTUVWXYZ")) .nil))) (.cons (.call 5 (.cons (.var 0) (.cons (.k (.int 2)) .nil))) .nil))))
def b8_2 : S := (.set (.n 2) (.mop .join (.k (.str "")) (.cons (.lc (.op .idx (.cons (.var 1) (.cons (.call 5 (.cons (.var 0) (.cons (.k (.int 26)) .nil))) .nil))) (.n 3) .rg1 (.cons (.call 5 (.cons (.var 0) (.cons (.k (.int 11)) .nil))) .nil) .nil) .nil)))
def b8_3t_1 : S := (.set (.n 4) (.call 5 (.cons (.var 0) (.cons (.op .add (.cons (.op .len (.cons (.var 2) .nil)) (.cons (.k (.int 1)) .nil))) .nil))))
def b8_3t_2 : S := (.set (.n 2) (.op .add (.cons (.op .add (.cons (.slc (.var 2) .nil (.cons (.var 4) .nil)) (.cons (.call 7 (.cons (.var 0) .nil)) .nil))) (.cons (.slc (.var 2) (.cons (.op .add (.cons (.var 4) (.cons (.call 5 (.cons (.var 0) (.cons (.k (.int 2)) .nil))) .nil))) .nil) .nil) .nil))))
def b8_3 : S := (.iff (.op .eq (.cons (.call 5 (.cons (.var 0) (.cons (.k (.int 2)) .nil))) (.cons (.k (.int 0)) .nil))) (.seq b8_3t_1 (.seq b8_3t_2 .pass)) .pass)
def b8_4 : S := (.ret (.mv 2))
def b8 : S := (.seq b8_1 (.seq b8_2 (.seq b8_3 (.seq b8_4 .pass))))
def df8 : Df := ⟨1, 5, [], b8⟩
/-! law_k01 -/
def b9_1 : S := (.set (.n 1) (.call 4 (.cons (.var 0) .nil)))
def b9_2b_1 : S := (.set (.n 3) (.call 8 (.cons (.var 1) .nil)))
def b9_2b_2 : S := (.set (.n 4) (.op .all1 (.cons (.lc (.op .inn (.cons (.var 7) (.cons (.k (.str "abcdefghijklmnopqrstuvwxyz")) .nil))) (.n 7) .pl (.cons (.var 3) .nil) .nil) .nil)))
def b9_2b_3 : S := (.set (.n 5) (.op .all1 (.cons (.lc (.op .inn (.cons (.var 7) (.cons (.k (.str "ABCDEFGHIJKLMNOPQRSTUVWXYZ")) .nil))) (.n 7) .pl (.cons (.var 3) .nil) .nil) .nil)))
def b9_2b_4 : S := (.set (.n 6) (.ch .le .le (.k (.int 1)) (.op .len (.cons (.var 3) .nil)) (.k (.int 8))))
def b9_2b_5t_1 : S := (.ret (.k (.bl false)))
def b9_2b_5 : S := (.iff (.or_ (.cons (.not_ (.call 6 (.cons (.call 2 (.cons (.var 3) .nil)) (.cons (.and_ (.cons (.var 4) (.cons (.var 6) .nil))) .nil)))) (.cons (.not_ (.call 6 (.cons (.call 3 (.cons (.var 3) .nil)) (.cons (.and_ (.cons (.var 5) (.cons (.var 6) .nil))) .nil)))) .nil))) (.seq b9_2b_5t_1 .pass) .pass)
def b9_2 : S := (.for_ (.n 2) .rg1 (.cons (.k (.int 6)) .nil) (.seq b9_2b_1 (.seq b9_2b_2 (.seq b9_2b_3 (.seq b9_2b_4 (.seq b9_2b_5 .pass))))) [2, 3, 4, 5, 6])
def b9_3 : S := (.ret (.call 6 (.cons (.lst (.cons (.call 2 (.cons (.k (.str "")) .nil)) (.cons (.call 3 (.cons (.k (.str "")) .nil)) .nil))) (.cons (.lst (.cons (.k (.bl false)) (.cons (.k (.bl false)) .nil))) .nil))))
def b9 : S := (.seq b9_1 (.seq b9_2 (.seq b9_3 .pass)))
def df9 : Df := ⟨1, 8, [], b9⟩
/-! good_thing -/
def b10_1t_1 : S := (.ret (.ch .le .le (.k (.int 1)) (.var 1) (.g "MOST_COINS")))
def b10_1 : S := (.iff (.op .eq (.cons (.var 0) (.cons (.k (.str "c")) .nil))) (.seq b10_1t_1 .pass) .pass)
def b10_2t_1 : S := (.ret (.ch .le .le (.k (.int 0)) (.var 1) (.g "MOST_COINS")))
def b10_2 : S := (.iff (.op .eq (.cons (.var 0) (.cons (.k (.str "w")) .nil))) (.seq b10_2t_1 .pass) .pass)
def b10_3t_1 : S := (.ret (.call 3 (.cons (.var 1) .nil)))
def b10_3 : S := (.iff (.op .eq (.cons (.var 0) (.cons (.k (.str "t")) .nil))) (.seq b10_3t_1 .pass) .pass)
def b10_4 : S := (.ret (.call 2 (.cons (.var 1) .nil)))
def b10 : S := (.seq b10_1 (.seq b10_2 (.seq b10_3 (.seq b10_4 .pass))))
def df10 : Df := ⟨2, 2, [], b10⟩
/-! good_act -/
def b11_1b_1t_1 : S := (.ret (.k (.bl false)))
def b11_1b_1 : S := (.iff (.not_ (.call 10 (.cons (.var 1) (.cons (.var 2) .nil)))) (.seq b11_1b_1t_1 .pass) .pass)
def b11_1 : S := (.for_ (.cons (.n 1) (.cons (.n 2) .nil)) .zp (.cons (.op (.tab "FORMS") (.cons (.op .idx (.cons (.var 0) (.cons (.k (.int 0)) .nil))) .nil)) (.cons (.slc (.var 0) (.cons (.k (.int 1)) .nil) .nil) .nil)) (.seq b11_1b_1 .pass) [1, 2])
def b11_2 : S := (.ret (.or_ (.cons (.op .ne (.cons (.op .idx (.cons (.var 0) (.cons (.k (.int 0)) .nil))) (.cons (.k (.str "pay")) .nil))) (.cons (.op .ne (.cons (.op .idx (.cons (.var 0) (.cons (.k (.int 1)) .nil))) (.cons (.op .idx (.cons (.var 0) (.cons (.k (.int 2)) .nil))) .nil))) .nil))))
def b11 : S := (.seq b11_1 (.seq b11_2 .pass))
def df11 : Df := ⟨1, 4, [], b11⟩
/-! l_names -/
def b12_1 : S := (.set (.n 3) (.op .idx (.cons (.lst (.cons (.k (.str "abcdefghijklmnopqrstuvwxyz")) (.cons (.k (.str "ABCDEFGHIJKLMNOPQRSTUVWXYZ")) .nil))) (.cons (.op .int1 (.cons (.var 2) .nil)) .nil))))
def b12_2 : S := (.set (.n 4) (.op .add (.cons (.k (.int 1)) (.cons (.call 5 (.cons (.var 0) (.cons (.k (.int 8)) .nil))) .nil))))
def b12_3 : S := (.set (.n 5) (.call 5 (.cons (.var 0) (.cons (.var 4) .nil))))
def b12_4 : S := (.set (.n 6) (.lc (.call 5 (.cons (.var 0) (.cons (.k (.int 26)) .nil))) (.n 7) .rg1 (.cons (.var 4) .nil) .nil))
def b12_5 : S := (.set (.n 8) (.op .eq (.cons (.call 5 (.cons (.var 0) (.cons (.k (.int 2)) .nil))) (.cons (.k (.int 0)) .nil))))
def b12_6 : S := (.set (.n 9) (.lst .nil))
def b12_7b_1 : S := (.set (.n 10) (.op .lst1 (.cons (.var 6) .nil)))
def b12_7b_2t_1 : S := (.set (.n 10) (.lc (.call 5 (.cons (.var 0) (.cons (.k (.int 26)) .nil))) (.n 11) .rg1 (.cons (.op .add (.cons (.op .add (.cons (.var 5) (.cons (.k (.int 1)) .nil))) (.cons (.call 5 (.cons (.var 0) (.cons (.op .sub (.cons (.var 4) (.cons (.var 5) .nil))) .nil))) .nil))) .nil) .nil))
def b12_7b_2 : S := (.iff (.not_ (.var 8)) (.seq b12_7b_2t_1 .pass) .pass)
def b12_7b_3 : S := (.sput 10 (.var 5) (.op .mod (.cons (.op .add (.cons (.op .idx (.cons (.var 6) (.cons (.var 5) .nil))) (.cons (.op .mul (.cons (.k (.int 11)) (.cons (.var 7) .nil))) .nil))) (.cons (.k (.int 26)) .nil))))
def b12_7b_4 : S := (.ex (.mut .app 9 (.cons (.mop .join (.k (.str "")) (.cons (.lc (.op .idx (.cons (.var 3) (.cons (.var 12) .nil))) (.n 12) .pl (.cons (.var 10) .nil) .nil) .nil)) .nil)))
def b12_7 : S := (.for_ (.n 7) .rg1 (.cons (.var 1) .nil) (.seq b12_7b_1 (.seq b12_7b_2 (.seq b12_7b_3 (.seq b12_7b_4 .pass)))) [7, 10])
def b12_8 : S := (.ret (.mv 9))
def b12 : S := (.seq b12_1 (.seq b12_2 (.seq b12_3 (.seq b12_4 (.seq b12_5 (.seq b12_6 (.seq b12_7 (.seq b12_8 .pass))))))))
def df12 : Df := ⟨3, 13, [], b12⟩
/-! l_is_name -/
def b13_1 : S := (.set (.n 2) (.op .idx (.cons (.lst (.cons (.k (.str "abcdefghijklmnopqrstuvwxyz")) (.cons (.k (.str "ABCDEFGHIJKLMNOPQRSTUVWXYZ")) .nil))) (.cons (.op .int1 (.cons (.var 1) .nil)) .nil))))
def b13_2 : S := (.ret (.and_ (.cons (.ch .le .le (.k (.int 1)) (.op .len (.cons (.var 0) .nil)) (.k (.int 8))) (.cons (.op .all1 (.cons (.lc (.op .inn (.cons (.var 3) (.cons (.var 2) .nil))) (.n 3) .pl (.cons (.var 0) .nil) .nil) .nil)) .nil))))
def b13 : S := (.seq b13_1 (.seq b13_2 .pass))
def df13 : Df := ⟨2, 4, [], b13⟩
/-! l_act_good -/
def b14_1 : S := (.set (.n 1) (.mop .get2 (.dic (.cons (.k (.str "buy")) (.cons (.lst (.cons (.k (.int 2)) .nil)) (.cons (.k (.str "sell")) (.cons (.lst (.cons (.k (.int 1)) .nil)) (.cons (.k (.str "worth")) (.cons (.lst (.cons (.k (.int 1)) .nil)) .nil))))))) (.cons (.op .idx (.cons (.var 0) (.cons (.k (.int 0)) .nil))) (.cons (.lst .nil) .nil))))
def b14_2b_1t_1 : S := (.ret (.k (.bl false)))
def b14_2b_1 : S := (.iff (.not_ (.call 13 (.cons (.op .idx (.cons (.var 0) (.cons (.var 2) .nil))) (.cons (.op .inn (.cons (.var 2) (.cons (.var 1) .nil))) .nil)))) (.seq b14_2b_1t_1 .pass) .pass)
def b14_2 : S := (.for_ (.n 2) .rg2 (.cons (.k (.int 1)) (.cons (.op .sub (.cons (.op .len (.cons (.var 0) .nil)) (.cons (.k (.int 1)) .nil))) .nil)) (.seq b14_2b_1 .pass) [2])
def b14_3t_1 : S := (.ret (.k (.bl false)))
def b14_3 : S := (.iff (.not_ (.ch .le .le (.op .int1 (.cons (.op .ne (.cons (.op .idx (.cons (.var 0) (.cons (.k (.int 0)) .nil))) (.cons (.k (.str "worth")) .nil))) .nil)) (.op .idx (.cons (.var 0) (.cons (.op .neg (.cons (.k (.int 1)) .nil)) .nil))) (.op .pow (.cons (.k (.int 10)) (.cons (.k (.int 12)) .nil))))) (.seq b14_3t_1 .pass) .pass)
def b14_4 : S := (.ret (.or_ (.cons (.op .ne (.cons (.op .idx (.cons (.var 0) (.cons (.k (.int 0)) .nil))) (.cons (.k (.str "pay")) .nil))) (.cons (.op .ne (.cons (.op .idx (.cons (.var 0) (.cons (.k (.int 1)) .nil))) (.cons (.op .idx (.cons (.var 0) (.cons (.k (.int 2)) .nil))) .nil))) .nil))))
def b14 : S := (.seq b14_1 (.seq b14_2 (.seq b14_3 (.seq b14_4 .pass))))
def df14 : Df := ⟨1, 3, [], b14⟩
/-! l_free_act -/
def b15_1 : S := (.set (.n 1) (.lst (.cons (.k (.str "in")) (.cons (.k (.str "own")) (.cons (.k (.str "pay")) (.cons (.k (.str "buy")) (.cons (.k (.str "sell")) (.cons (.k (.str "spend")) (.cons (.k (.str "worth")) .nil)))))))))
def b15_2 : S := (.set (.n 2) (.lst (.cons (.k (.str "ssc")) (.cons (.k (.str "sc")) (.cons (.k (.str "ssc")) (.cons (.k (.str "sgc")) (.cons (.k (.str "gsc")) (.cons (.k (.str "sc")) (.cons (.k (.str "gc")) .nil)))))))))
def b15_3 : S := (.set (.n 3) (.call 5 (.cons (.var 0) (.cons (.k (.int 7)) .nil))))
def b15_4 : S := (.set (.n 4) (.call 12 (.cons (.var 0) (.cons (.k (.int 2)) (.cons (.k (.bl false)) .nil)))))
def b15_5 : S := (.set (.n 5) (.lst (.cons (.op .idx (.cons (.var 1) (.cons (.var 3) .nil))) .nil)))
def b15_6b_1t_1 : S := (.ex (.mut .app 5 (.cons (.op .idx (.cons (.var 4) (.cons (.op .mod (.cons (.op .len (.cons (.var 5) .nil)) (.cons (.k (.int 2)) .nil))) .nil))) .nil)))
def b15_6b_1e_1t_1 : S := (.ex (.mut .app 5 (.cons (.op .idx (.cons (.call 12 (.cons (.var 0) (.cons (.k (.int 1)) (.cons (.k (.bl true)) .nil)))) (.cons (.k (.int 0)) .nil))) .nil)))
def b15_6b_1e_1e_1 : S := (.ex (.mut .app 5 (.cons (.op .add (.cons (.k (.int 1)) (.cons (.call 5 (.cons (.var 0) (.cons (.op .idx (.cons (.lst (.cons (.k (.int 9)) (.cons (.op .pow (.cons (.k (.int 10)) (.cons (.k (.int 12)) .nil))) .nil))) (.cons (.call 5 (.cons (.var 0) (.cons (.k (.int 2)) .nil))) .nil))) .nil))) .nil))) .nil)))
def b15_6b_1e_1 : S := (.iff (.op .eq (.cons (.var 6) (.cons (.k (.str "g")) .nil))) (.seq b15_6b_1e_1t_1 .pass) (.seq b15_6b_1e_1e_1 .pass))
def b15_6b_1 : S := (.iff (.op .eq (.cons (.var 6) (.cons (.k (.str "s")) .nil))) (.seq b15_6b_1t_1 .pass) (.seq b15_6b_1e_1 .pass))
def b15_6 : S := (.for_ (.n 6) .pl (.cons (.op .idx (.cons (.var 2) (.cons (.var 3) .nil))) .nil) (.seq b15_6b_1 .pass) [6])
def b15_7 : S := (.ret (.mv 5))
def b15 : S := (.seq b15_1 (.seq b15_2 (.seq b15_3 (.seq b15_4 (.seq b15_5 (.seq b15_6 (.seq b15_7 .pass)))))))
def df15 : Df := ⟨1, 7, [], b15⟩
/-! l_bent -/
def b16_1 : S := (.set (.n 2) (.op .add (.cons (.k (.int 1)) (.cons (.call 5 (.cons (.var 0) (.cons (.op .sub (.cons (.op .len (.cons (.var 1) .nil)) (.cons (.k (.int 1)) .nil))) .nil))) .nil))))
def b16_2 : S := (.set (.n 1) (.op .lst1 (.cons (.var 1) .nil)))
def b16_3t_1 : S := (.set (.n 3) (.op .idx (.cons (.var 1) (.cons (.var 2) .nil))))
def b16_3t_2 : S := (.set (.n 4) (.lst (.cons (.k (.str "")) (.cons (.mop .upper (.var 3) .nil) (.cons (.mop .lower (.var 3) .nil) (.cons (.op .add (.cons (.op .add (.cons (.var 3) (.cons (.var 3) .nil))) (.cons (.k (.str "abcdefgh")) .nil))) (.cons (.op .add (.cons (.slc (.var 3) .nil (.cons (.k (.int 3)) .nil)) (.cons (.k (.str " a")) .nil))) (.cons (.op .idx (.cons (.var 1) (.cons (.k (.int 1)) .nil))) .nil))))))))
def b16_3t_3 : S := (.sput 1 (.var 2) (.op .idx (.cons (.var 4) (.cons (.call 5 (.cons (.var 0) (.cons (.k (.int 6)) .nil))) .nil))))
def b16_3e_1 : S := (.set (.n 5) (.op .sub (.cons (.op .pow (.cons (.k (.int 10)) (.cons (.k (.int 29)) .nil))) (.cons (.call 5 (.cons (.var 0) (.cons (.op .pow (.cons (.k (.int 10)) (.cons (.k (.int 9)) .nil))) .nil))) .nil))))
def b16_3e_2 : S := (.sput 1 (.var 2) (.op .idx (.cons (.lst (.cons (.k (.int 0)) (.cons (.op .neg (.cons (.k (.int 1)) .nil)) (.cons (.op .pow (.cons (.k (.int 10)) (.cons (.k (.int 12)) .nil))) (.cons (.op .add (.cons (.op .pow (.cons (.k (.int 10)) (.cons (.k (.int 12)) .nil))) (.cons (.k (.int 1)) .nil))) (.cons (.var 5) (.cons (.op .neg (.cons (.var 5) .nil)) (.cons (.k (.int 1)) .nil)))))))) (.cons (.call 5 (.cons (.var 0) (.cons (.k (.int 7)) .nil))) .nil))))
def b16_3 : S := (.iff (.op (.isi 2) (.cons (.op .idx (.cons (.var 1) (.cons (.var 2) .nil))) .nil)) (.seq b16_3t_1 (.seq b16_3t_2 (.seq b16_3t_3 .pass))) (.seq b16_3e_1 (.seq b16_3e_2 .pass)))
def b16_4 : S := (.ret (.var 1))
def b16 : S := (.seq b16_1 (.seq b16_2 (.seq b16_3 (.seq b16_4 .pass))))
def df16 : Df := ⟨2, 6, [1], b16⟩
/-! law_k02 -/
def b17_1 : S := (.set (.n 1) (.call 4 (.cons (.var 0) .nil)))
def b17_2b_1 : S := (.set (.n 3) (.call 15 (.cons (.var 1) .nil)))
def b17_2b_2t_1 : S := (.set (.n 3) (.call 16 (.cons (.var 1) (.cons (.fv 3) .nil))))
def b17_2b_2 : S := (.iff (.op .gt (.cons (.call 5 (.cons (.var 1) (.cons (.k (.int 3)) .nil))) (.cons (.k (.int 0)) .nil))) (.seq b17_2b_2t_1 .pass) .pass)
def b17_2b_3 : S := (.set (.n 4) (.op .tup1 (.cons (.var 3) .nil)))
def b17_2b_4t_1 : S := (.ret (.k (.bl false)))
def b17_2b_4 : S := (.iff (.not_ (.call 6 (.cons (.call 11 (.cons (.var 4) .nil)) (.cons (.call 14 (.cons (.var 4) .nil)) .nil)))) (.seq b17_2b_4t_1 .pass) .pass)
def b17_2 : S := (.for_ (.n 2) .rg1 (.cons (.k (.int 8)) .nil) (.seq b17_2b_1 (.seq b17_2b_2 (.seq b17_2b_3 (.seq b17_2b_4 .pass)))) [2, 3, 4])
def b17_3 : S := (.ret (.k (.bl true)))
def b17 : S := (.seq b17_1 (.seq b17_2 (.seq b17_3 .pass)))
def df17 : Df := ⟨1, 5, [], b17⟩
/-! source -/
def b18_1t_1 : S := (.ret (.op .idx (.cons (.var 0) (.cons (.k (.int 1)) .nil))))
def b18_1 : S := (.iff (.op .inn (.cons (.op .idx (.cons (.var 0) (.cons (.k (.int 0)) .nil))) (.cons (.tup (.cons (.k (.str "pay")) (.cons (.k (.str "buy")) (.cons (.k (.str "sell")) (.cons (.k (.str "spend")) .nil))))) .nil))) (.seq b18_1t_1 .pass) .pass)
def b18_2 : S := (.ret (.k .non))
def b18 : S := (.seq b18_1 (.seq b18_2 .pass))
def df18 : Df := ⟨1, 1, [], b18⟩
/-! goal -/
def b19_1t_1 : S := (.ret (.op .idx (.cons (.var 0) (.cons (.k (.int 2)) .nil))))
def b19_1 : S := (.iff (.op .inn (.cons (.op .idx (.cons (.var 0) (.cons (.k (.int 0)) .nil))) (.cons (.tup (.cons (.k (.str "in")) (.cons (.k (.str "pay")) (.cons (.k (.str "buy")) (.cons (.k (.str "sell")) .nil))))) .nil))) (.seq b19_1t_1 .pass) .pass)
def b19_2t_1 : S := (.ret (.op .idx (.cons (.var 0) (.cons (.k (.int 1)) .nil))))
def b19_2 : S := (.iff (.op .eq (.cons (.op .idx (.cons (.var 0) (.cons (.k (.int 0)) .nil))) (.cons (.k (.str "own")) .nil))) (.seq b19_2t_1 .pass) .pass)
def b19_3 : S := (.ret (.k .non))
def b19 : S := (.seq b19_1 (.seq b19_2 (.seq b19_3 .pass)))
def df19 : Df := ⟨1, 1, [], b19⟩
/-! named -/
def b20_1 : S := (.set (.n 2) (.dic .nil))
def b20_2b_1b_1t_1 : S := (.dput 2 (.var 5) (.k (.bl true)))
def b20_2b_1b_1 : S := (.iff (.op .eq (.cons (.var 4) (.cons (.var 1) .nil))) (.seq b20_2b_1b_1t_1 .pass) .pass)
def b20_2b_1 : S := (.for_ (.cons (.n 4) (.cons (.n 5) .nil)) .zp (.cons (.op (.tab "FORMS") (.cons (.op .idx (.cons (.var 3) (.cons (.k (.int 0)) .nil))) .nil)) (.cons (.slc (.var 3) (.cons (.k (.int 1)) .nil) .nil) .nil)) (.seq b20_2b_1b_1 .pass) [])
def b20_2 : S := (.for_ (.n 3) .pl (.cons (.var 0) .nil) (.seq b20_2b_1 .pass) [3, 4, 5])
def b20_3 : S := (.ret (.op .lst1 (.cons (.var 2) .nil)))
def b20 : S := (.seq b20_1 (.seq b20_2 (.seq b20_3 .pass)))
def df20 : Df := ⟨2, 7, [], b20⟩
/-! taken_by -/
def b21_1t_1 : S := (.ret (.mop .get2 (.var 0) (.cons (.op .idx (.cons (.var 1) (.cons (.k (.int 1)) .nil))) (.cons (.k (.int 0)) .nil))))
def b21_1 : S := (.iff (.op .eq (.cons (.op .idx (.cons (.var 1) (.cons (.k (.int 0)) .nil))) (.cons (.k (.str "sell")) .nil))) (.seq b21_1t_1 .pass) .pass)
def b21_2 : S := (.ret (.op .idx (.cons (.var 1) (.cons (.op .neg (.cons (.k (.int 1)) .nil)) .nil))))
def b21 : S := (.seq b21_1 (.seq b21_2 .pass))
def df21 : Df := ⟨2, 2, [], b21⟩
/-! can_be -/
def b22_1t_1 : S := (.ret (.op .gt (.cons (.mop .get2 (.var 0) (.cons (.op .idx (.cons (.var 1) (.cons (.k (.int 1)) .nil))) (.cons (.k (.int 0)) .nil))) (.cons (.k (.int 0)) .nil))))
def b22_1 : S := (.iff (.op .eq (.cons (.op .idx (.cons (.var 1) (.cons (.k (.int 0)) .nil))) (.cons (.k (.str "sell")) .nil))) (.seq b22_1t_1 .pass) .pass)
def b22_2 : S := (.ret (.or_ (.cons (.op .isN (.cons (.call 18 (.cons (.var 1) .nil)) .nil)) (.cons (.op .ge (.cons (.mop .get2 (.var 0) (.cons (.call 18 (.cons (.var 1) .nil)) (.cons (.k (.int 0)) .nil))) (.cons (.op .idx (.cons (.var 1) (.cons (.op .neg (.cons (.k (.int 1)) .nil)) .nil))) .nil))) .nil))))
def b22 : S := (.seq b22_1 (.seq b22_2 .pass))
def df22 : Df := ⟨2, 2, [], b22⟩
/-! behind_act -/
def b23_1 : S := (.set (.n 2) (.op .dct1 (.cons (.var 0) .nil)))
def b23_2 : S := (.set (.n 3) (.call 18 (.cons (.var 1) .nil)))
def b23_3 : S := (.set (.n 4) (.call 19 (.cons (.var 1) .nil)))
def b23_4t_1 : S := (.dput 2 (.var 3) (.op .sub (.cons (.mop .get2 (.var 0) (.cons (.var 3) (.cons (.k (.int 0)) .nil))) (.cons (.call 21 (.cons (.var 0) (.cons (.var 1) .nil))) .nil))))
def b23_4 : S := (.iff (.op .noN (.cons (.var 3) .nil)) (.seq b23_4t_1 .pass) .pass)
def b23_5t_1 : S := (.dput 2 (.var 4) (.op .add (.cons (.mop .get2 (.var 2) (.cons (.var 4) (.cons (.k (.int 0)) .nil))) (.cons (.op .idx (.cons (.var 1) (.cons (.op .neg (.cons (.k (.int 1)) .nil)) .nil))) .nil))))
def b23_5 : S := (.iff (.op .noN (.cons (.var 4) .nil)) (.seq b23_5t_1 .pass) .pass)
def b23_6 : S := (.ret (.mv 2))
def b23 : S := (.seq b23_1 (.seq b23_2 (.seq b23_3 (.seq b23_4 (.seq b23_5 (.seq b23_6 .pass))))))
def df23 : Df := ⟨2, 5, [], b23⟩
/-! look -/
def b24_1b_1t_1 : S := .bad
def b24_1b_1 : S := (.iff (.not_ (.call 11 (.cons (.var 2) .nil))) (.seq b24_1b_1t_1 .pass) .pass)
def b24_1 : S := (.for_ (.cons (.n 1) (.cons (.n 2) .nil)) .en (.cons (.var 0) .nil) (.seq b24_1b_1 .pass) [1, 2])
def b24_2t_1 : S := .bad
def b24_2 : S := (.iff (.or_ (.cons (.op .gt (.cons (.op .len (.cons (.var 0) .nil)) (.cons (.g "MOST_ACTS") .nil))) (.cons (.op .any1 (.cons (.lc (.op .gt (.cons (.op .len (.cons (.call 20 (.cons (.var 0) (.cons (.var 3) .nil))) .nil)) (.cons (.op (.tab "MOST") (.cons (.var 3) .nil)) .nil))) (.n 3) .pl (.cons (.tup (.cons (.k (.str "p")) (.cons (.k (.str "t")) (.cons (.k (.str "o")) .nil)))) .nil) .nil) .nil)) .nil))) (.seq b24_2t_1 .pass) .pass)
def b24_3 : S := (.set (.n 4) (.dic .nil))
def b24_4b_1t_1 : S := .bad
def b24_4b_1 : S := (.iff (.not_ (.call 22 (.cons (.var 4) (.cons (.var 2) .nil)))) (.seq b24_4b_1t_1 .pass) .pass)
def b24_4b_2 : S := (.set (.n 4) (.call 23 (.cons (.var 4) (.cons (.var 2) .nil))))
def b24_4 : S := (.for_ (.cons (.n 1) (.cons (.n 2) .nil)) .en (.cons (.var 0) .nil) (.seq b24_4b_1 (.seq b24_4b_2 .pass)) [])
def b24 : S := (.seq b24_1 (.seq b24_2 (.seq b24_3 (.seq b24_4 .pass))))
def df24 : Df := ⟨1, 6, [], b24⟩
/-! l_same_2 -/
def b25_1t_1 : S := (.ret (.op .isN (.cons (.var 0) .nil)))
def b25_1 : S := (.iff (.op .isN (.cons (.var 1) .nil)) (.seq b25_1t_1 .pass) .pass)
def b25_2t_1t_1 : S := (.ret (.k (.bl false)))
def b25_2t_1 : S := (.iff (.or_ (.cons (.op .ne (.cons (.op (.isi 3) (.cons (.var 0) .nil)) (.cons (.op (.isi 3) (.cons (.var 1) .nil)) .nil))) (.cons (.op .ne (.cons (.op (.isi 4) (.cons (.var 0) .nil)) (.cons (.op (.isi 4) (.cons (.var 1) .nil)) .nil))) .nil))) (.seq b25_2t_1t_1 .pass) .pass)
def b25_2t_2 : S := (.ret (.and_ (.cons (.op .eq (.cons (.op .len (.cons (.var 0) .nil)) (.cons (.op .len (.cons (.var 1) .nil)) .nil))) (.cons (.op .all1 (.cons (.lc (.call 25 (.cons (.var 2) (.cons (.var 3) .nil))) (.cons (.n 2) (.cons (.n 3) .nil)) .zp (.cons (.var 0) (.cons (.var 1) .nil)) .nil) .nil)) .nil))))
def b25_2 : S := (.iff (.op (.isi 5) (.cons (.var 1) .nil)) (.seq b25_2t_1 (.seq b25_2t_2 .pass)) .pass)
def b25_3t_1 : S := (.ret (.k (.bl false)))
def b25_3 : S := (.iff (.or_ (.cons (.op .ne (.cons (.op (.isi 0) (.cons (.var 0) .nil)) (.cons (.op (.isi 0) (.cons (.var 1) .nil)) .nil))) (.cons (.op .ne (.cons (.op (.isi 2) (.cons (.var 0) .nil)) (.cons (.op (.isi 2) (.cons (.var 1) .nil)) .nil))) .nil))) (.seq b25_3t_1 .pass) .pass)
def b25_4 : S := (.ret (.and_ (.cons (.op .eq (.cons (.op (.isi 1) (.cons (.var 0) .nil)) (.cons (.op (.isi 1) (.cons (.var 1) .nil)) .nil))) (.cons (.op .eq (.cons (.var 0) (.cons (.var 1) .nil))) .nil))))
def b25 : S := (.seq b25_1 (.seq b25_2 (.seq b25_3 (.seq b25_4 .pass))))
def df25 : Df := ⟨2, 4, [], b25⟩
/-! l_any -/
def b26_1 : S := (.ret (.op .idx (.cons (.var 1) (.cons (.call 5 (.cons (.var 0) (.cons (.op .len (.cons (.var 1) .nil)) .nil))) .nil))))
def b26 : S := (.seq b26_1 .pass)
def df26 : Df := ⟨2, 2, [], b26⟩
/-! l_amount -/
def b27_1 : S := (.ret (.op .idx (.cons (.lst (.cons (.var 1) (.cons (.op .mx2 (.cons (.k (.int 1)) (.cons (.op .sub (.cons (.var 1) (.cons (.k (.int 1)) .nil))) .nil))) (.cons (.k (.int 1)) (.cons (.op .add (.cons (.k (.int 1)) (.cons (.call 5 (.cons (.var 0) (.cons (.op .mn2 (.cons (.var 1) (.cons (.k (.int 9)) .nil))) .nil))) .nil))) (.cons (.op .add (.cons (.k (.int 1)) (.cons (.call 5 (.cons (.var 0) (.cons (.var 1) .nil))) .nil))) .nil)))))) (.cons (.call 5 (.cons (.var 0) (.cons (.k (.int 5)) .nil))) .nil))))
def b27 : S := (.seq b27_1 .pass)
def df27 : Df := ⟨2, 2, [], b27⟩
/-! l_coins -/
def b28_1 : S := (.ret (.op .add (.cons (.k (.int 1)) (.cons (.call 5 (.cons (.var 0) (.cons (.op .idx (.cons (.lst (.cons (.k (.int 9)) (.cons (.k (.int 60)) (.cons (.op .pow (.cons (.k (.int 10)) (.cons (.k (.int 6)) .nil))) (.cons (.op .pow (.cons (.k (.int 10)) (.cons (.k (.int 12)) .nil))) .nil))))) (.cons (.var 1) .nil))) .nil))) .nil))))
def b28 : S := (.seq b28_1 .pass)
def df28 : Df := ⟨2, 2, [], b28⟩
/-! l_from -/
def b29_1t_1 : S := (.ret (.op .idx (.cons (.var 0) (.cons (.k (.int 1)) .nil))))
def b29_1 : S := (.iff (.op .inn (.cons (.op .idx (.cons (.var 0) (.cons (.k (.int 0)) .nil))) (.cons (.tup (.cons (.k (.str "pay")) (.cons (.k (.str "buy")) (.cons (.k (.str "sell")) (.cons (.k (.str "spend")) .nil))))) .nil))) (.seq b29_1t_1 .pass) .pass)
def b29_2 : S := (.ret (.k .non))
def b29 : S := (.seq b29_1 (.seq b29_2 .pass))
def df29 : Df := ⟨1, 1, [], b29⟩
/-! l_into -/
def b30_1t_1 : S := (.ret (.op .idx (.cons (.var 0) (.cons (.k (.int 1)) .nil))))
def b30_1 : S := (.iff (.op .eq (.cons (.op .idx (.cons (.var 0) (.cons (.k (.int 0)) .nil))) (.cons (.k (.str "own")) .nil))) (.seq b30_1t_1 .pass) .pass)
def b30_2t_1 : S := (.ret (.op .idx (.cons (.var 0) (.cons (.k (.int 2)) .nil))))
def b30_2 : S := (.iff (.op .inn (.cons (.op .idx (.cons (.var 0) (.cons (.k (.int 0)) .nil))) (.cons (.tup (.cons (.k (.str "in")) (.cons (.k (.str "pay")) (.cons (.k (.str "buy")) (.cons (.k (.str "sell")) .nil))))) .nil))) (.seq b30_2t_1 .pass) .pass)
def b30_3 : S := (.ret (.k .non))
def b30 : S := (.seq b30_1 (.seq b30_2 (.seq b30_3 .pass)))
def df30 : Df := ⟨1, 1, [], b30⟩
/-! l_gone -/
def b31_1t_1 : S := (.ret (.mop .get2 (.var 0) (.cons (.op .idx (.cons (.var 1) (.cons (.k (.int 1)) .nil))) (.cons (.k (.int 0)) .nil))))
def b31_1 : S := (.iff (.op .eq (.cons (.op .idx (.cons (.var 1) (.cons (.k (.int 0)) .nil))) (.cons (.k (.str "sell")) .nil))) (.seq b31_1t_1 .pass) .pass)
def b31_2 : S := (.ret (.op .idx (.cons (.var 1) (.cons (.op .neg (.cons (.k (.int 1)) .nil)) .nil))))
def b31 : S := (.seq b31_1 (.seq b31_2 .pass))
def df31 : Df := ⟨2, 2, [], b31⟩
/-! l_next_held -/
def b32_1 : S := (.set (.n 2) (.op .dct1 (.cons (.var 0) .nil)))
def b32_2 : S := (.set (.n 3) (.call 29 (.cons (.var 1) .nil)))
def b32_3 : S := (.set (.n 4) (.call 30 (.cons (.var 1) .nil)))
def b32_4t_1 : S := (.dput 2 (.var 3) (.op .sub (.cons (.mop .get2 (.var 2) (.cons (.var 3) (.cons (.k (.int 0)) .nil))) (.cons (.call 31 (.cons (.var 0) (.cons (.var 1) .nil))) .nil))))
def b32_4 : S := (.iff (.op .noN (.cons (.var 3) .nil)) (.seq b32_4t_1 .pass) .pass)
def b32_5t_1 : S := (.dput 2 (.var 4) (.op .add (.cons (.mop .get2 (.var 2) (.cons (.var 4) (.cons (.k (.int 0)) .nil))) (.cons (.op .idx (.cons (.var 1) (.cons (.op .neg (.cons (.k (.int 1)) .nil)) .nil))) .nil))))
def b32_5 : S := (.iff (.op .noN (.cons (.var 4) .nil)) (.seq b32_5t_1 .pass) .pass)
def b32_6 : S := (.ret (.mv 2))
def b32 : S := (.seq b32_1 (.seq b32_2 (.seq b32_3 (.seq b32_4 (.seq b32_5 (.seq b32_6 .pass))))))
def df32 : Df := ⟨2, 5, [], b32⟩
/-! l_along -/
def b33_1 : S := (.set (.n 1) (.lst (.cons (.dic .nil) .nil)))
def b33_2b_1 : S := (.ex (.mut .app 1 (.cons (.call 32 (.cons (.op .idx (.cons (.var 1) (.cons (.op .neg (.cons (.k (.int 1)) .nil)) .nil))) (.cons (.var 2) .nil))) .nil)))
def b33_2 : S := (.for_ (.n 2) .pl (.cons (.var 0) .nil) (.seq b33_2b_1 .pass) [2])
def b33_3 : S := (.ret (.slc (.var 1) (.cons (.k (.int 1)) .nil) .nil))
def b33 : S := (.seq b33_1 (.seq b33_2 (.seq b33_3 .pass)))
def df33 : Df := ⟨1, 3, [], b33⟩
/-! l_priced -/
def b34_1 : S := (.set (.n 2) (.call 5 (.cons (.var 0) (.cons (.k (.int 5)) .nil))))
def b34_2 : S := (.set (.n 3) (.op .add (.cons (.k (.int 1)) (.cons (.call 5 (.cons (.var 0) (.cons (.k (.int 9)) .nil))) .nil))))
def b34_3 : S := (.ret (.op .mx2 (.cons (.k (.int 1)) (.cons (.op .mn2 (.cons (.op .pow (.cons (.k (.int 10)) (.cons (.k (.int 12)) .nil))) (.cons (.op .idx (.cons (.lst (.cons (.var 1) (.cons (.op .sub (.cons (.var 1) (.cons (.var 3) .nil))) (.cons (.op .add (.cons (.var 1) (.cons (.var 3) .nil))) (.cons (.op .fdv (.cons (.var 1) (.cons (.k (.int 2)) .nil))) (.cons (.k (.int 1)) .nil)))))) (.cons (.var 2) .nil))) .nil))) .nil))))
def b34 : S := (.seq b34_1 (.seq b34_2 (.seq b34_3 .pass)))
def df34 : Df := ⟨2, 4, [], b34⟩
/-! l_house -/
def b35_1 : S := (.set (.n 1) (.call 12 (.cons (.var 0) (.cons (.op .idx (.cons (.lst (.cons (.k (.int 1)) (.cons (.k (.int 2)) (.cons (.k (.int 3)) (.cons (.k (.int 4)) (.cons (.k (.int 8)) .nil)))))) (.cons (.call 5 (.cons (.var 0) (.cons (.k (.int 5)) .nil))) .nil))) (.cons (.k (.bl false)) .nil)))))
def b35_2 : S := (.set (.n 2) (.call 12 (.cons (.var 0) (.cons (.op .idx (.cons (.lst (.cons (.k (.int 1)) (.cons (.k (.int 2)) (.cons (.k (.int 0)) (.cons (.k (.int 3)) (.cons (.k (.int 12)) .nil)))))) (.cons (.call 5 (.cons (.var 0) (.cons (.k (.int 5)) .nil))) .nil))) (.cons (.k (.bl true)) .nil)))))
def b35_3 : S := (.set (.n 3) (.call 12 (.cons (.var 0) (.cons (.op .idx (.cons (.lst (.cons (.k (.int 1)) (.cons (.k (.int 2)) (.cons (.k (.int 3)) (.cons (.k (.int 2)) (.cons (.k (.int 4)) (.cons (.k (.int 6)) .nil))))))) (.cons (.call 5 (.cons (.var 0) (.cons (.k (.int 6)) .nil))) .nil))) (.cons (.k (.bl false)) .nil)))))
def b35_4 : S := (.ret (.tup (.cons (.var 1) (.cons (.var 2) (.cons (.var 3) (.cons (.call 5 (.cons (.var 0) (.cons (.k (.int 4)) .nil))) .nil))))))
def b35 : S := (.seq b35_1 (.seq b35_2 (.seq b35_3 (.seq b35_4 .pass))))
def df35 : Df := ⟨1, 4, [], b35⟩
/-! l_purse_act -/
def b36_1 : S := (.set (.cons (.n 3) (.cons (.n 4) (.cons (.n 5) (.cons (.n 6) .nil)))) (.var 1))
def b36_2 : S := (.set (.n 7) (.lc (.var 8) (.n 8) .pl (.cons (.var 3) .nil) (.cons (.op .gt (.cons (.mop .get2 (.var 2) (.cons (.var 8) (.cons (.k (.int 0)) .nil))) (.cons (.k (.int 0)) .nil))) .nil)))
def b36_3 : S := (.set (.n 9) (.call 5 (.cons (.var 0) (.cons (.k (.int 9)) .nil))))
def b36_4t_1 : S := (.ret (.tup (.cons (.k (.str "in")) (.cons (.call 26 (.cons (.var 0) (.cons (.var 5) .nil))) (.cons (.call 26 (.cons (.var 0) (.cons (.var 3) .nil))) (.cons (.call 28 (.cons (.var 0) (.cons (.var 6) .nil))) .nil))))))
def b36_4 : S := (.iff (.or_ (.cons (.op .eq (.cons (.var 7) (.cons (.lst .nil) .nil))) (.cons (.op .lt (.cons (.var 9) (.cons (.k (.int 2)) .nil))) .nil))) (.seq b36_4t_1 .pass) .pass)
def b36_5t_1 : S := (.ret (.tup (.cons (.k (.str "own")) (.cons (.call 26 (.cons (.var 0) (.cons (.var 3) .nil))) (.cons (.call 28 (.cons (.var 0) (.cons (.var 6) .nil))) .nil)))))
def b36_5 : S := (.iff (.op .eq (.cons (.var 9) (.cons (.k (.int 2)) .nil))) (.seq b36_5t_1 .pass) .pass)
def b36_6 : S := (.set (.n 10) (.call 26 (.cons (.var 0) (.cons (.var 7) .nil))))
def b36_7 : S := (.set (.n 11) (.call 27 (.cons (.var 0) (.cons (.op .mn2 (.cons (.op .idx (.cons (.var 2) (.cons (.var 10) .nil))) (.cons (.op .pow (.cons (.k (.int 10)) (.cons (.k (.int 12)) .nil))) .nil))) .nil))))
def b36_8 : S := (.set (.n 12) (.lc (.var 8) (.n 8) .pl (.cons (.var 3) .nil) (.cons (.op .ne (.cons (.var 8) (.cons (.var 10) .nil))) .nil)))
def b36_9t_1 : S := (.ret (.tup (.cons (.k (.str "pay")) (.cons (.var 10) (.cons (.call 26 (.cons (.var 0) (.cons (.var 12) .nil))) (.cons (.var 11) .nil))))))
def b36_9 : S := (.iff (.and_ (.cons (.op .lt (.cons (.var 9) (.cons (.k (.int 6)) .nil))) (.cons (.op .ne (.cons (.var 12) (.cons (.lst .nil) .nil))) .nil))) (.seq b36_9t_1 .pass) .pass)
def b36_10t_1 : S := (.ret (.tup (.cons (.k (.str "spend")) (.cons (.var 10) (.cons (.var 11) .nil)))))
def b36_10 : S := (.iff (.or_ (.cons (.op .eq (.cons (.var 9) (.cons (.k (.int 6)) .nil))) (.cons (.op .eq (.cons (.var 4) (.cons (.lst .nil) .nil))) .nil))) (.seq b36_10t_1 .pass) .pass)
def b36_11 : S := (.ret (.tup (.cons (.k (.str "buy")) (.cons (.var 10) (.cons (.call 26 (.cons (.var 0) (.cons (.var 4) .nil))) (.cons (.var 11) .nil))))))
def b36 : S := (.seq b36_1 (.seq b36_2 (.seq b36_3 (.seq b36_4 (.seq b36_5 (.seq b36_6 (.seq b36_7 (.seq b36_8 (.seq b36_9 (.seq b36_10 (.seq b36_11 .pass)))))))))))
def df36 : Df := ⟨3, 13, [], b36⟩
/-! l_good -/
def b37_1 : S := (.set (.cons (.n 3) (.cons (.n 4) (.cons (.n 5) (.cons (.n 6) .nil)))) (.var 1))
def b37_2 : S := (.set (.n 7) (.lc (.var 8) (.n 8) .pl (.cons (.var 4) .nil) (.cons (.op .gt (.cons (.mop .get2 (.var 2) (.cons (.var 8) (.cons (.k (.int 0)) .nil))) (.cons (.k (.int 0)) .nil))) .nil)))
def b37_3 : S := (.set (.n 9) (.call 5 (.cons (.var 0) (.cons (.k (.int 7)) .nil))))
def b37_4t_1 : S := (.set (.n 10) (.call 26 (.cons (.var 0) (.cons (.var 4) .nil))))
def b37_4t_2 : S := (.ret (.tup (.cons (.k (.str "worth")) (.cons (.var 10) (.cons (.op .mod (.cons (.op .idx (.cons (.lst (.cons (.k (.int 0)) (.cons (.mop .get2 (.var 2) (.cons (.var 10) (.cons (.k (.int 0)) .nil))) (.cons (.call 5 (.cons (.var 0) (.cons (.k (.int 90)) .nil))) .nil)))) (.cons (.call 5 (.cons (.var 0) (.cons (.k (.int 3)) .nil))) .nil))) (.cons (.op .add (.cons (.op .pow (.cons (.k (.int 10)) (.cons (.k (.int 12)) .nil))) (.cons (.k (.int 1)) .nil))) .nil))) .nil)))))
def b37_4 : S := (.iff (.and_ (.cons (.op .ne (.cons (.var 4) (.cons (.lst .nil) .nil))) (.cons (.op .eq (.cons (.var 9) (.cons (.k (.int 0)) .nil))) .nil))) (.seq b37_4t_1 (.seq b37_4t_2 .pass)) .pass)
def b37_5t_1 : S := (.set (.n 10) (.call 26 (.cons (.var 0) (.cons (.var 7) .nil))))
def b37_5t_2 : S := (.ret (.tup (.cons (.k (.str "sell")) (.cons (.var 10) (.cons (.call 26 (.cons (.var 0) (.cons (.var 3) .nil))) (.cons (.call 34 (.cons (.var 0) (.cons (.op .idx (.cons (.var 2) (.cons (.var 10) .nil))) .nil))) .nil))))))
def b37_5 : S := (.iff (.and_ (.cons (.op .ne (.cons (.var 7) (.cons (.lst .nil) .nil))) (.cons (.op .lt (.cons (.var 9) (.cons (.k (.int 3)) .nil))) .nil))) (.seq b37_5t_1 (.seq b37_5t_2 .pass)) .pass)
def b37_6 : S := (.ret (.call 36 (.cons (.var 0) (.cons (.var 1) (.cons (.var 2) .nil)))))
def b37 : S := (.seq b37_1 (.seq b37_2 (.seq b37_3 (.seq b37_4 (.seq b37_5 (.seq b37_6 .pass))))))
def df37 : Df := ⟨3, 11, [], b37⟩
/-! l_acts -/
def b38_1 : S := (.set (.n 3) (.lst .nil))
def b38_2 : S := (.set (.n 4) (.dic .nil))
def b38_3b_1 : S := (.ex (.mut .app 3 (.cons (.call 37 (.cons (.var 0) (.cons (.var 1) (.cons (.var 4) .nil)))) .nil)))
def b38_3b_2 : S := (.set (.n 4) (.call 32 (.cons (.var 4) (.cons (.op .idx (.cons (.var 3) (.cons (.op .neg (.cons (.k (.int 1)) .nil)) .nil))) .nil))))
def b38_3 : S := (.for_ (.n 5) .rg1 (.cons (.var 2) .nil) (.seq b38_3b_1 (.seq b38_3b_2 .pass)) [5])
def b38_4 : S := (.ret (.mv 3))
def b38 : S := (.seq b38_1 (.seq b38_2 (.seq b38_3 (.seq b38_4 .pass))))
def df38 : Df := ⟨3, 6, [], b38⟩
/-! l_first_names -/
def b39_1 : S := (.set (.n 2) (.dic (.cons (.k (.str "in")) (.cons (.k (.str "opc")) (.cons (.k (.str "own")) (.cons (.k (.str "pc")) (.cons (.k (.str "pay")) (.cons (.k (.str "ppc")) (.cons (.k (.str "buy")) (.cons (.k (.str "ptc")) (.cons (.k (.str "sell")) (.cons (.k (.str "tpc")) (.cons (.k (.str "spend")) (.cons (.k (.str "pc")) (.cons (.k (.str "worth")) (.cons (.k (.str "tw")) .nil))))))))))))))))
def b39_2 : S := (.set (.n 3) (.lst .nil))
def b39_3b_1 : S := (.set (.n 5) (.op .idx (.cons (.var 2) (.cons (.op .idx (.cons (.var 4) (.cons (.k (.int 0)) .nil))) .nil))))
def b39_3b_2b_1t_1 : S := (.ex (.mut .app 3 (.cons (.op .idx (.cons (.var 4) (.cons (.op .add (.cons (.var 6) (.cons (.k (.int 1)) .nil))) .nil))) .nil)))
def b39_3b_2b_1 : S := (.iff (.and_ (.cons (.op .eq (.cons (.op .idx (.cons (.var 5) (.cons (.var 6) .nil))) (.cons (.var 1) .nil))) (.cons (.op .nin (.cons (.op .idx (.cons (.var 4) (.cons (.op .add (.cons (.var 6) (.cons (.k (.int 1)) .nil))) .nil))) (.cons (.var 3) .nil))) .nil))) (.seq b39_3b_2b_1t_1 .pass) .pass)
def b39_3b_2 : S := (.for_ (.n 6) .rg1 (.cons (.op .len (.cons (.var 5) .nil)) .nil) (.seq b39_3b_2b_1 .pass) [])
def b39_3 : S := (.for_ (.n 4) .pl (.cons (.var 0) .nil) (.seq b39_3b_1 (.seq b39_3b_2 .pass)) [4, 5, 6])
def b39_4 : S := (.ret (.mv 3))
def b39 : S := (.seq b39_1 (.seq b39_2 (.seq b39_3 (.seq b39_4 .pass))))
def df39 : Df := ⟨2, 7, [], b39⟩
/-! l_bad_act -/
def b40_1 : S := (.set (.n 1) (.lst (.cons (.tup (.cons (.k (.str "in")) (.cons (.k (.str "a")) (.cons (.k (.str "")) (.cons (.k (.int 3)) .nil))))) (.cons (.tup (.cons (.k (.str "own")) (.cons (.k (.str "a")) (.cons (.k (.int 0)) .nil)))) (.cons (.tup (.cons (.k (.str "pay")) (.cons (.k (.str "b")) (.cons (.k (.str "b")) (.cons (.k (.int 2)) .nil))))) (.cons (.tup (.cons (.k (.str "spend")) (.cons (.k (.str "A")) (.cons (.k (.int 1)) .nil)))) (.cons (.tup (.cons (.k (.str "worth")) (.cons (.k (.str "A")) (.cons (.op .neg (.cons (.k (.int 1)) .nil)) .nil)))) .nil)))))))
def b40_2 : S := (.ret (.call 26 (.cons (.var 0) (.cons (.op .add (.cons (.var 1) (.cons (.lst (.cons (.tup (.cons (.k (.str "buy")) (.cons (.k (.str "a")) (.cons (.k (.str "b")) (.cons (.k (.int 2)) .nil))))) (.cons (.tup (.cons (.k (.str "sell")) (.cons (.k (.str "A")) (.cons (.k (.str "a")) (.cons (.op .add (.cons (.op .pow (.cons (.k (.int 10)) (.cons (.k (.int 12)) .nil))) (.cons (.k (.int 1)) .nil))) .nil))))) (.cons (.tup (.cons (.k (.str "in")) (.cons (.k (.str "aB")) (.cons (.k (.str "a")) (.cons (.k (.int 1)) .nil))))) .nil)))) .nil))) .nil))))
def b40 : S := (.seq b40_1 (.seq b40_2 .pass))
def df40 : Df := ⟨1, 2, [], b40⟩
/-! l_unsound_act -/
def b41_1 : S := (.set (.n 2) (.lc (.var 3) (.n 3) .pl (.cons (.var 1) .nil) (.cons (.and_ (.cons (.op .gt (.cons (.op .idx (.cons (.var 1) (.cons (.var 3) .nil))) (.cons (.k (.int 0)) .nil))) (.cons (.mop .islower (.var 3) .nil) .nil))) .nil)))
def b41_2 : S := (.set (.n 4) (.lc (.var 3) (.n 3) .pl (.cons (.op .add (.cons (.lc (.op .add (.cons (.k (.str "Q")) (.cons (.var 5) .nil))) (.n 5) .pl (.cons (.k (.str "EFGHIJKLMNOPQRS")) .nil) .nil) (.cons (.op .lst1 (.cons (.var 1) .nil)) .nil))) .nil) (.cons (.op .eq (.cons (.mop .get2 (.var 1) (.cons (.var 3) (.cons (.k (.int 0)) .nil))) (.cons (.k (.int 0)) .nil))) .nil)))
def b41_3 : S := (.set (.n 6) (.tup (.cons (.k (.str "sell")) (.cons (.call 26 (.cons (.var 0) (.cons (.lc (.var 3) (.n 3) .pl (.cons (.var 4) .nil) (.cons (.mop .isupper (.var 3) .nil) .nil)) .nil))) (.cons (.k (.str "q")) (.cons (.op .add (.cons (.k (.int 1)) (.cons (.call 5 (.cons (.var 0) (.cons (.k (.int 9)) .nil))) .nil))) .nil))))))
def b41_4t_1 : S := (.ret (.mv 6))
def b41_4 : S := (.iff (.or_ (.cons (.op .eq (.cons (.var 2) (.cons (.lst .nil) .nil))) (.cons (.op .eq (.cons (.call 5 (.cons (.var 0) (.cons (.k (.int 3)) .nil))) (.cons (.k (.int 0)) .nil))) .nil))) (.seq b41_4t_1 .pass) .pass)
def b41_5 : S := (.set (.n 3) (.call 26 (.cons (.var 0) (.cons (.var 2) .nil))))
def b41_6 : S := (.set (.n 7) (.op .add (.cons (.op .add (.cons (.op .idx (.cons (.var 1) (.cons (.var 3) .nil))) (.cons (.k (.int 1)) .nil))) (.cons (.call 5 (.cons (.var 0) (.cons (.k (.int 9)) .nil))) .nil))))
def b41_7t_1 : S := (.ret (.mv 6))
def b41_7 : S := (.iff (.op .gt (.cons (.var 7) (.cons (.op .pow (.cons (.k (.int 10)) (.cons (.k (.int 12)) .nil))) .nil))) (.seq b41_7t_1 .pass) .pass)
def b41_8 : S := (.ret (.op .idx (.cons (.lst (.cons (.tup (.cons (.k (.str "spend")) (.cons (.var 3) (.cons (.var 7) .nil)))) (.cons (.tup (.cons (.k (.str "buy")) (.cons (.var 3) (.cons (.k (.str "QQQ")) (.cons (.var 7) .nil))))) .nil))) (.cons (.call 5 (.cons (.var 0) (.cons (.k (.int 2)) .nil))) .nil))))
def b41 : S := (.seq b41_1 (.seq b41_2 (.seq b41_3 (.seq b41_4 (.seq b41_5 (.seq b41_6 (.seq b41_7 (.seq b41_8 .pass))))))))
def df41 : Df := ⟨2, 8, [], b41⟩
/-! l_fault -/
def b42_1 : S := (.set (.n 1) (.call 39 (.cons (.var 0) (.cons (.k (.str "p")) .nil))))
def b42_2t_1 : S := (.ret (.tup (.cons (.k (.str "many")) (.cons (.k .non) .nil))))
def b42_2 : S := (.iff (.or_ (.cons (.op .gt (.cons (.op .len (.cons (.var 0) .nil)) (.cons (.k (.int 60)) .nil))) (.cons (.op .gt (.cons (.op .len (.cons (.var 1) .nil)) (.cons (.k (.int 8)) .nil))) (.cons (.op .gt (.cons (.op .len (.cons (.call 39 (.cons (.var 0) (.cons (.k (.str "t")) .nil))) .nil)) (.cons (.k (.int 12)) .nil))) .nil)))) (.seq b42_2t_1 .pass) .pass)
def b42_3t_1 : S := (.ret (.tup (.cons (.k (.str "many")) (.cons (.k .non) .nil))))
def b42_3 : S := (.iff (.op .gt (.cons (.op .len (.cons (.call 39 (.cons (.var 0) (.cons (.k (.str "o")) .nil))) .nil)) (.cons (.k (.int 6)) .nil))) (.seq b42_3t_1 .pass) .pass)
def b42_4 : S := (.set (.n 2) (.dic .nil))
def b42_5b_1 : S := (.set (.n 5) (.call 29 (.cons (.var 4) .nil)))
def b42_5b_2t_1 : S := (.ret (.tup (.cons (.k (.str "unsound")) (.cons (.var 3) .nil))))
def b42_5b_2 : S := (.iff (.and_ (.cons (.op .eq (.cons (.op .idx (.cons (.var 4) (.cons (.k (.int 0)) .nil))) (.cons (.k (.str "sell")) .nil))) (.cons (.op .eq (.cons (.mop .get2 (.var 2) (.cons (.var 5) (.cons (.k (.int 0)) .nil))) (.cons (.k (.int 0)) .nil))) .nil))) (.seq b42_5b_2t_1 .pass) .pass)
def b42_5b_3t_1 : S := (.ret (.tup (.cons (.k (.str "unsound")) (.cons (.var 3) .nil))))
def b42_5b_3 : S := (.iff (.and_ (.cons (.op .inn (.cons (.op .idx (.cons (.var 4) (.cons (.k (.int 0)) .nil))) (.cons (.tup (.cons (.k (.str "pay")) (.cons (.k (.str "buy")) (.cons (.k (.str "spend")) .nil)))) .nil))) (.cons (.op .lt (.cons (.mop .get2 (.var 2) (.cons (.var 5) (.cons (.k (.int 0)) .nil))) (.cons (.op .idx (.cons (.var 4) (.cons (.op .neg (.cons (.k (.int 1)) .nil)) .nil))) .nil))) .nil))) (.seq b42_5b_3t_1 .pass) .pass)
def b42_5b_4 : S := (.set (.n 2) (.call 32 (.cons (.var 2) (.cons (.var 4) .nil))))
def b42_5 : S := (.for_ (.cons (.n 3) (.cons (.n 4) .nil)) .en (.cons (.var 0) .nil) (.seq b42_5b_1 (.seq b42_5b_2 (.seq b42_5b_3 (.seq b42_5b_4 .pass)))) [3, 4, 5])
def b42_6 : S := (.ret (.tup (.cons (.k (.str "")) (.cons (.k .non) .nil))))
def b42 : S := (.seq b42_1 (.seq b42_2 (.seq b42_3 (.seq b42_4 (.seq b42_5 (.seq b42_6 .pass))))))
def df42 : Df := ⟨1, 6, [], b42⟩
/-! l_looked -/
def b43_1 : S := (.set (.n 1) (.k (.str "")))
def b43_2 : S := (.set (.n 2) (.k .non))
def b43_3 : S := .bad
def b43_4 : S := (.ret (.tup (.cons (.var 1) (.cons (.var 2) .nil))))
def b43 : S := (.seq b43_1 (.seq b43_2 (.seq b43_3 (.seq b43_4 .pass))))
def df43 : Df := ⟨1, 3, [], b43⟩
/-! l_due -/
def b44_1b_1t_1 : S := (.ret (.tup (.cons (.k (.str "bad")) (.cons (.var 1) .nil))))
def b44_1b_1 : S := (.iff (.not_ (.call 14 (.cons (.op .idx (.cons (.var 0) (.cons (.var 1) .nil))) .nil))) (.seq b44_1b_1t_1 .pass) .pass)
def b44_1 : S := (.for_ (.n 1) .rg1 (.cons (.op .len (.cons (.var 0) .nil)) .nil) (.seq b44_1b_1 .pass) [1])
def b44_2 : S := (.ret (.call 42 (.cons (.var 0) .nil)))
def b44 : S := (.seq b44_1 (.seq b44_2 .pass))
def df44 : Df := ⟨1, 2, [], b44⟩
/-! l_crowded -/
def b45_1 : S := (.set (.n 1) (.call 5 (.cons (.var 0) (.cons (.k (.int 3)) .nil))))
def b45_2 : S := (.set (.n 2) (.op .add (.cons (.op .idx (.cons (.lst (.cons (.k (.int 8)) (.cons (.k (.int 12)) (.cons (.k (.int 6)) .nil)))) (.cons (.var 1) .nil))) (.cons (.call 5 (.cons (.var 0) (.cons (.k (.int 2)) .nil))) .nil))))
def b45_3 : S := (.set (.n 3) (.call 12 (.cons (.var 0) (.cons (.var 2) (.cons (.op .eq (.cons (.var 1) (.cons (.k (.int 1)) .nil))) .nil)))))
def b45_4 : S := (.set (.n 4) (.lst (.cons (.tup (.cons (.k (.str "own")) (.cons (.k (.str "purse")) (.cons (.op .pow (.cons (.k (.int 10)) (.cons (.k (.int 6)) .nil))) .nil)))) .nil)))
def b45_5b_1 : S := (.ex (.mut .app 4 (.cons (.op .idx (.cons (.lst (.cons (.tup (.cons (.k (.str "own")) (.cons (.var 5) (.cons (.k (.int 1)) .nil)))) (.cons (.tup (.cons (.k (.str "worth")) (.cons (.var 5) (.cons (.k (.int 0)) .nil)))) (.cons (.tup (.cons (.k (.str "in")) (.cons (.var 5) (.cons (.k (.str "purse")) (.cons (.k (.int 2)) .nil))))) .nil)))) (.cons (.var 1) .nil))) .nil)))
def b45_5 : S := (.for_ (.n 5) .pl (.cons (.slc (.var 3) (.cons (.op .int1 (.cons (.op .eq (.cons (.var 1) (.cons (.k (.int 0)) .nil))) .nil)) .nil) .nil) .nil) (.seq b45_5b_1 .pass) [5])
def b45_6 : S := (.ret (.mv 4))
def b45 : S := (.seq b45_1 (.seq b45_2 (.seq b45_3 (.seq b45_4 (.seq b45_5 (.seq b45_6 .pass))))))
def df45 : Df := ⟨1, 6, [], b45⟩
/-! l_list -/
def b46_1 : S := (.set (.n 1) (.call 5 (.cons (.var 0) (.cons (.k (.int 6)) .nil))))
def b46_2t_1 : S := (.ret (.call 45 (.cons (.var 0) .nil)))
def b46_2 : S := (.iff (.op .eq (.cons (.var 1) (.cons (.k (.int 0)) .nil))) (.seq b46_2t_1 .pass) .pass)
def b46_3 : S := (.set (.n 2) (.call 35 (.cons (.var 0) .nil)))
def b46_4t_1 : S := (.ret (.call 38 (.cons (.var 0) (.cons (.var 2) (.cons (.op .add (.cons (.k (.int 55)) (.cons (.call 5 (.cons (.var 0) (.cons (.k (.int 8)) .nil))) .nil))) .nil)))))
def b46_4 : S := (.iff (.op .eq (.cons (.var 1) (.cons (.k (.int 1)) .nil))) (.seq b46_4t_1 .pass) .pass)
def b46_5 : S := (.ret (.call 38 (.cons (.var 0) (.cons (.var 2) (.cons (.call 5 (.cons (.var 0) (.cons (.k (.int 15)) .nil))) .nil)))))
def b46 : S := (.seq b46_1 (.seq b46_2 (.seq b46_3 (.seq b46_4 (.seq b46_5 .pass)))))
def df46 : Df := ⟨1, 3, [], b46⟩
/-! law_k03 -/
def b47_1 : S := (.set (.n 1) (.call 4 (.cons (.var 0) .nil)))
def b47_2 : S := (.set (.n 2) (.call 46 (.cons (.var 1) .nil)))
def b47_3 : S := (.set (.n 3) (.op .lst1 (.cons (.var 2) .nil)))
def b47_4b_1 : S := (.set (.n 5) (.call 5 (.cons (.var 1) (.cons (.op .add (.cons (.op .len (.cons (.var 2) .nil)) (.cons (.k (.int 1)) .nil))) .nil))))
def b47_4b_2 : S := (.set (.n 6) (.op .idx (.cons (.op .add (.cons (.lst (.cons (.dic .nil) .nil)) (.cons (.call 33 (.cons (.slc (.var 2) .nil (.cons (.var 5) .nil)) .nil)) .nil))) (.cons (.op .neg (.cons (.k (.int 1)) .nil)) .nil))))
def b47_4b_3 : S := (.set (.n 7) (.ite (.op .eq (.cons (.call 5 (.cons (.var 1) (.cons (.k (.int 2)) .nil))) (.cons (.k (.int 0)) .nil))) (.call 40 (.cons (.var 1) .nil)) (.call 41 (.cons (.var 1) (.cons (.var 6) .nil)))))
def b47_4b_4 : S := (.set (.n 2) (.op .add (.cons (.op .add (.cons (.slc (.var 2) .nil (.cons (.var 5) .nil)) (.cons (.lst (.cons (.var 7) .nil)) .nil))) (.cons (.slc (.var 2) (.cons (.var 5) .nil) .nil) .nil))))
def b47_4 : S := (.for_ (.n 4) .rg1 (.cons (.call 5 (.cons (.var 1) (.cons (.k (.int 3)) .nil))) .nil) (.seq b47_4b_1 (.seq b47_4b_2 (.seq b47_4b_3 (.seq b47_4b_4 .pass)))) [4, 5, 6, 7])
def b47_5b_1 : S := (.set (.n 9) (.op .lst1 (.cons (.var 8) .nil)))
def b47_5b_2t_1 : S := (.ret (.k (.bl false)))
def b47_5b_2 : S := (.iff (.or_ (.cons (.not_ (.call 25 (.cons (.call 43 (.cons (.var 9) .nil)) (.cons (.call 44 (.cons (.var 8) .nil)) .nil)))) (.cons (.op .ne (.cons (.var 9) (.cons (.var 8) .nil))) .nil))) (.seq b47_5b_2t_1 .pass) .pass)
def b47_5 : S := (.for_ (.n 8) .pl (.cons (.tup (.cons (.var 2) (.cons (.var 3) (.cons (.var 2) .nil)))) .nil) (.seq b47_5b_1 (.seq b47_5b_2 .pass)) [8, 9])
def b47_6 : S := (.ret (.k (.bl true)))
def b47 : S := (.seq b47_1 (.seq b47_2 (.seq b47_3 (.seq b47_4 (.seq b47_5 (.seq b47_6 .pass))))))
def df47 : Df := ⟨1, 10, [], b47⟩
/-! purses -/
def b48_1 : S := (.ex (.call 24 (.cons (.var 0) .nil)))
def b48_2 : S := (.ret (.call 20 (.cons (.var 0) (.cons (.k (.str "p")) .nil))))
def b48 : S := (.seq b48_1 (.seq b48_2 .pass))
def df48 : Df := ⟨1, 1, [], b48⟩
/-! things -/
def b49_1 : S := (.ex (.call 24 (.cons (.var 0) .nil)))
def b49_2 : S := (.ret (.call 20 (.cons (.var 0) (.cons (.k (.str "t")) .nil))))
def b49 : S := (.seq b49_1 (.seq b49_2 .pass))
def df49 : Df := ⟨1, 1, [], b49⟩
/-! owners -/
def b50_1 : S := (.ex (.call 24 (.cons (.var 0) .nil)))
def b50_2 : S := (.ret (.call 20 (.cons (.var 0) (.cons (.k (.str "o")) .nil))))
def b50 : S := (.seq b50_1 (.seq b50_2 .pass))
def df50 : Df := ⟨1, 1, [], b50⟩
/-! law_k04 -/
def b51_1 : S := (.set (.n 1) (.call 4 (.cons (.var 0) .nil)))
def b51_2 : S := (.set (.cons (.n 2) (.cons (.n 3) (.cons (.n 4) (.cons (.n 5) .nil)))) (.call 35 (.cons (.var 1) .nil)))
def b51_3t_1 : S := (.set (.n 4) (.op .add (.cons (.lst (.cons (.op .idx (.cons (.var 2) (.cons (.op .neg (.cons (.k (.int 1)) .nil)) .nil))) .nil)) (.cons (.slc (.lc (.var 6) (.n 6) .pl (.cons (.var 4) .nil) (.cons (.op .ne (.cons (.var 6) (.cons (.op .idx (.cons (.var 2) (.cons (.op .neg (.cons (.k (.int 1)) .nil)) .nil))) .nil))) .nil)) .nil (.cons (.k (.int 5)) .nil)) .nil))))
def b51_3 : S := (.iff (.op .eq (.cons (.call 5 (.cons (.var 1) (.cons (.k (.int 4)) .nil))) (.cons (.k (.int 0)) .nil))) (.seq b51_3t_1 .pass) .pass)
def b51_4 : S := (.set (.n 7) (.call 5 (.cons (.var 1) (.cons (.op .idx (.cons (.lst (.cons (.k (.int 9)) (.cons (.k (.int 30)) (.cons (.k (.int 61)) .nil)))) (.cons (.call 5 (.cons (.var 1) (.cons (.k (.int 3)) .nil))) .nil))) .nil))))
def b51_5 : S := (.set (.n 8) (.call 38 (.cons (.var 1) (.cons (.tup (.cons (.var 2) (.cons (.var 3) (.cons (.var 4) (.cons (.var 5) .nil))))) (.cons (.var 7) .nil)))))
def b51_6 : S := (.set (.n 9) (.lc (.call 39 (.cons (.var 8) (.cons (.var 10) .nil))) (.n 10) .pl (.cons (.k (.str "pto")) .nil) .nil))
def b51_7 : S := (.set (.n 11) (.op .lst1 (.cons (.var 8) .nil)))
def b51_8b_1 : S := (.set (.n 13) (.lst (.cons (.call 48 (.cons (.var 11) .nil)) (.cons (.call 49 (.cons (.var 11) .nil)) (.cons (.call 50 (.cons (.var 11) .nil)) .nil)))))
def b51_8b_2t_1 : S := (.ret (.k (.bl false)))
def b51_8b_2 : S := (.iff (.or_ (.cons (.not_ (.call 6 (.cons (.var 13) (.cons (.var 9) .nil)))) (.cons (.op .ne (.cons (.var 11) (.cons (.var 8) .nil))) .nil))) (.seq b51_8b_2t_1 .pass) .pass)
def b51_8b_3b_1 : S := (.ex (.mut .app 14 (.cons (.k (.str "x")) .nil)))
def b51_8b_3 : S := (.for_ (.n 14) .pl (.cons (.var 13) .nil) (.seq b51_8b_3b_1 .pass) [])
def b51_8 : S := (.for_ (.n 12) .rg1 (.cons (.k (.int 2)) .nil) (.seq b51_8b_1 (.seq b51_8b_2 (.seq b51_8b_3 .pass))) [12, 13, 14])
def b51_9 : S := (.ret (.k (.bl true)))
def b51 : S := (.seq b51_1 (.seq b51_2 (.seq b51_3 (.seq b51_4 (.seq b51_5 (.seq b51_6 (.seq b51_7 (.seq b51_8 (.seq b51_9 .pass)))))))))
def df51 : Df := ⟨1, 15, [], b51⟩
/-! states -/
def b53_1 : S := (.set (.n 1) (.lst .nil))
def b53_2 : S := (.set (.n 2) (.dic .nil))
def b53_3b_1 : S := (.set (.n 2) (.call 23 (.cons (.var 2) (.cons (.var 3) .nil))))
def b53_3b_2 : S := (.ex (.mut .app 1 (.cons (.var 2) .nil)))
def b53_3 : S := (.for_ (.n 3) .pl (.cons (.var 0) .nil) (.seq b53_3b_1 (.seq b53_3b_2 .pass)) [3])
def b53_4 : S := (.ret (.mv 1))
def b53 : S := (.seq b53_1 (.seq b53_2 (.seq b53_3 (.seq b53_4 .pass))))
def df53 : Df := ⟨1, 4, [], b53⟩
/-! held_along -/
def b54_1 : S := (.ret (.lc (.mop .get2 (.var 2) (.cons (.var 1) (.cons (.k (.int 0)) .nil))) (.n 2) .pl (.cons (.call 53 (.cons (.var 0) .nil)) .nil) .nil))
def b54 : S := (.seq b54_1 .pass)
def df54 : Df := ⟨2, 3, [], b54⟩
/-! along -/
def b55_1 : S := (.ex (.call 24 (.cons (.var 0) .nil)))
def b55_2 : S := (.ret (.call 54 (.cons (.var 0) (.cons (.var 1) .nil))))
def b55 : S := (.seq b55_1 (.seq b55_2 .pass))
def df55 : Df := ⟨2, 2, [], b55⟩
/-! holding -/
def b56_1 : S := (.ex (.call 24 (.cons (.var 0) .nil)))
def b56_2 : S := (.ret (.op .idx (.cons (.op .add (.cons (.lst (.cons (.k (.int 0)) .nil)) (.cons (.call 54 (.cons (.var 0) (.cons (.var 1) .nil))) .nil))) (.cons (.op .neg (.cons (.k (.int 1)) .nil)) .nil))))
def b56 : S := (.seq b56_1 (.seq b56_2 .pass))
def df56 : Df := ⟨2, 2, [], b56⟩
/-! worth_of -/
def b57_1 : S := (.set (.n 2) (.k .non))
def b57_2b_1t_1 : S := (.set (.n 2) (.k .non))
def b57_2b_1 : S := (.iff (.and_ (.cons (.op .eq (.cons (.op .idx (.cons (.var 3) (.cons (.k (.int 0)) .nil))) (.cons (.k (.str "sell")) .nil))) (.cons (.op .eq (.cons (.op .idx (.cons (.var 3) (.cons (.k (.int 1)) .nil))) (.cons (.var 1) .nil))) .nil))) (.seq b57_2b_1t_1 .pass) .pass)
def b57_2b_2t_1 : S := (.set (.n 2) (.op .idx (.cons (.var 3) (.cons (.k (.int 2)) .nil))))
def b57_2b_2 : S := (.iff (.and_ (.cons (.op .eq (.cons (.op .idx (.cons (.var 3) (.cons (.k (.int 0)) .nil))) (.cons (.k (.str "worth")) .nil))) (.cons (.op .eq (.cons (.op .idx (.cons (.var 3) (.cons (.k (.int 1)) .nil))) (.cons (.var 1) .nil))) .nil))) (.seq b57_2b_2t_1 .pass) .pass)
def b57_2 : S := (.for_ (.n 3) .pl (.cons (.var 0) .nil) (.seq b57_2b_1 (.seq b57_2b_2 .pass)) [3])
def b57_3 : S := (.ret (.mv 2))
def b57 : S := (.seq b57_1 (.seq b57_2 (.seq b57_3 .pass)))
def df57 : Df := ⟨2, 4, [], b57⟩
/-! end_of -/
def b58_1 : S := (.set (.n 2) (.op .idx (.cons (.op .add (.cons (.lst (.cons (.k (.int 0)) .nil)) (.cons (.call 54 (.cons (.var 0) (.cons (.var 1) .nil))) .nil))) (.cons (.op .neg (.cons (.k (.int 1)) .nil)) .nil))))
def b58_2 : S := (.set (.n 3) (.call 57 (.cons (.var 0) (.cons (.var 1) .nil))))
def b58_3t_1 : S := (.ret (.mv 2))
def b58_3 : S := (.iff (.op .isN (.cons (.var 3) .nil)) (.seq b58_3t_1 .pass) .pass)
def b58_4 : S := (.ret (.op .mn2 (.cons (.var 2) (.cons (.var 3) .nil))))
def b58 : S := (.seq b58_1 (.seq b58_2 (.seq b58_3 (.seq b58_4 .pass))))
def df58 : Df := ⟨2, 4, [], b58⟩
/-! end_hold -/
def b59_1 : S := (.ex (.call 24 (.cons (.var 0) .nil)))
def b59_2 : S := (.ret (.call 58 (.cons (.var 0) (.cons (.var 1) .nil))))
def b59 : S := (.seq b59_1 (.seq b59_2 .pass))
def df59 : Df := ⟨2, 2, [], b59⟩
/-! ebb -/
def b60_1 : S := (.ex (.call 24 (.cons (.var 0) .nil)))
def b60_2 : S := (.ret (.op .mn1 (.cons (.slc (.call 54 (.cons (.var 0) (.cons (.var 1) .nil))) (.cons (.var 2) .nil) (.cons (.op .add (.cons (.var 3) (.cons (.k (.int 1)) .nil))) .nil)) .nil)))
def b60 : S := (.seq b60_1 (.seq b60_2 .pass))
def df60 : Df := ⟨4, 4, [], b60⟩
/-! shares_taken -/
def b66_1 : S := (.set (.n 3) (.op .mul (.cons (.lst (.cons (.k (.int 0)) .nil)) (.cons (.op .len (.cons (.var 0) .nil)) .nil))))
def b66_2 : S := (.set (.n 4) (.var 1))
def b66_3b_1 : S := (.sput 3 (.var 5) (.op .mn2 (.cons (.var 4) (.cons (.op .idx (.cons (.op .idx (.cons (.var 0) (.cons (.var 5) .nil))) (.cons (.k (.int 1)) .nil))) .nil))))
def b66_3b_2 : S := (.aug 4 .sub (.op .idx (.cons (.var 3) (.cons (.var 5) .nil))))
def b66_3 : S := (.for_ (.n 5) .pl (.cons (.var 2) .nil) (.seq b66_3b_1 (.seq b66_3b_2 .pass)) [5])
def b66_4 : S := (.ret (.mv 3))
def b66 : S := (.seq b66_1 (.seq b66_2 (.seq b66_3 (.seq b66_4 .pass))))
def df66 : Df := ⟨3, 6, [], b66⟩
/-! order_of -/
def b67_1 : S := (.set (.n 2) (.op .lrg (.cons (.op .len (.cons (.var 0) .nil)) .nil)))
def b67_2t_1 : S := (.ret (.op .srev (.cons (.var 2) .nil)))
def b67_2 : S := (.iff (.op .eq (.cons (.var 1) (.cons (.k (.str "last")) .nil))) (.seq b67_2t_1 .pass) .pass)
def b67_3t_1 : S := (.ret (.op .add (.cons (.lc (.var 3) (.n 3) .pl (.cons (.var 2) .nil) (.cons (.op .eq (.cons (.op .idx (.cons (.op .idx (.cons (.var 0) (.cons (.var 3) .nil))) (.cons (.k (.int 0)) .nil))) (.cons (.k (.str "")) .nil))) .nil)) (.cons (.lc (.var 3) (.n 3) .pl (.cons (.var 2) .nil) (.cons (.op .ne (.cons (.op .idx (.cons (.op .idx (.cons (.var 0) (.cons (.var 3) .nil))) (.cons (.k (.int 0)) .nil))) (.cons (.k (.str "")) .nil))) .nil)) .nil))))
def b67_3 : S := (.iff (.op .eq (.cons (.var 1) (.cons (.k (.str "own")) .nil))) (.seq b67_3t_1 .pass) .pass)
def b67_4 : S := (.ret (.mv 2))
def b67 : S := (.seq b67_1 (.seq b67_2 (.seq b67_3 (.seq b67_4 .pass))))
def df67 : Df := ⟨2, 4, [], b67⟩
/-! taken -/
def b68_1 : S := (.set (.n 3) (.call 66 (.cons (.var 0) (.cons (.var 1) (.cons (.call 67 (.cons (.var 0) (.cons (.var 2) .nil))) .nil)))))
def b68_2 : S := (.set (.n 4) (.lc (.tup (.cons (.var 6) (.cons (.op .sub (.cons (.var 7) (.cons (.var 5) .nil))) .nil))) (.cons (.cons (.n 6) (.cons (.n 7) .nil)) (.cons (.n 5) .nil)) .zp (.cons (.var 0) (.cons (.var 3) .nil)) .nil))
def b68_3 : S := (.set (.n 8) (.lc (.tup (.cons (.var 6) (.cons (.var 5) .nil))) (.cons (.cons (.n 6) (.cons (.n 7) .nil)) (.cons (.n 5) .nil)) .zp (.cons (.var 0) (.cons (.var 3) .nil)) .nil))
def b68_4 : S := (.ret (.tup (.cons (.call 72 (.cons (.lst .nil) (.cons (.var 4) .nil))) (.cons (.call 72 (.cons (.lst .nil) (.cons (.var 8) .nil))) .nil))))
def b68 : S := (.seq b68_1 (.seq b68_2 (.seq b68_3 (.seq b68_4 .pass))))
def df68 : Df := ⟨3, 9, [], b68⟩
/-! coming -/
def b69_1t_1 : S := (.ret (.lst (.cons (.tup (.cons (.op .idx (.cons (.var 0) (.cons (.k (.int 1)) .nil))) (.cons (.var 2) .nil))) .nil)))
def b69_1 : S := (.iff (.op .eq (.cons (.op .idx (.cons (.var 0) (.cons (.k (.int 0)) .nil))) (.cons (.k (.str "in")) .nil))) (.seq b69_1t_1 .pass) .pass)
def b69_2 : S := (.ret (.op .add (.cons (.var 1) (.cons (.lst (.cons (.tup (.cons (.k (.str "")) (.cons (.op .sub (.cons (.var 2) (.cons (.op .sum1 (.cons (.lc (.var 4) (.cons (.n 3) (.cons (.n 4) .nil)) .pl (.cons (.var 1) .nil) .nil) .nil)) .nil))) .nil))) .nil)) .nil))))
def b69 : S := (.seq b69_1 (.seq b69_2 .pass))
def df69 : Df := ⟨3, 5, [], b69⟩
/-! all_layers -/
def b70_1 : S := (.set (.n 2) (.dic .nil))
def b70_2b_1 : S := (.set (.n 4) (.lst .nil))
def b70_2b_2 : S := (.set (.n 5) (.call 18 (.cons (.var 3) .nil)))
def b70_2b_3 : S := (.set (.n 6) (.call 19 (.cons (.var 3) .nil)))
def b70_2b_4t_1 : S := (.set (.cons (.n 7) (.cons (.n 4) .nil)) (.call 68 (.cons (.op .idx (.cons (.var 2) (.cons (.var 5) .nil))) (.cons (.op .idx (.cons (.var 3) (.cons (.op .neg (.cons (.k (.int 1)) .nil)) .nil))) (.cons (.var 1) .nil)))))
def b70_2b_4t_2t_1 : S := (.set (.n 7) (.lst .nil))
def b70_2b_4t_2 : S := (.iff (.op .eq (.cons (.op .idx (.cons (.var 3) (.cons (.k (.int 0)) .nil))) (.cons (.k (.str "sell")) .nil))) (.seq b70_2b_4t_2t_1 .pass) .pass)
def b70_2b_4t_3 : S := (.dput 2 (.var 5) (.var 7))
def b70_2b_4 : S := (.iff (.op .noN (.cons (.var 5) .nil)) (.seq b70_2b_4t_1 (.seq b70_2b_4t_2 (.seq b70_2b_4t_3 .pass))) .pass)
def b70_2b_5t_1 : S := (.dput 2 (.var 6) (.call 72 (.cons (.mop .get2 (.var 2) (.cons (.var 6) (.cons (.lst .nil) .nil))) (.cons (.call 69 (.cons (.var 3) (.cons (.var 4) (.cons (.op .idx (.cons (.var 3) (.cons (.op .neg (.cons (.k (.int 1)) .nil)) .nil))) .nil)))) .nil))))
def b70_2b_5 : S := (.iff (.op .noN (.cons (.var 6) .nil)) (.seq b70_2b_5t_1 .pass) .pass)
def b70_2 : S := (.for_ (.n 3) .pl (.cons (.var 0) .nil) (.seq b70_2b_1 (.seq b70_2b_2 (.seq b70_2b_3 (.seq b70_2b_4 (.seq b70_2b_5 .pass))))) [3, 4, 5, 6, 7])
def b70_3 : S := (.ret (.mv 2))
def b70 : S := (.seq b70_1 (.seq b70_2 (.seq b70_3 .pass)))
def df70 : Df := ⟨2, 8, [], b70⟩
/-! layers -/
def b71_1 : S := (.ex (.call 24 (.cons (.var 0) .nil)))
def b71_2t_1 : S := .bad
def b71_2 : S := (.iff (.op .nin (.cons (.var 1) (.cons (.g "CUSTOMS") .nil))) (.seq b71_2t_1 .pass) .pass)
def b71_3 : S := (.ret (.mop .get2 (.call 70 (.cons (.var 0) (.cons (.var 1) .nil))) (.cons (.var 2) (.cons (.lst .nil) .nil))))
def b71 : S := (.seq b71_1 (.seq b71_2 (.seq b71_3 .pass)))
def df71 : Df := ⟨3, 3, [], b71⟩
/-! laid -/
def b72_1 : S := (.set (.n 2) (.lst .nil))
def b72_2b_1t_1 : S := (.sput 2 (.op .neg (.cons (.k (.int 1)) .nil)) (.tup (.cons (.var 3) (.cons (.op .add (.cons (.op .idx (.cons (.op .idx (.cons (.var 2) (.cons (.op .neg (.cons (.k (.int 1)) .nil)) .nil))) (.cons (.k (.int 1)) .nil))) (.cons (.var 4) .nil))) .nil))))
def b72_2b_1e_1t_1 : S := (.ex (.mut .app 2 (.cons (.tup (.cons (.var 3) (.cons (.var 4) .nil))) .nil)))
def b72_2b_1e_1 : S := (.iff (.op .gt (.cons (.var 4) (.cons (.k (.int 0)) .nil))) (.seq b72_2b_1e_1t_1 .pass) .pass)
def b72_2b_1 : S := (.iff (.and_ (.cons (.op .gt (.cons (.var 4) (.cons (.k (.int 0)) .nil))) (.cons (.op .ne (.cons (.var 2) (.cons (.lst .nil) .nil))) (.cons (.op .eq (.cons (.op .idx (.cons (.op .idx (.cons (.var 2) (.cons (.op .neg (.cons (.k (.int 1)) .nil)) .nil))) (.cons (.k (.int 0)) .nil))) (.cons (.var 3) .nil))) .nil)))) (.seq b72_2b_1t_1 .pass) (.seq b72_2b_1e_1 .pass))
def b72_2 : S := (.for_ (.cons (.n 3) (.cons (.n 4) .nil)) .pl (.cons (.op .add (.cons (.var 0) (.cons (.var 1) .nil))) .nil) (.seq b72_2b_1 .pass) [3, 4])
def b72_3 : S := (.ret (.mv 2))
def b72 : S := (.seq b72_1 (.seq b72_2 (.seq b72_3 .pass)))
def df72 : Df := ⟨2, 5, [], b72⟩
/-! lying -/
def b73_1 : S := (.ret (.op .sum1 (.cons (.lc (.var 5) (.cons (.n 4) (.cons (.n 5) .nil)) .pl (.cons (.call 71 (.cons (.var 0) (.cons (.var 1) (.cons (.var 3) .nil)))) .nil) (.cons (.op .eq (.cons (.var 4) (.cons (.var 2) .nil))) .nil)) .nil)))
def b73 : S := (.seq b73_1 .pass)
def df73 : Df := ⟨4, 6, [], b73⟩
/-! common -/
def b80_1b_1 : S := (.par 0 1 (.var 1) (.op .mod (.cons (.var 0) (.cons (.var 1) .nil))))
def b80_1 : S := (.whl (.op .ne (.cons (.var 1) (.cons (.k (.int 0)) .nil))) (.seq b80_1b_1 .pass) [])
def b80_2 : S := (.ret (.var 0))
def b80 : S := (.seq b80_1 (.seq b80_2 .pass))
def df80 : Df := ⟨2, 2, [0, 1], b80⟩
/-! lowest -/
def b81_1 : S := (.set (.n 2) (.call 80 (.cons (.fv 1) (.cons (.fv 0) .nil))))
def b81_2 : S := (.ret (.tup (.cons (.op .fdv (.cons (.var 0) (.cons (.var 2) .nil))) (.cons (.op .fdv (.cons (.var 1) (.cons (.var 2) .nil))) .nil))))
def b81 : S := (.seq b81_1 (.seq b81_2 .pass))
def df81 : Df := ⟨2, 3, [], b81⟩
/-! law_k06 -/
def b92_1 : S := (.set (.n 1) (.call 4 (.cons (.var 0) .nil)))
def b92_2 : S := (.set (.n 2) (.call 35 (.cons (.var 1) .nil)))
def b92_3t_1 : S := (.set (.n 2) (.tup (.cons (.op .idx (.cons (.var 2) (.cons (.k (.int 0)) .nil))) (.cons (.op .idx (.cons (.var 2) (.cons (.k (.int 1)) .nil))) (.cons (.slc (.op .idx (.cons (.var 2) (.cons (.k (.int 0)) .nil))) .nil (.cons (.k (.int 6)) .nil)) (.cons (.op .idx (.cons (.var 2) (.cons (.k (.int 3)) .nil))) .nil))))))
def b92_3 : S := (.iff (.op .eq (.cons (.call 5 (.cons (.var 1) (.cons (.k (.int 3)) .nil))) (.cons (.k (.int 0)) .nil))) (.seq b92_3t_1 .pass) .pass)
def b92_4 : S := (.set (.n 3) (.call 38 (.cons (.var 1) (.cons (.var 2) (.cons (.call 5 (.cons (.var 1) (.cons (.op .idx (.cons (.lst (.cons (.k (.int 12)) (.cons (.k (.int 61)) .nil))) (.cons (.call 5 (.cons (.var 1) (.cons (.k (.int 2)) .nil))) .nil))) .nil))) .nil)))))
def b92_5 : S := (.set (.n 4) (.call 33 (.cons (.var 3) .nil)))
def b92_6 : S := (.set (.n 5) (.op .lst1 (.cons (.var 3) .nil)))
def b92_7b_1 : S := (.set (.n 7) (.lc (.mop .get2 (.var 9) (.cons (.var 6) (.cons (.k (.int 0)) .nil))) (.n 9) .pl (.cons (.var 4) .nil) .nil))
def b92_7b_2 : S := (.set (.n 8) (.call 55 (.cons (.var 5) (.cons (.var 6) .nil))))
def b92_7b_3t_1 : S := (.ret (.k (.bl false)))
def b92_7b_3 : S := (.iff (.or_ (.cons (.not_ (.call 2006 (.cons (.var 8) (.cons (.var 7) .nil)))) (.cons (.op .lt (.cons (.op .mn1 (.cons (.op .add (.cons (.lst (.cons (.k (.int 0)) .nil)) (.cons (.var 7) .nil))) .nil)) (.cons (.k (.int 0)) .nil))) .nil))) (.seq b92_7b_3t_1 .pass) .pass)
def b92_7b_4 : S := (.ex (.mut .app 8 (.cons (.k (.int 7)) .nil)))
def b92_7b_5t_1 : S := (.ret (.k (.bl false)))
def b92_7b_5 : S := (.iff (.or_ (.cons (.not_ (.call 2006 (.cons (.call 55 (.cons (.var 5) (.cons (.var 6) .nil))) (.cons (.var 7) .nil)))) (.cons (.not_ (.call 2006 (.cons (.call 56 (.cons (.var 5) (.cons (.var 6) .nil))) (.cons (.op .idx (.cons (.op .add (.cons (.lst (.cons (.k (.int 0)) .nil)) (.cons (.var 7) .nil))) (.cons (.op .neg (.cons (.k (.int 1)) .nil)) .nil))) .nil)))) .nil))) (.seq b92_7b_5t_1 .pass) .pass)
def b92_7 : S := (.for_ (.n 6) .pl (.cons (.op .add (.cons (.op .add (.cons (.op .idx (.cons (.var 2) (.cons (.k (.int 0)) .nil))) (.cons (.op .idx (.cons (.var 2) (.cons (.k (.int 1)) .nil))) .nil))) (.cons (.lst (.cons (.k (.str "nobodys")) (.cons (.k (.str "NOTHING")) .nil))) .nil))) .nil) (.seq b92_7b_1 (.seq b92_7b_2 (.seq b92_7b_3 (.seq b92_7b_4 (.seq b92_7b_5 .pass))))) [6, 7, 8])
def b92_8 : S := (.ret (.op .eq (.cons (.var 5) (.cons (.var 3) .nil))))
def b92 : S := (.seq b92_1 (.seq b92_2 (.seq b92_3 (.seq b92_4 (.seq b92_5 (.seq b92_6 (.seq b92_7 (.seq b92_8 .pass))))))))
def df92 : Df := ⟨1, 10, [], b92⟩
/-! l_last -/
def b93_1 : S := (.ret (.op .idx (.cons (.op .add (.cons (.lst (.cons (.dic .nil) .nil)) (.cons (.call 33 (.cons (.var 0) .nil)) .nil))) (.cons (.op .neg (.cons (.k (.int 1)) .nil)) .nil))))
def b93 : S := (.seq b93_1 .pass)
def df93 : Df := ⟨1, 1, [], b93⟩
/-! l_end -/
def b94_1 : S := (.set (.n 2) (.k (.int 0)))
def b94_2b_1 : S := (.set (.n 2) (.mop .get2 (.var 3) (.cons (.var 1) (.cons (.k (.int 0)) .nil))))
def b94_2 : S := (.for_ (.n 3) .pl (.cons (.call 33 (.cons (.var 0) .nil)) .nil) (.seq b94_2b_1 .pass) [3])
def b94_3 : S := (.set (.n 4) (.lc (.var 5) (.n 5) .rg1 (.cons (.op .len (.cons (.var 0) .nil)) .nil) (.cons (.and_ (.cons (.op .inn (.cons (.op .idx (.cons (.op .idx (.cons (.var 0) (.cons (.var 5) .nil))) (.cons (.k (.int 0)) .nil))) (.cons (.tup (.cons (.k (.str "sell")) (.cons (.k (.str "worth")) .nil))) .nil))) (.cons (.op .eq (.cons (.op .idx (.cons (.op .idx (.cons (.var 0) (.cons (.var 5) .nil))) (.cons (.k (.int 1)) .nil))) (.cons (.var 1) .nil))) .nil))) .nil)))
def b94_4t_1 : S := (.ret (.op .mn2 (.cons (.var 2) (.cons (.op .idx (.cons (.op .idx (.cons (.var 0) (.cons (.op .idx (.cons (.var 4) (.cons (.op .neg (.cons (.k (.int 1)) .nil)) .nil))) .nil))) (.cons (.k (.int 2)) .nil))) .nil))))
def b94_4 : S := (.iff (.and_ (.cons (.op .ne (.cons (.var 4) (.cons (.lst .nil) .nil))) (.cons (.op .eq (.cons (.op .idx (.cons (.op .idx (.cons (.var 0) (.cons (.op .idx (.cons (.var 4) (.cons (.op .neg (.cons (.k (.int 1)) .nil)) .nil))) .nil))) (.cons (.k (.int 0)) .nil))) (.cons (.k (.str "worth")) .nil))) .nil))) (.seq b94_4t_1 .pass) .pass)
def b94_5 : S := (.ret (.mv 2))
def b94 : S := (.seq b94_1 (.seq b94_2 (.seq b94_3 (.seq b94_4 (.seq b94_5 .pass)))))
def df94 : Df := ⟨2, 6, [], b94⟩
/-! l_priced_2 -/
def b95_1 : S := (.set (.n 2) (.call 5 (.cons (.var 0) (.cons (.k (.int 5)) .nil))))
def b95_2 : S := (.set (.n 3) (.op .add (.cons (.k (.int 1)) (.cons (.call 5 (.cons (.var 0) (.cons (.k (.int 9)) .nil))) .nil))))
def b95_3 : S := (.ret (.op .mx2 (.cons (.k (.int 1)) (.cons (.op .mn2 (.cons (.op .pow (.cons (.k (.int 10)) (.cons (.k (.int 12)) .nil))) (.cons (.op .idx (.cons (.lst (.cons (.var 1) (.cons (.op .sub (.cons (.var 1) (.cons (.var 3) .nil))) (.cons (.op .add (.cons (.var 1) (.cons (.var 3) .nil))) (.cons (.op .fdv (.cons (.var 1) (.cons (.k (.int 2)) .nil))) (.cons (.k (.int 1)) .nil)))))) (.cons (.var 2) .nil))) .nil))) .nil))))
def b95 : S := (.seq b95_1 (.seq b95_2 (.seq b95_3 .pass)))
def df95 : Df := ⟨2, 4, [], b95⟩
/-! l_good_2 -/
def b96_1 : S := (.set (.cons (.n 3) (.cons (.n 4) (.cons (.n 5) (.cons (.n 6) .nil)))) (.var 1))
def b96_2 : S := (.set (.n 7) (.lc (.var 8) (.n 8) .pl (.cons (.var 4) .nil) (.cons (.op .gt (.cons (.mop .get2 (.var 2) (.cons (.var 8) (.cons (.k (.int 0)) .nil))) (.cons (.k (.int 0)) .nil))) .nil)))
def b96_3 : S := (.set (.n 9) (.call 5 (.cons (.var 0) (.cons (.k (.int 7)) .nil))))
def b96_4t_1 : S := (.set (.n 10) (.call 26 (.cons (.var 0) (.cons (.var 4) .nil))))
def b96_4t_2 : S := (.ret (.tup (.cons (.k (.str "worth")) (.cons (.var 10) (.cons (.op .mod (.cons (.op .idx (.cons (.lst (.cons (.k (.int 0)) (.cons (.mop .get2 (.var 2) (.cons (.var 10) (.cons (.k (.int 0)) .nil))) (.cons (.call 5 (.cons (.var 0) (.cons (.k (.int 90)) .nil))) .nil)))) (.cons (.call 5 (.cons (.var 0) (.cons (.k (.int 3)) .nil))) .nil))) (.cons (.op .add (.cons (.op .pow (.cons (.k (.int 10)) (.cons (.k (.int 12)) .nil))) (.cons (.k (.int 1)) .nil))) .nil))) .nil)))))
def b96_4 : S := (.iff (.and_ (.cons (.op .ne (.cons (.var 4) (.cons (.lst .nil) .nil))) (.cons (.op .eq (.cons (.var 9) (.cons (.k (.int 0)) .nil))) .nil))) (.seq b96_4t_1 (.seq b96_4t_2 .pass)) .pass)
def b96_5t_1 : S := (.set (.n 10) (.call 26 (.cons (.var 0) (.cons (.var 7) .nil))))
def b96_5t_2 : S := (.ret (.tup (.cons (.k (.str "sell")) (.cons (.var 10) (.cons (.call 26 (.cons (.var 0) (.cons (.var 3) .nil))) (.cons (.call 95 (.cons (.var 0) (.cons (.op .idx (.cons (.var 2) (.cons (.var 10) .nil))) .nil))) .nil))))))
def b96_5 : S := (.iff (.and_ (.cons (.op .ne (.cons (.var 7) (.cons (.lst .nil) .nil))) (.cons (.op .lt (.cons (.var 9) (.cons (.k (.int 3)) .nil))) .nil))) (.seq b96_5t_1 (.seq b96_5t_2 .pass)) .pass)
def b96_6 : S := (.ret (.call 36 (.cons (.var 0) (.cons (.var 1) (.cons (.var 2) .nil)))))
def b96 : S := (.seq b96_1 (.seq b96_2 (.seq b96_3 (.seq b96_4 (.seq b96_5 (.seq b96_6 .pass))))))
def df96 : Df := ⟨3, 11, [], b96⟩
/-! l_acts_2 -/
def b97_1 : S := (.set (.n 3) (.lst .nil))
def b97_2 : S := (.set (.n 4) (.dic .nil))
def b97_3b_1 : S := (.ex (.mut .app 3 (.cons (.call 96 (.cons (.var 0) (.cons (.var 1) (.cons (.var 4) .nil)))) .nil)))
def b97_3b_2 : S := (.set (.n 4) (.call 32 (.cons (.var 4) (.cons (.op .idx (.cons (.var 3) (.cons (.op .neg (.cons (.k (.int 1)) .nil)) .nil))) .nil))))
def b97_3 : S := (.for_ (.n 5) .rg1 (.cons (.var 2) .nil) (.seq b97_3b_1 (.seq b97_3b_2 .pass)) [5])
def b97_4 : S := (.ret (.mv 3))
def b97 : S := (.seq b97_1 (.seq b97_2 (.seq b97_3 (.seq b97_4 .pass))))
def df97 : Df := ⟨3, 6, [], b97⟩
/-! l_more -/
def b98_1 : S := (.set (.n 3) (.call 93 (.cons (.var 2) .nil)))
def b98_2 : S := (.set (.n 4) (.lc (.var 5) (.n 5) .pl (.cons (.op .idx (.cons (.var 1) (.cons (.k (.int 1)) .nil))) .nil) (.cons (.op .gt (.cons (.mop .get2 (.var 3) (.cons (.var 5) (.cons (.k (.int 0)) .nil))) (.cons (.k (.int 0)) .nil))) .nil)))
def b98_3t_1 : S := (.ret (.var 2))
def b98_3 : S := (.iff (.op .eq (.cons (.var 4) (.cons (.lst .nil) .nil))) (.seq b98_3t_1 .pass) .pass)
def b98_4 : S := (.set (.n 5) (.call 26 (.cons (.var 0) (.cons (.var 4) .nil))))
def b98_5 : S := (.set (.n 6) (.op .mn2 (.cons (.op .pow (.cons (.k (.int 10)) (.cons (.k (.int 12)) .nil))) (.cons (.op .idx (.cons (.var 3) (.cons (.var 5) .nil))) .nil))))
def b98_6t_1 : S := (.ret (.op .add (.cons (.var 2) (.cons (.lst (.cons (.tup (.cons (.k (.str "sell")) (.cons (.var 5) (.cons (.op .idx (.cons (.op .idx (.cons (.var 1) (.cons (.k (.int 0)) .nil))) (.cons (.k (.int 0)) .nil))) (.cons (.var 6) .nil))))) .nil)) .nil))))
def b98_6 : S := (.iff (.op .eq (.cons (.call 5 (.cons (.var 0) (.cons (.k (.int 4)) .nil))) (.cons (.k (.int 0)) .nil))) (.seq b98_6t_1 .pass) .pass)
def b98_7 : S := (.ret (.op .add (.cons (.var 2) (.cons (.lst (.cons (.tup (.cons (.k (.str "worth")) (.cons (.var 5) (.cons (.op .idx (.cons (.lst (.cons (.k (.int 0)) (.cons (.var 6) (.cons (.op .sub (.cons (.var 6) (.cons (.k (.int 1)) .nil))) (.cons (.op .mn2 (.cons (.op .pow (.cons (.k (.int 10)) (.cons (.k (.int 12)) .nil))) (.cons (.op .add (.cons (.var 6) (.cons (.k (.int 1)) .nil))) .nil))) (.cons (.op .fdv (.cons (.var 6) (.cons (.k (.int 2)) .nil))) .nil)))))) (.cons (.call 5 (.cons (.var 0) (.cons (.k (.int 5)) .nil))) .nil))) .nil)))) .nil)) .nil))))
def b98 : S := (.seq b98_1 (.seq b98_2 (.seq b98_3 (.seq b98_4 (.seq b98_5 (.seq b98_6 (.seq b98_7 .pass)))))))
def df98 : Df := ⟨3, 7, [], b98⟩
/-! law_k07 -/
def b99_1 : S := (.set (.n 1) (.call 4 (.cons (.var 0) .nil)))
def b99_2 : S := (.set (.n 2) (.call 35 (.cons (.var 1) .nil)))
def b99_3 : S := (.set (.n 3) (.call 97 (.cons (.var 1) (.cons (.var 2) (.cons (.call 5 (.cons (.var 1) (.cons (.op .idx (.cons (.lst (.cons (.k (.int 9)) (.cons (.k (.int 41)) (.cons (.k (.int 55)) .nil)))) (.cons (.call 5 (.cons (.var 1) (.cons (.k (.int 3)) .nil))) .nil))) .nil))) .nil)))))
def b99_4b_1 : S := (.set (.n 3) (.call 98 (.cons (.var 1) (.cons (.var 2) (.cons (.var 3) .nil)))))
def b99_4 : S := (.for_ (.n 4) .rg1 (.cons (.call 5 (.cons (.var 1) (.cons (.k (.int 7)) .nil))) .nil) (.seq b99_4b_1 .pass) [4])
def b99_5 : S := (.set (.n 5) (.op .lst1 (.cons (.var 3) .nil)))
def b99_6 : S := (.set (.n 6) (.slc (.var 3) .nil (.cons (.call 5 (.cons (.var 1) (.cons (.op .add (.cons (.op .len (.cons (.var 3) .nil)) (.cons (.k (.int 1)) .nil))) .nil))) .nil)))
def b99_7b_1b_1t_1 : S := (.ret (.k (.bl false)))
def b99_7b_1b_1 : S := (.iff (.not_ (.call 6 (.cons (.call 59 (.cons (.var 7) (.cons (.var 8) .nil))) (.cons (.call 94 (.cons (.var 7) (.cons (.var 8) .nil))) .nil)))) (.seq b99_7b_1b_1t_1 .pass) .pass)
def b99_7b_1 : S := (.for_ (.n 8) .pl (.cons (.op .add (.cons (.op .add (.cons (.op .idx (.cons (.var 2) (.cons (.k (.int 0)) .nil))) (.cons (.op .idx (.cons (.var 2) (.cons (.k (.int 1)) .nil))) .nil))) (.cons (.lst (.cons (.k (.str "nobodys")) (.cons (.k (.str "NOTHING")) .nil))) .nil))) .nil) (.seq b99_7b_1b_1 .pass) [])
def b99_7 : S := (.for_ (.n 7) .pl (.cons (.tup (.cons (.var 5) (.cons (.var 6) (.cons (.var 5) .nil)))) .nil) (.seq b99_7b_1 .pass) [7, 8])
def b99_8 : S := (.ret (.op .eq (.cons (.var 5) (.cons (.var 3) .nil))))
def b99 : S := (.seq b99_1 (.seq b99_2 (.seq b99_3 (.seq b99_4 (.seq b99_5 (.seq b99_6 (.seq b99_7 (.seq b99_8 .pass))))))))
def df99 : Df := ⟨1, 9, [], b99⟩
/-! law_k08 -/
def b100_1 : S := (.set (.n 1) (.call 4 (.cons (.var 0) .nil)))
def b100_2 : S := (.set (.n 2) (.call 35 (.cons (.var 1) .nil)))
def b100_3t_1 : S := (.set (.n 2) (.tup (.cons (.op .idx (.cons (.var 2) (.cons (.k (.int 0)) .nil))) (.cons (.op .idx (.cons (.var 2) (.cons (.k (.int 1)) .nil))) (.cons (.slc (.op .idx (.cons (.var 2) (.cons (.k (.int 0)) .nil))) .nil (.cons (.k (.int 6)) .nil)) (.cons (.op .idx (.cons (.var 2) (.cons (.k (.int 3)) .nil))) .nil))))))
def b100_3 : S := (.iff (.op .eq (.cons (.call 5 (.cons (.var 1) (.cons (.k (.int 3)) .nil))) (.cons (.k (.int 0)) .nil))) (.seq b100_3t_1 .pass) .pass)
def b100_4 : S := (.set (.n 3) (.call 38 (.cons (.var 1) (.cons (.var 2) (.cons (.op .add (.cons (.k (.int 1)) (.cons (.call 5 (.cons (.var 1) (.cons (.op .idx (.cons (.lst (.cons (.k (.int 9)) (.cons (.k (.int 40)) .nil))) (.cons (.call 5 (.cons (.var 1) (.cons (.k (.int 2)) .nil))) .nil))) .nil))) .nil))) .nil)))))
def b100_5 : S := (.set (.n 4) (.call 33 (.cons (.var 3) .nil)))
def b100_6 : S := (.set (.n 5) (.op .lst1 (.cons (.var 3) .nil)))
def b100_7b_1b_1 : S := (.set (.n 8) (.call 5 (.cons (.var 1) (.cons (.op .len (.cons (.var 3) .nil)) .nil))))
def b100_7b_1b_2 : S := (.set (.n 9) (.op .add (.cons (.var 8) (.cons (.call 5 (.cons (.var 1) (.cons (.op .sub (.cons (.op .len (.cons (.var 3) .nil)) (.cons (.var 8) .nil))) .nil))) .nil))))
def b100_7b_1b_3 : S := (.set (.n 10) (.op .mn1 (.cons (.lc (.mop .get2 (.op .idx (.cons (.var 4) (.cons (.var 11) .nil))) (.cons (.var 6) (.cons (.k (.int 0)) .nil))) (.n 11) .rg2 (.cons (.var 8) (.cons (.op .add (.cons (.var 9) (.cons (.k (.int 1)) .nil))) .nil)) .nil) .nil)))
def b100_7b_1b_4t_1 : S := (.ret (.k (.bl false)))
def b100_7b_1b_4 : S := (.iff (.not_ (.call 6 (.cons (.call 60 (.cons (.var 5) (.cons (.var 6) (.cons (.var 8) (.cons (.var 9) .nil))))) (.cons (.var 10) .nil)))) (.seq b100_7b_1b_4t_1 .pass) .pass)
def b100_7b_1 : S := (.for_ (.n 7) .rg1 (.cons (.k (.int 2)) .nil) (.seq b100_7b_1b_1 (.seq b100_7b_1b_2 (.seq b100_7b_1b_3 (.seq b100_7b_1b_4 .pass)))) [])
def b100_7 : S := (.for_ (.n 6) .pl (.cons (.op .add (.cons (.op .add (.cons (.op .idx (.cons (.var 2) (.cons (.k (.int 0)) .nil))) (.cons (.op .idx (.cons (.var 2) (.cons (.k (.int 1)) .nil))) .nil))) (.cons (.lst (.cons (.k (.str "nobodys")) .nil)) .nil))) .nil) (.seq b100_7b_1 .pass) [6, 7, 8, 9, 10])
def b100_8 : S := (.ret (.op .eq (.cons (.var 5) (.cons (.var 3) .nil))))
def b100 : S := (.seq b100_1 (.seq b100_2 (.seq b100_3 (.seq b100_4 (.seq b100_5 (.seq b100_6 (.seq b100_7 (.seq b100_8 .pass))))))))
def df100 : Df := ⟨1, 12, [], b100⟩
/-! l_whole -/
def b131_1 : S := (.ret (.and_ (.cons (.op (.isi 1) (.cons (.var 0) .nil)) (.cons (.not_ (.op (.isi 0) (.cons (.var 0) .nil))) .nil))))
def b131 : S := (.seq b131_1 .pass)
def df131 : Df := ⟨1, 1, [], b131⟩
/-! together -/
def b199_1 : S := (.set (.cons (.n 1) (.cons (.n 2) .nil)) (.g "NOUGHT"))
def b199_2b_1 : S := (.set (.cons (.n 1) (.cons (.n 2) .nil)) (.call 81 (.cons (.op .add (.cons (.op .mul (.cons (.var 1) (.cons (.op .idx (.cons (.var 3) (.cons (.k (.int 1)) .nil))) .nil))) (.cons (.op .mul (.cons (.op .idx (.cons (.var 3) (.cons (.k (.int 0)) .nil))) (.cons (.var 2) .nil))) .nil))) (.cons (.op .mul (.cons (.var 2) (.cons (.op .idx (.cons (.var 3) (.cons (.k (.int 1)) .nil))) .nil))) .nil))))
def b199_2 : S := (.for_ (.n 3) .pl (.cons (.var 0) .nil) (.seq b199_2b_1 .pass) [3])
def b199_3 : S := (.ret (.tup (.cons (.var 1) (.cons (.var 2) .nil))))
def b199 : S := (.seq b199_1 (.seq b199_2 (.seq b199_3 .pass)))
def df199 : Df := ⟨1, 4, [], b199⟩
/-! l_common -/
def b200_1b_1t_1 : S := (.par 0 1 (.var 1) (.op .mod (.cons (.var 0) (.cons (.var 1) .nil))))
def b200_1b_1 : S := (.iff (.op .gt (.cons (.var 1) (.cons (.k (.int 0)) .nil))) (.seq b200_1b_1t_1 .pass) .pass)
def b200_1 : S := (.for_ (.n 2) .rg1 (.cons (.k (.int 400)) .nil) (.seq b200_1b_1 .pass) [2])
def b200_2 : S := (.ret (.var 0))
def b200 : S := (.seq b200_1 (.seq b200_2 .pass))
def df200 : Df := ⟨2, 3, [0, 1], b200⟩
/-! l_part -/
def b201_1 : S := (.set (.n 2) (.call 200 (.cons (.fv 1) (.cons (.fv 0) .nil))))
def b201_2 : S := (.ret (.tup (.cons (.op .fdv (.cons (.var 0) (.cons (.var 2) .nil))) (.cons (.op .fdv (.cons (.var 1) (.cons (.var 2) .nil))) .nil))))
def b201 : S := (.seq b201_1 (.seq b201_2 .pass))
def df201 : Df := ⟨2, 3, [], b201⟩
/-! l_added -/
def b202_1 : S := (.set (.cons (.n 1) (.cons (.n 2) .nil)) (.tup (.cons (.k (.int 0)) (.cons (.k (.int 1)) .nil))))
def b202_2b_1 : S := (.set (.cons (.n 1) (.cons (.n 2) .nil)) (.call 201 (.cons (.op .add (.cons (.op .mul (.cons (.var 1) (.cons (.op .idx (.cons (.var 3) (.cons (.k (.int 1)) .nil))) .nil))) (.cons (.op .mul (.cons (.op .idx (.cons (.var 3) (.cons (.k (.int 0)) .nil))) (.cons (.var 2) .nil))) .nil))) (.cons (.op .mul (.cons (.var 2) (.cons (.op .idx (.cons (.var 3) (.cons (.k (.int 1)) .nil))) .nil))) .nil))))
def b202_2 : S := (.for_ (.n 3) .pl (.cons (.var 0) .nil) (.seq b202_2b_1 .pass) [3])
def b202_3 : S := (.ret (.tup (.cons (.var 1) (.cons (.var 2) .nil))))
def b202 : S := (.seq b202_1 (.seq b202_2 (.seq b202_3 .pass)))
def df202 : Df := ⟨1, 4, [], b202⟩
/-! l_is_part -/
def b203_1t_1 : S := (.ret (.k (.bl false)))
def b203_1 : S := (.iff (.or_ (.cons (.not_ (.op (.isi 4) (.cons (.var 0) .nil))) (.cons (.op .ne (.cons (.op .len (.cons (.var 0) .nil)) (.cons (.k (.int 2)) .nil))) (.cons (.not_ (.call 131 (.cons (.op .idx (.cons (.var 0) (.cons (.k (.int 0)) .nil))) .nil))) (.cons (.not_ (.call 131 (.cons (.op .idx (.cons (.var 0) (.cons (.k (.int 1)) .nil))) .nil))) .nil))))) (.seq b203_1t_1 .pass) .pass)
def b203_2 : S := (.ret (.and_ (.cons (.op .ge (.cons (.op .idx (.cons (.var 0) (.cons (.k (.int 0)) .nil))) (.cons (.k (.int 0)) .nil))) (.cons (.op .gt (.cons (.op .idx (.cons (.var 0) (.cons (.k (.int 1)) .nil))) (.cons (.k (.int 0)) .nil))) (.cons (.op .eq (.cons (.call 200 (.cons (.op .idx (.cons (.var 0) (.cons (.k (.int 1)) .nil))) (.cons (.op .idx (.cons (.var 0) (.cons (.k (.int 0)) .nil))) .nil))) (.cons (.k (.int 1)) .nil))) .nil)))))
def b203 : S := (.seq b203_1 (.seq b203_2 .pass))
def df203 : Df := ⟨1, 1, [], b203⟩
/-! law_k30 -/
def b204_1 : S := (.set (.n 1) (.call 4 (.cons (.var 0) .nil)))
def b204_2 : S := (.set (.n 2) (.lst .nil))
def b204_3b_1 : S := (.set (.n 4) (.call 5 (.cons (.var 1) (.cons (.op .idx (.cons (.lst (.cons (.k (.int 9)) (.cons (.k (.int 1000)) (.cons (.op .pow (.cons (.k (.int 10)) (.cons (.k (.int 29)) .nil))) .nil)))) (.cons (.call 5 (.cons (.var 1) (.cons (.k (.int 3)) .nil))) .nil))) .nil))))
def b204_3b_2 : S := (.ex (.mut .app 2 (.cons (.call 201 (.cons (.var 4) (.cons (.op .add (.cons (.k (.int 1)) (.cons (.call 5 (.cons (.var 1) (.cons (.op .idx (.cons (.lst (.cons (.k (.int 6)) (.cons (.k (.int 60)) (.cons (.k (.int 1000)) .nil)))) (.cons (.call 5 (.cons (.var 1) (.cons (.k (.int 3)) .nil))) .nil))) .nil))) .nil))) .nil))) .nil)))
def b204_3 : S := (.for_ (.n 3) .rg1 (.cons (.call 5 (.cons (.var 1) (.cons (.k (.int 13)) .nil))) .nil) (.seq b204_3b_1 (.seq b204_3b_2 .pass)) [3, 4])
def b204_4 : S := (.set (.n 5) (.op .lst1 (.cons (.var 2) .nil)))
def b204_5 : S := (.set (.n 6) (.call 199 (.cons (.var 5) .nil)))
def b204_6t_1 : S := (.ret (.k (.bl false)))
def b204_6 : S := (.iff (.or_ (.cons (.not_ (.call 203 (.cons (.var 6) .nil))) (.cons (.op .ne (.cons (.var 6) (.cons (.call 202 (.cons (.var 2) .nil)) .nil))) (.cons (.op .ne (.cons (.var 5) (.cons (.var 2) .nil))) .nil)))) (.seq b204_6t_1 .pass) .pass)
def b204_7 : S := (.ret (.and_ (.cons (.call 6 (.cons (.call 199 (.cons (.op .srev (.cons (.var 2) .nil)) .nil)) (.cons (.var 6) .nil))) (.cons (.call 6 (.cons (.call 199 (.cons (.lst .nil) .nil)) (.cons (.tup (.cons (.k (.int 0)) (.cons (.k (.int 1)) .nil))) .nil))) .nil))))
def b204 : S := (.seq b204_1 (.seq b204_2 (.seq b204_3 (.seq b204_4 (.seq b204_5 (.seq b204_6 (.seq b204_7 .pass)))))))
def df204 : Df := ⟨1, 7, [], b204⟩
/-! l_piled -/
def b219_1 : S := (.set (.n 2) (.lst .nil))
def b219_2b_1t_1 : S := (.sput 2 (.op .neg (.cons (.k (.int 1)) .nil)) (.tup (.cons (.var 3) (.cons (.op .add (.cons (.op .idx (.cons (.op .idx (.cons (.var 2) (.cons (.op .neg (.cons (.k (.int 1)) .nil)) .nil))) (.cons (.k (.int 1)) .nil))) (.cons (.var 4) .nil))) .nil))))
def b219_2b_1e_1t_1 : S := (.ex (.mut .app 2 (.cons (.tup (.cons (.var 3) (.cons (.var 4) .nil))) .nil)))
def b219_2b_1e_1 : S := (.iff (.op .gt (.cons (.var 4) (.cons (.k (.int 0)) .nil))) (.seq b219_2b_1e_1t_1 .pass) .pass)
def b219_2b_1 : S := (.iff (.and_ (.cons (.op .gt (.cons (.var 4) (.cons (.k (.int 0)) .nil))) (.cons (.op .ne (.cons (.var 2) (.cons (.lst .nil) .nil))) (.cons (.op .eq (.cons (.op .idx (.cons (.op .idx (.cons (.var 2) (.cons (.op .neg (.cons (.k (.int 1)) .nil)) .nil))) (.cons (.k (.int 0)) .nil))) (.cons (.var 3) .nil))) .nil)))) (.seq b219_2b_1t_1 .pass) (.seq b219_2b_1e_1 .pass))
def b219_2 : S := (.for_ (.cons (.n 3) (.cons (.n 4) .nil)) .pl (.cons (.op .add (.cons (.var 0) (.cons (.var 1) .nil))) .nil) (.seq b219_2b_1 .pass) [3, 4])
def b219_3 : S := (.ret (.mv 2))
def b219 : S := (.seq b219_1 (.seq b219_2 (.seq b219_3 .pass)))
def df219 : Df := ⟨2, 5, [], b219⟩
/-! l_cut -/
def b220_1 : S := (.set (.n 3) (.op .lrg (.cons (.op .len (.cons (.var 0) .nil)) .nil)))
def b220_2t_1 : S := (.set (.n 3) (.op .srev (.cons (.var 3) .nil)))
def b220_2 : S := (.iff (.op .eq (.cons (.var 2) (.cons (.k (.str "last")) .nil))) (.seq b220_2t_1 .pass) .pass)
def b220_3t_1 : S := (.set (.n 3) (.op .add (.cons (.lc (.var 4) (.n 4) .pl (.cons (.var 3) .nil) (.cons (.op .eq (.cons (.op .idx (.cons (.op .idx (.cons (.var 0) (.cons (.var 4) .nil))) (.cons (.k (.int 0)) .nil))) (.cons (.k (.str "")) .nil))) .nil)) (.cons (.lc (.var 4) (.n 4) .pl (.cons (.var 3) .nil) (.cons (.op .ne (.cons (.op .idx (.cons (.op .idx (.cons (.var 0) (.cons (.var 4) .nil))) (.cons (.k (.int 0)) .nil))) (.cons (.k (.str "")) .nil))) .nil)) .nil))))
def b220_3 : S := (.iff (.op .eq (.cons (.var 2) (.cons (.k (.str "own")) .nil))) (.seq b220_3t_1 .pass) .pass)
def b220_4 : S := (.set (.n 5) (.lc (.k (.int 0)) (.n 4) .pl (.cons (.var 3) .nil) .nil))
def b220_5b_1 : S := (.sput 5 (.var 4) (.op .mn2 (.cons (.var 1) (.cons (.op .idx (.cons (.op .idx (.cons (.var 0) (.cons (.var 4) .nil))) (.cons (.k (.int 1)) .nil))) .nil))))
def b220_5b_2 : S := (.set (.n 1) (.op .sub (.cons (.var 1) (.cons (.op .idx (.cons (.var 5) (.cons (.var 4) .nil))) .nil))))
def b220_5 : S := (.for_ (.n 4) .pl (.cons (.var 3) .nil) (.seq b220_5b_1 (.seq b220_5b_2 .pass)) [4])
def b220_6 : S := (.set (.n 6) (.lc (.tup (.cons (.op .idx (.cons (.op .idx (.cons (.var 0) (.cons (.var 4) .nil))) (.cons (.k (.int 0)) .nil))) (.cons (.op .sub (.cons (.op .idx (.cons (.op .idx (.cons (.var 0) (.cons (.var 4) .nil))) (.cons (.k (.int 1)) .nil))) (.cons (.op .idx (.cons (.var 5) (.cons (.var 4) .nil))) .nil))) .nil))) (.n 4) .rg1 (.cons (.op .len (.cons (.var 0) .nil)) .nil) .nil))
def b220_7 : S := (.ret (.tup (.cons (.call 219 (.cons (.lst .nil) (.cons (.var 6) .nil))) (.cons (.call 219 (.cons (.lst .nil) (.cons (.lc (.tup (.cons (.op .idx (.cons (.op .idx (.cons (.var 0) (.cons (.var 4) .nil))) (.cons (.k (.int 0)) .nil))) (.cons (.op .idx (.cons (.var 5) (.cons (.var 4) .nil))) .nil))) (.n 4) .rg1 (.cons (.op .len (.cons (.var 0) .nil)) .nil) .nil) .nil))) .nil))))
def b220 : S := (.seq b220_1 (.seq b220_2 (.seq b220_3 (.seq b220_4 (.seq b220_5 (.seq b220_6 (.seq b220_7 .pass)))))))
def df220 : Df := ⟨3, 7, [1], b220⟩
/-! l_layers -/
def b221_1 : S := (.set (.n 2) (.dic .nil))
def b221_2b_1 : S := (.set (.n 4) (.call 29 (.cons (.var 3) .nil)))
def b221_2b_2 : S := (.set (.n 5) (.call 30 (.cons (.var 3) .nil)))
def b221_2b_3 : S := (.set (.n 6) (.lst .nil))
def b221_2b_4t_1 : S := (.set (.cons (.n 7) (.cons (.n 6) .nil)) (.call 220 (.cons (.op .idx (.cons (.var 2) (.cons (.var 4) .nil))) (.cons (.op .idx (.cons (.var 3) (.cons (.op .neg (.cons (.k (.int 1)) .nil)) .nil))) (.cons (.var 1) .nil)))))
def b221_2b_4t_2 : S := (.dput 2 (.var 4) (.ite (.op .ne (.cons (.op .idx (.cons (.var 3) (.cons (.k (.int 0)) .nil))) (.cons (.k (.str "sell")) .nil))) (.var 7) (.lst .nil)))
def b221_2b_4 : S := (.iff (.op .noN (.cons (.var 4) .nil)) (.seq b221_2b_4t_1 (.seq b221_2b_4t_2 .pass)) .pass)
def b221_2b_5t_1 : S := (.set (.n 6) (.lst (.cons (.tup (.cons (.op .idx (.cons (.var 3) (.cons (.k (.int 1)) .nil))) (.cons (.op .idx (.cons (.var 3) (.cons (.k (.int 3)) .nil))) .nil))) .nil)))
def b221_2b_5 : S := (.iff (.op .eq (.cons (.op .idx (.cons (.var 3) (.cons (.k (.int 0)) .nil))) (.cons (.k (.str "in")) .nil))) (.seq b221_2b_5t_1 .pass) .pass)
def b221_2b_6t_1 : S := (.set (.n 6) (.call 219 (.cons (.var 6) (.cons (.lst (.cons (.tup (.cons (.k (.str "")) (.cons (.op .sub (.cons (.op .idx (.cons (.var 3) (.cons (.op .neg (.cons (.k (.int 1)) .nil)) .nil))) (.cons (.op .sum1 (.cons (.lc (.var 9) (.cons (.n 8) (.cons (.n 9) .nil)) .pl (.cons (.var 6) .nil) .nil) .nil)) .nil))) .nil))) .nil)) .nil))))
def b221_2b_6 : S := (.iff (.op .inn (.cons (.op .idx (.cons (.var 3) (.cons (.k (.int 0)) .nil))) (.cons (.tup (.cons (.k (.str "own")) (.cons (.k (.str "sell")) .nil))) .nil))) (.seq b221_2b_6t_1 .pass) .pass)
def b221_2b_7t_1 : S := (.dput 2 (.var 5) (.call 219 (.cons (.mop .get2 (.var 2) (.cons (.var 5) (.cons (.lst .nil) .nil))) (.cons (.var 6) .nil))))
def b221_2b_7 : S := (.iff (.op .noN (.cons (.var 5) .nil)) (.seq b221_2b_7t_1 .pass) .pass)
def b221_2 : S := (.for_ (.n 3) .pl (.cons (.var 0) .nil) (.seq b221_2b_1 (.seq b221_2b_2 (.seq b221_2b_3 (.seq b221_2b_4 (.seq b221_2b_5 (.seq b221_2b_6 (.seq b221_2b_7 .pass))))))) [3, 4, 5, 6, 7])
def b221_3 : S := (.ret (.mv 2))
def b221 : S := (.seq b221_1 (.seq b221_2 (.seq b221_3 .pass)))
def df221 : Df := ⟨2, 10, [], b221⟩
/-! law_k35 -/
def b222_1 : S := (.set (.n 1) (.call 4 (.cons (.var 0) .nil)))
def b222_2 : S := (.set (.n 2) (.call 35 (.cons (.var 1) .nil)))
def b222_3t_1 : S := (.set (.n 2) (.tup (.cons (.op .idx (.cons (.var 2) (.cons (.k (.int 0)) .nil))) (.cons (.op .idx (.cons (.var 2) (.cons (.k (.int 1)) .nil))) (.cons (.slc (.op .idx (.cons (.var 2) (.cons (.k (.int 0)) .nil))) .nil (.cons (.k (.int 6)) .nil)) (.cons (.op .idx (.cons (.var 2) (.cons (.k (.int 3)) .nil))) .nil))))))
def b222_3 : S := (.iff (.op .eq (.cons (.call 5 (.cons (.var 1) (.cons (.k (.int 4)) .nil))) (.cons (.k (.int 0)) .nil))) (.seq b222_3t_1 .pass) .pass)
def b222_4 : S := (.set (.n 3) (.call 38 (.cons (.var 1) (.cons (.var 2) (.cons (.call 5 (.cons (.var 1) (.cons (.op .idx (.cons (.lst (.cons (.k (.int 16)) (.cons (.k (.int 61)) .nil))) (.cons (.call 5 (.cons (.var 1) (.cons (.k (.int 2)) .nil))) .nil))) .nil))) .nil)))))
def b222_5 : S := (.set (.n 4) (.op .idx (.cons (.lst (.cons (.k (.str "first")) (.cons (.k (.str "last")) (.cons (.k (.str "own")) .nil)))) (.cons (.call 5 (.cons (.var 1) (.cons (.k (.int 3)) .nil))) .nil))))
def b222_6 : S := (.set (.n 5) (.call 221 (.cons (.var 3) (.cons (.var 4) .nil))))
def b222_7 : S := (.set (.n 6) (.call 93 (.cons (.var 3) .nil)))
def b222_8b_1 : S := (.set (.n 8) (.mop .get2 (.var 5) (.cons (.var 7) (.cons (.lst .nil) .nil))))
def b222_8b_2t_1 : S := (.ret (.k (.bl false)))
def b222_8b_2 : S := (.iff (.not_ (.call 6 (.cons (.call 71 (.cons (.op .lst1 (.cons (.var 3) .nil)) (.cons (.var 4) (.cons (.var 7) .nil)))) (.cons (.var 8) .nil)))) (.seq b222_8b_2t_1 .pass) .pass)
def b222_8b_3t_1 : S := (.ret (.k (.bl false)))
def b222_8b_3 : S := (.iff (.op .ne (.cons (.op .sum1 (.cons (.lc (.var 10) (.cons (.n 9) (.cons (.n 10) .nil)) .pl (.cons (.var 8) .nil) .nil) .nil)) (.cons (.mop .get2 (.var 6) (.cons (.var 7) (.cons (.k (.int 0)) .nil))) .nil))) (.seq b222_8b_3t_1 .pass) .pass)
def b222_8 : S := (.for_ (.n 7) .pl (.cons (.op .add (.cons (.op .add (.cons (.op .idx (.cons (.var 2) (.cons (.k (.int 0)) .nil))) (.cons (.op .idx (.cons (.var 2) (.cons (.k (.int 1)) .nil))) .nil))) (.cons (.lst (.cons (.k (.str "nobodys")) (.cons (.k (.str "NOTHING")) .nil))) .nil))) .nil) (.seq b222_8b_1 (.seq b222_8b_2 (.seq b222_8b_3 .pass))) [7, 8])
def b222_9b_1b_1 : S := (.set (.n 11) (.op .sum1 (.cons (.lc (.var 10) (.cons (.n 12) (.cons (.n 10) .nil)) .pl (.cons (.mop .get2 (.var 5) (.cons (.var 7) (.cons (.lst .nil) .nil))) .nil) (.cons (.op .eq (.cons (.var 12) (.cons (.var 9) .nil))) .nil)) .nil)))
def b222_9b_1b_2t_1 : S := (.ret (.k (.bl false)))
def b222_9b_1b_2 : S := (.iff (.not_ (.call 6 (.cons (.call 73 (.cons (.op .lst1 (.cons (.var 3) .nil)) (.cons (.var 4) (.cons (.var 9) (.cons (.var 7) .nil))))) (.cons (.var 11) .nil)))) (.seq b222_9b_1b_2t_1 .pass) .pass)
def b222_9b_1 : S := (.for_ (.n 9) .pl (.cons (.op .add (.cons (.op .idx (.cons (.var 2) (.cons (.k (.int 2)) .nil))) (.cons (.lst (.cons (.k (.str "")) (.cons (.k (.str "nobody")) .nil))) .nil))) .nil) (.seq b222_9b_1b_1 (.seq b222_9b_1b_2 .pass)) [])
def b222_9 : S := (.for_ (.n 7) .pl (.cons (.op .add (.cons (.op .add (.cons (.slc (.op .idx (.cons (.var 2) (.cons (.k (.int 0)) .nil))) .nil (.cons (.k (.int 3)) .nil)) (.cons (.slc (.op .idx (.cons (.var 2) (.cons (.k (.int 1)) .nil))) .nil (.cons (.k (.int 2)) .nil)) .nil))) (.cons (.lst (.cons (.k (.str "nobodys")) .nil)) .nil))) .nil) (.seq b222_9b_1 .pass) [9, 11])
def b222_10 : S := (.ret (.k (.bl true)))
def b222 : S := (.seq b222_1 (.seq b222_2 (.seq b222_3 (.seq b222_4 (.seq b222_5 (.seq b222_6 (.seq b222_7 (.seq b222_8 (.seq b222_9 (.seq b222_10 .pass))))))))))
def df222 : Df := ⟨1, 13, [], b222⟩
/-! number_in -/
def b314_1t_1 : S := (.ret (.k .non))
def b314_1 : S := (.iff (.or_ (.cons (.not_ (.ch .le .le (.k (.int 1)) (.op .len (.cons (.var 0) .nil)) (.g "MOST_FIGURES"))) (.cons (.not_ (.op .all1 (.cons (.lc (.op .inn (.cons (.var 1) (.cons (.g "FIGURES") .nil))) (.n 1) .pl (.cons (.var 0) .nil) .nil) .nil))) .nil))) (.seq b314_1t_1 .pass) .pass)
def b314_2t_1 : S := (.ret (.k .non))
def b314_2 : S := (.iff (.and_ (.cons (.op .eq (.cons (.op .idx (.cons (.var 0) (.cons (.k (.int 0)) .nil))) (.cons (.k (.str "0")) .nil))) (.cons (.op .gt (.cons (.op .len (.cons (.var 0) .nil)) (.cons (.k (.int 1)) .nil))) .nil))) (.seq b314_2t_1 .pass) .pass)
def b314_3 : S := (.ret (.op .int1 (.cons (.var 0) .nil)))
def b314 : S := (.seq b314_1 (.seq b314_2 (.seq b314_3 .pass)))
def df314 : Df := ⟨1, 2, [], b314⟩
/-! thing_in -/
def b315_1t_1 : S := (.ret (.call 314 (.cons (.var 1) .nil)))
def b315_1 : S := (.iff (.op .inn (.cons (.var 0) (.cons (.tup (.cons (.k (.str "c")) (.cons (.k (.str "w")) (.cons (.k (.str "n")) .nil)))) .nil))) (.seq b315_1t_1 .pass) .pass)
def b315_2t_1 : S := (.ret (.ite (.call 3 (.cons (.var 1) .nil)) (.var 1) (.k .non)))
def b315_2 : S := (.iff (.op .eq (.cons (.var 0) (.cons (.k (.str "t")) .nil))) (.seq b315_2t_1 .pass) .pass)
def b315_3 : S := (.ret (.ite (.call 2 (.cons (.var 1) .nil)) (.var 1) (.k .non)))
def b315 : S := (.seq b315_1 (.seq b315_2 (.seq b315_3 .pass)))
def df315 : Df := ⟨2, 2, [], b315⟩
/-! things_in -/
def b316_1t_1 : S := (.ret (.k .non))
def b316_1 : S := (.iff (.op .ne (.cons (.op .len (.cons (.var 1) .nil)) (.cons (.op .len (.cons (.var 0) .nil)) .nil))) (.seq b316_1t_1 .pass) .pass)
def b316_2 : S := (.set (.n 2) (.lc (.call 315 (.cons (.var 3) (.cons (.var 4) .nil))) (.cons (.n 3) (.cons (.n 4) .nil)) .zp (.cons (.var 0) (.cons (.var 1) .nil)) .nil))
def b316_3t_1 : S := (.ret (.k .non))
def b316_3 : S := (.iff (.op .inn (.cons (.k .non) (.cons (.var 2) .nil))) (.seq b316_3t_1 .pass) .pass)
def b316_4 : S := (.ret (.op .tup1 (.cons (.var 2) .nil)))
def b316 : S := (.seq b316_1 (.seq b316_2 (.seq b316_3 (.seq b316_4 .pass))))
def df316 : Df := ⟨2, 5, [], b316⟩
/-! act_in -/
def b317_1t_1 : S := (.ret (.k .non))
def b317_1 : S := (.iff (.or_ (.cons (.op .eq (.cons (.var 0) (.cons (.lst .nil) .nil))) (.cons (.op (.ninT "FORMS") (.cons (.op .idx (.cons (.var 0) (.cons (.k (.int 0)) .nil))) .nil)) .nil))) (.seq b317_1t_1 .pass) .pass)
def b317_2 : S := (.set (.n 1) (.call 316 (.cons (.op (.tab "FORMS") (.cons (.op .idx (.cons (.var 0) (.cons (.k (.int 0)) .nil))) .nil)) (.cons (.slc (.var 0) (.cons (.k (.int 1)) .nil) .nil) .nil))))
def b317_3t_1 : S := (.ret (.k .non))
def b317_3 : S := (.iff (.op .isN (.cons (.var 1) .nil)) (.seq b317_3t_1 .pass) .pass)
def b317_4 : S := (.ret (.op .add (.cons (.tup (.cons (.op .idx (.cons (.var 0) (.cons (.k (.int 0)) .nil))) .nil)) (.cons (.var 1) .nil))))
def b317 : S := (.seq b317_1 (.seq b317_2 (.seq b317_3 (.seq b317_4 .pass))))
def df317 : Df := ⟨1, 3, [], b317⟩
/-! entry_in -/
def b318_1 : S := (.set (.n 2) (.call 316 (.cons (.op .mul (.cons (.k (.str "n")) (.cons (.var 1) .nil))) (.cons (.slc (.var 0) (.cons (.k (.int 1)) .nil) (.cons (.op .add (.cons (.var 1) (.cons (.k (.int 1)) .nil))) .nil)) .nil))))
def b318_2 : S := (.set (.n 3) (.call 317 (.cons (.slc (.var 0) (.cons (.op .add (.cons (.var 1) (.cons (.k (.int 1)) .nil))) .nil) .nil) .nil)))
def b318_3t_1 : S := (.ret (.k .non))
def b318_3 : S := (.iff (.or_ (.cons (.op .isN (.cons (.var 2) .nil)) (.cons (.op .isN (.cons (.var 3) .nil)) .nil))) (.seq b318_3t_1 .pass) .pass)
def b318_4 : S := (.ret (.op .add (.cons (.op .add (.cons (.tup (.cons (.op .idx (.cons (.var 0) (.cons (.k (.int 0)) .nil))) .nil)) (.cons (.var 2) .nil))) (.cons (.tup (.cons (.var 3) .nil)) .nil))))
def b318 : S := (.seq b318_1 (.seq b318_2 (.seq b318_3 (.seq b318_4 .pass))))
def df318 : Df := ⟨2, 4, [], b318⟩
/-! deed_in -/
def b319_1 : S := (.set (.n 1) (.mop .split (.var 0) (.cons (.k (.str " ")) .nil)))
def b319_2t_1 : S := (.ret (.call 318 (.cons (.var 1) (.cons (.k (.int 1)) .nil))))
def b319_2 : S := (.iff (.op .eq (.cons (.op .idx (.cons (.var 1) (.cons (.k (.int 0)) .nil))) (.cons (.k (.str "tell")) .nil))) (.seq b319_2t_1 .pass) .pass)
def b319_3t_1 : S := (.ret (.call 318 (.cons (.var 1) (.cons (.k (.int 2)) .nil))))
def b319_3 : S := (.iff (.op .eq (.cons (.op .idx (.cons (.var 1) (.cons (.k (.int 0)) .nil))) (.cons (.k (.str "right")) .nil))) (.seq b319_3t_1 .pass) .pass)
def b319_4 : S := (.set (.n 2) (.mop .get1 (.dic (.cons (.k (.str "strike")) (.cons (.k (.str "n")) (.cons (.k (.str "same")) (.cons (.k (.str "pp")) .nil))))) (.cons (.op .idx (.cons (.var 1) (.cons (.k (.int 0)) .nil))) .nil)))
def b319_5t_1 : S := (.ret (.k .non))
def b319_5 : S := (.iff (.op .isN (.cons (.var 2) .nil)) (.seq b319_5t_1 .pass) .pass)
def b319_6 : S := (.set (.n 3) (.call 316 (.cons (.var 2) (.cons (.slc (.var 1) (.cons (.k (.int 1)) .nil) .nil) .nil))))
def b319_7t_1 : S := (.ret (.k .non))
def b319_7 : S := (.iff (.op .isN (.cons (.var 3) .nil)) (.seq b319_7t_1 .pass) .pass)
def b319_8 : S := (.ret (.op .add (.cons (.tup (.cons (.op .idx (.cons (.var 1) (.cons (.k (.int 0)) .nil))) .nil)) (.cons (.var 3) .nil))))
def b319 : S := (.seq b319_1 (.seq b319_2 (.seq b319_3 (.seq b319_4 (.seq b319_5 (.seq b319_6 (.seq b319_7 (.seq b319_8 .pass))))))))
def df319 : Df := ⟨1, 4, [], b319⟩
/-! act_text -/
def b320_1 : S := (.ret (.mop .join (.k (.str " ")) (.cons (.lc (.op .str1 (.cons (.var 1) .nil)) (.n 1) .pl (.cons (.var 0) .nil) .nil) .nil)))
def b320 : S := (.seq b320_1 .pass)
def df320 : Df := ⟨1, 2, [], b320⟩
/-! deed_text -/
def b321_1t_1 : S := (.ret (.mop .join (.k (.str " ")) (.cons (.op .add (.cons (.lc (.op .str1 (.cons (.var 1) .nil)) (.n 1) .pl (.cons (.slc (.var 0) .nil (.cons (.op .neg (.cons (.k (.int 1)) .nil)) .nil)) .nil) .nil) (.cons (.lst (.cons (.call 320 (.cons (.op .idx (.cons (.var 0) (.cons (.op .neg (.cons (.k (.int 1)) .nil)) .nil))) .nil)) .nil)) .nil))) .nil)))
def b321_1 : S := (.iff (.op .inn (.cons (.op .idx (.cons (.var 0) (.cons (.k (.int 0)) .nil))) (.cons (.tup (.cons (.k (.str "tell")) (.cons (.k (.str "right")) .nil))) .nil))) (.seq b321_1t_1 .pass) .pass)
def b321_2 : S := (.ret (.mop .join (.k (.str " ")) (.cons (.lc (.op .str1 (.cons (.var 1) .nil)) (.n 1) .pl (.cons (.var 0) .nil) .nil) .nil)))
def b321 : S := (.seq b321_1 (.seq b321_2 .pass))
def df321 : Df := ⟨1, 2, [], b321⟩
/-! read_act -/
def b322_1 : S := (.set (.n 1) (.call 317 (.cons (.mop .split (.var 0) (.cons (.k (.str " ")) .nil)) .nil)))
def b322_2t_1 : S := .bad
def b322_2 : S := (.iff (.op .isN (.cons (.var 1) .nil)) (.seq b322_2t_1 .pass) .pass)
def b322_3 : S := (.ret (.mv 1))
def b322 : S := (.seq b322_1 (.seq b322_2 (.seq b322_3 .pass)))
def df322 : Df := ⟨1, 2, [], b322⟩
/-! read_deed -/
def b323_1 : S := (.set (.n 1) (.call 319 (.cons (.var 0) .nil)))
def b323_2t_1 : S := .bad
def b323_2 : S := (.iff (.op .isN (.cons (.var 1) .nil)) (.seq b323_2t_1 .pass) .pass)
def b323_3 : S := (.ret (.mv 1))
def b323 : S := (.seq b323_1 (.seq b323_2 (.seq b323_3 .pass)))
def df323 : Df := ⟨1, 2, [], b323⟩
/-! l_figures -/
def b324_1 : S := (.set (.n 1) (.op .idx (.cons (.lst (.cons (.k (.int 9)) (.cons (.k (.int 1000)) (.cons (.op .pow (.cons (.k (.int 10)) (.cons (.k (.int 6)) .nil))) (.cons (.op .pow (.cons (.k (.int 10)) (.cons (.k (.int 13)) .nil))) .nil))))) (.cons (.call 5 (.cons (.var 0) (.cons (.k (.int 4)) .nil))) .nil))))
def b324_2 : S := (.ret (.op .idx (.cons (.lst (.cons (.k (.int 0)) (.cons (.op .sub (.cons (.var 1) (.cons (.k (.int 1)) .nil))) (.cons (.call 5 (.cons (.var 0) (.cons (.var 1) .nil))) (.cons (.call 5 (.cons (.var 0) (.cons (.var 1) .nil))) .nil))))) (.cons (.call 5 (.cons (.var 0) (.cons (.k (.int 4)) .nil))) .nil))))
def b324 : S := (.seq b324_1 (.seq b324_2 .pass))
def df324 : Df := ⟨1, 2, [], b324⟩
/-! l_any_act -/
def b325_1 : S := (.set (.n 1) (.dic (.cons (.k (.str "in")) (.cons (.k (.str "ssc")) (.cons (.k (.str "own")) (.cons (.k (.str "sc")) (.cons (.k (.str "pay")) (.cons (.k (.str "ssc")) (.cons (.k (.str "buy")) (.cons (.k (.str "sgc")) (.cons (.k (.str "sell")) (.cons (.k (.str "gsc")) (.cons (.k (.str "spend")) (.cons (.k (.str "sc")) (.cons (.k (.str "worth")) (.cons (.k (.str "gc")) .nil))))))))))))))))
def b325_2 : S := (.set (.n 2) (.call 26 (.cons (.var 0) (.cons (.lst (.cons (.k (.str "in")) (.cons (.k (.str "own")) (.cons (.k (.str "pay")) (.cons (.k (.str "buy")) (.cons (.k (.str "sell")) (.cons (.k (.str "spend")) (.cons (.k (.str "worth")) .nil)))))))) .nil))))
def b325_3 : S := (.set (.n 3) (.lst (.cons (.var 2) .nil)))
def b325_4 : S := (.set (.n 4) (.call 12 (.cons (.var 0) (.cons (.k (.int 2)) (.cons (.k (.bl false)) .nil)))))
def b325_5b_1t_1 : S := (.ex (.mut .app 3 (.cons (.call 26 (.cons (.var 0) (.cons (.var 4) .nil))) .nil)))
def b325_5b_1e_1t_1 : S := (.ex (.mut .app 3 (.cons (.op .idx (.cons (.call 12 (.cons (.var 0) (.cons (.k (.int 1)) (.cons (.k (.bl true)) .nil)))) (.cons (.k (.int 0)) .nil))) .nil)))
def b325_5b_1e_1e_1 : S := (.ex (.mut .app 3 (.cons (.call 324 (.cons (.var 0) .nil)) .nil)))
def b325_5b_1e_1 : S := (.iff (.op .eq (.cons (.var 5) (.cons (.k (.str "g")) .nil))) (.seq b325_5b_1e_1t_1 .pass) (.seq b325_5b_1e_1e_1 .pass))
def b325_5b_1 : S := (.iff (.op .eq (.cons (.var 5) (.cons (.k (.str "s")) .nil))) (.seq b325_5b_1t_1 .pass) (.seq b325_5b_1e_1 .pass))
def b325_5 : S := (.for_ (.n 5) .pl (.cons (.op .idx (.cons (.var 1) (.cons (.var 2) .nil))) .nil) (.seq b325_5b_1 .pass) [5])
def b325_6 : S := (.ret (.op .tup1 (.cons (.var 3) .nil)))
def b325 : S := (.seq b325_1 (.seq b325_2 (.seq b325_3 (.seq b325_4 (.seq b325_5 (.seq b325_6 .pass))))))
def df325 : Df := ⟨1, 6, [], b325⟩
/-! l_any_deed -/
def b326_1 : S := (.set (.n 1) (.call 5 (.cons (.var 0) (.cons (.k (.int 6)) .nil))))
def b326_2t_1 : S := (.ret (.tup (.cons (.k (.str "tell")) (.cons (.call 324 (.cons (.var 0) .nil)) (.cons (.call 325 (.cons (.var 0) .nil)) .nil)))))
def b326_2 : S := (.iff (.op .lt (.cons (.var 1) (.cons (.k (.int 3)) .nil))) (.seq b326_2t_1 .pass) .pass)
def b326_3t_1 : S := (.ret (.tup (.cons (.k (.str "right")) (.cons (.call 324 (.cons (.var 0) .nil)) (.cons (.call 324 (.cons (.var 0) .nil)) (.cons (.call 325 (.cons (.var 0) .nil)) .nil))))))
def b326_3 : S := (.iff (.op .eq (.cons (.var 1) (.cons (.k (.int 3)) .nil))) (.seq b326_3t_1 .pass) .pass)
def b326_4t_1 : S := (.ret (.tup (.cons (.k (.str "strike")) (.cons (.call 324 (.cons (.var 0) .nil)) .nil))))
def b326_4 : S := (.iff (.op .eq (.cons (.var 1) (.cons (.k (.int 4)) .nil))) (.seq b326_4t_1 .pass) .pass)
def b326_5 : S := (.ret (.op .add (.cons (.tup (.cons (.k (.str "same")) .nil)) (.cons (.op .tup1 (.cons (.call 12 (.cons (.var 0) (.cons (.k (.int 2)) (.cons (.k (.bl false)) .nil)))) .nil)) .nil))))
def b326 : S := (.seq b326_1 (.seq b326_2 (.seq b326_3 (.seq b326_4 (.seq b326_5 .pass)))))
def df326 : Df := ⟨1, 2, [], b326⟩
/-! l_line -/
def b327_1 : S := (.set (.n 1) (.lst .nil))
def b327_2b_1t_1 : S := (.ex (.mut .app 1 (.cons (.call 327 (.cons (.var 2) .nil)) .nil)))
def b327_2b_1e_1 : S := (.ex (.mut .app 1 (.cons (.op .str1 (.cons (.var 2) .nil)) .nil)))
def b327_2b_1 : S := (.iff (.op (.isi 4) (.cons (.var 2) .nil)) (.seq b327_2b_1t_1 .pass) (.seq b327_2b_1e_1 .pass))
def b327_2 : S := (.for_ (.n 2) .pl (.cons (.var 0) .nil) (.seq b327_2b_1 .pass) [2])
def b327_3 : S := (.ret (.mop .join (.k (.str " ")) (.cons (.var 1) .nil)))
def b327 : S := (.seq b327_1 (.seq b327_2 (.seq b327_3 .pass)))
def df327 : Df := ⟨1, 3, [], b327⟩
/-! law_k49 -/
def b328_1 : S := (.set (.n 1) (.call 4 (.cons (.var 0) .nil)))
def b328_2b_1 : S := (.set (.n 3) (.call 325 (.cons (.var 1) .nil)))
def b328_2b_2 : S := (.set (.n 4) (.call 320 (.cons (.var 3) .nil)))
def b328_2b_3t_1 : S := (.ret (.k (.bl false)))
def b328_2b_3 : S := (.iff (.or_ (.cons (.not_ (.call 6 (.cons (.var 4) (.cons (.call 327 (.cons (.var 3) .nil)) .nil)))) (.cons (.not_ (.call 6 (.cons (.call 322 (.cons (.var 4) .nil)) (.cons (.var 3) .nil)))) .nil))) (.seq b328_2b_3t_1 .pass) .pass)
def b328_2b_4 : S := (.set (.n 5) (.call 326 (.cons (.var 1) .nil)))
def b328_2b_5 : S := (.set (.n 4) (.call 321 (.cons (.var 5) .nil)))
def b328_2b_6t_1 : S := (.ret (.k (.bl false)))
def b328_2b_6 : S := (.iff (.or_ (.cons (.not_ (.call 6 (.cons (.var 4) (.cons (.call 327 (.cons (.var 5) .nil)) .nil)))) (.cons (.not_ (.call 6 (.cons (.call 323 (.cons (.var 4) .nil)) (.cons (.var 5) .nil)))) .nil))) (.seq b328_2b_6t_1 .pass) .pass)
def b328_2 : S := (.for_ (.n 2) .rg1 (.cons (.k (.int 6)) .nil) (.seq b328_2b_1 (.seq b328_2b_2 (.seq b328_2b_3 (.seq b328_2b_4 (.seq b328_2b_5 (.seq b328_2b_6 .pass)))))) [2, 3, 4, 5])
def b328_3 : S := (.ret (.k (.bl true)))
def b328 : S := (.seq b328_1 (.seq b328_2 (.seq b328_3 .pass)))
def df328 : Df := ⟨1, 6, [], b328⟩
def dfs : Nat → Option Df
  | 1 => some df1
  | 2 => some df2
  | 3 => some df3
  | 4 => some df4
  | 5 => some df5
  | 6 => some df6
  | 7 => some df7
  | 8 => some df8
  | 9 => some df9
  | 10 => some df10
  | 11 => some df11
  | 12 => some df12
  | 13 => some df13
  | 14 => some df14
  | 15 => some df15
  | 16 => some df16
  | 17 => some df17
  | 18 => some df18
  | 19 => some df19
  | 20 => some df20
  | 21 => some df21
  | 22 => some df22
  | 23 => some df23
  | 24 => some df24
  | 25 => some df25
  | 26 => some df26
  | 27 => some df27
  | 28 => some df28
  | 29 => some df29
  | 30 => some df30
  | 31 => some df31
  | 32 => some df32
  | 33 => some df33
  | 34 => some df34
  | 35 => some df35
  | 36 => some df36
  | 37 => some df37
  | 38 => some df38
  | 39 => some df39
  | 40 => some df40
  | 41 => some df41
  | 42 => some df42
  | 43 => some df43
  | 44 => some df44
  | 45 => some df45
  | 46 => some df46
  | 47 => some df47
  | 48 => some df48
  | 49 => some df49
  | 50 => some df50
  | 51 => some df51
  | 53 => some df53
  | 54 => some df54
  | 55 => some df55
  | 56 => some df56
  | 57 => some df57
  | 58 => some df58
  | 59 => some df59
  | 60 => some df60
  | 66 => some df66
  | 67 => some df67
  | 68 => some df68
  | 69 => some df69
  | 70 => some df70
  | 71 => some df71
  | 72 => some df72
  | 73 => some df73
  | 80 => some df80
  | 81 => some df81
  | 92 => some df92
  | 93 => some df93
  | 94 => some df94
  | 95 => some df95
  | 96 => some df96
  | 97 => some df97
  | 98 => some df98
  | 99 => some df99
  | 100 => some df100
  | 131 => some df131
  | 199 => some df199
  | 200 => some df200
  | 201 => some df201
  | 202 => some df202
  | 203 => some df203
  | 204 => some df204
  | 219 => some df219
  | 220 => some df220
  | 221 => some df221
  | 222 => some df222
  | 314 => some df314
  | 315 => some df315
  | 316 => some df316
  | 317 => some df317
  | 318 => some df318
  | 319 => some df319
  | 320 => some df320
  | 321 => some df321
  | 322 => some df322
  | 323 => some df323
  | 324 => some df324
  | 325 => some df325
  | 326 => some df326
  | 327 => some df327
  | 328 => some df328
  | _ => none
/-- these defs stand -/
def Has (pg : Nat → Option Df) (l : List Nat) : Prop := ∀ i ∈ l, pg i = dfs i
theorem Has.sub {pg : Nat → Option Df} {l l2 : List Nat} (h : Has pg l) (s : (l2.all fun i => l.contains i) = true) : Has pg l2 := fun i hi => h i (by simpa using List.all_eq_true.mp s i hi)
theorem Has.at {pg : Nat → Option Df} {l : List Nat} (h : Has pg l) (i : Nat) (df : Df) (s : l.contains i = true) (e : dfs i = some df) : pg i = some df := (h i (by simpa using s)).trans e
end Wx

set_option Elab.async false
set_option linter.all false
set_option maxRecDepth 100000
set_option maxHeartbeats 4000000
namespace Wx
open Vm
local macro_rules | `(tactic| simp_arith [$as,*]) => `(tactic| simp only [e_var, e_mv, e_fv, e_k, e_g, e_opw, e_mop, e_mopv, dfl_k, e_slcV, e_slcE, e_ch, e_and, e_or, e_not, e_ite, e_lst, e_tup, e_dic0, e_dic, q_dic, pairD_nil, pairD_cons, Wdc_some, Wky_int, Wky_str, WS_dput, e_lcw, e_callw, e_mut, m_app, m_ext, m_clr, Wli_some, evAnd_1, evAnd_2, evOr_1, evOr_2, evI_nil, evI_1, evL_nil, evL_var, evL_o, evV_nil, evV_cons, evA_nil, evA_var, evA_o, evTs_nil, evTs_1, Wi_int, q_var, slc_f, slc_t, q_k, q_g, q_op, q_mop, q_slc, q_ch, q_and, q_or, q_not, q_ite, q_lst, q_tup, q_lc, qs_nil, qs_cons, qcs_nil, qcs_cons, qI_nil, qI_cons, qTs_nil, qTs_cons, qAnd_1, qAnd_2, qOr_1, qOr_2, WbD_bl, Wch_bl, WiD_int, WS_seq, WS_ex, WS_setn, WS_sett, WS_par, WS_aug, Wint_some, WS_sput, WS_saug, WDint_int, WS_iff, WS_for, WS_whl, WS_ret, WS_retN, WS_bad, WS_brk, WS_cnt, WS_pass, W_evT, WS_forget, WO_some, WO_none, Wsl_some, Wb_bl, WO_if, WO_map, WO_bindo, W_slot, W_okr, if_F, F_if, if_and2, if_or2, opD, oAdd, oSub, oMul, oFdv, oMod, oPow, oNeg, oCmp, oEq, oIsN, oIn, inD, oLen, oAll, oAny, oSum, oMn1, oMx1, oMn2, oMx2, oLst, oTup, oDct, oInt, oIdx, oSl, oRev, oJoin, oGet1, oGet2, oIsi, oTab, oLrg, oStr, oInT, oSplit, tabOf, lkT, ofK, oUpper, oLower, oIsup, oIslo, String.reduceEq, Option.isSome_some, List.nodup_cons, isScr, isiB, bls, intsOf, strsOf, eqD_ii, eqD_ss, eqD_bb, eqD_nn, eqD_ni, eqD_ns, eqD_in, eqD_sn, eqD_is, eqD_si, eqD_ll, eqD_tt, eqD_lt, eqD_tl, eqDs_nn, eqDs_cc, eqDs_nc, eqDs_cn, shal_non, shal_bl, shal_int, shal_str, shal_nil, shal_cons, shal_lst, shal_tup, flat, inL, valD, keyD, big_eq, mk, ow_int, ow_str, ow_bl, ow_non, ow_tup, ow_lst, ow_dct, toD_d, toD_lst, toD_dct, quiet_var, quiet_k, quiet_g, quiet_nil, quiet_mv, quiet_fv, quiet_call, quiet_mut, quiet_op, quiet_mop, quiet_slc, quiet_ch, quiet_and, quiet_or, quiet_not, quiet_ite, quiet_lst, quiet_tup, quiet_dic, quiet_lc, quiet_cons, lentE, tyD, mutRule, itD, seqD, at0, at1, at2, at3, at4, at5, at6, at7, atm1, ix0, ix1, ix2, ix3, ix4, arOk, arIx_nil, arIx_sl, arIx_tm, arOs_nil, arOs_sl, arOs_tm, back_nil, back_sl, back_tm, isD, outs_nil, outs_cons, forget_nil, forget_cons, tgSet_n, tgSet_cons, tgSets_nil, tgSets_cons, tgSlots_n, tgSlots_nil, tgSlots_cons, List.set_cons_zero, List.set_cons_succ, List.getElem?_cons_zero, List.getElem?_cons_succ, List.length_cons, List.length_nil, List.length_map, List.map_cons, List.map_nil, List.cons_append, List.nil_append, List.append_nil, List.replicate_succ, List.replicate_zero, List.getLast?_cons_cons, List.getLast?_singleton, List.nodup_cons, List.nodup_nil, List.mem_cons, List.not_mem_nil, List.contains_cons, List.contains_nil, List.all_cons, List.all_nil, decide_true, decide_false, Bool.true_or, Bool.or_true, Bool.false_or, Bool.or_false, Bool.and_true, Bool.true_and, Bool.false_and, Bool.and_false, Bool.not_true, Bool.not_false, Bool.false_bne, Bool.xor_false, Bool.false_xor, Bool.true_xor, Bool.xor_true, beq_iff_eq, bne_iff_ne, decide_eq_true_eq, decide_not, Bool.not_eq_true', Bool.false_eq_true, Bool.true_eq_false, Bool.not_eq_true, decide_eq_false_iff_not, beq_self_eq_true, beq_eq_false_iff_ne, bne_self_eq_false, Bool.and_eq_true, Bool.or_eq_true, true_and, and_true, false_and, and_false, or_false, false_or, or_true, true_or, not_true_eq_false, not_false_eq_true, ne_eq, reduceCtorEq, implies_true, forall_const, Option.some.injEq, exists_eq_left', exists_eq_left, eq_self, if_true, if_false, ↓reduceIte, Nat.reduceAdd, Nat.reduceSub, Nat.reduceMul, Nat.reduceLT, Nat.reduceLeDiff, Nat.reduceEqDiff, Nat.reduceBEq, Nat.zero_add, Nat.succ_eq_add_one, Nat.lt_add_left_iff_pos, Nat.add_lt_add_iff_right, Nat.not_lt_zero, Nat.lt_irrefl, Nat.zero_lt_succ, Nat.one_ne_zero, Nat.add_one_ne_zero, Nat.succ_ne_zero, Nat.reduceSucc, Int.reducePow, Int.reduceMul, Int.reduceAdd, Int.reduceSub, Int.reduceNeg, Int.reduceLT, Int.reduceLE, Int.reduceToNat, Int.reduceNegSucc, Int.reduceEq, Int.reduceNe, Int.cast_ofNat_Int, Int.natCast_zero, Int.natCast_one, Int.reduceBEq, Int.reduceMod, Int.reduceDiv, nat10, cl_one, Option.getD_none, Option.getD_some, $as,*])
structure Bx where
  ns : List Int
  p : Nat
  b : Int
  s : Int
  c : Int
def Bx.o (x : Bx) : O := .lst [.lst (x.ns.map .int), .int x.p, .int x.b, .int x.s, .int x.c]
structure Bx.Ok (x : Bx) : Prop where
  n : x.ns.length ≤ 63
  p : x.p ≤ x.ns.length
  b : 0 ≤ x.b
  s : 0 ≤ x.s ∧ x.s < 2147483587
variable {glob : String → Option D} {pg : Nat → Option Df}
theorem box_ok (hp : Has pg [4]) (k : Nat) (ns : List Int) (h : ns.length ≤ 63) : @WC (run glob pg (k + 1) 4 [.d (.scr ns)]) ⟨fun o ts => ∃ x : Bx, x.Ok ∧ o = x.o ∧ ts = [.d (.scr ns)]⟩ ⟨fun _ _ => False⟩ := by
  refine run_ok (hp.at 4 df4 rfl rfl) rfl rfl ?_
  simp_arith [b4, b4_1]
  refine ⟨⟨cut ns (loN ns.length none) (hiN ns.length (some 63)), 0, 0, 90007, 0⟩, ⟨?_, Nat.zero_le _, Int.le_refl 0, by constructor <;> simp⟩, rfl⟩
  simp [cut, loN, hiN, cl]; omega
theorem mul_l {i j : Int} (h : i.natAbs < 18446744073709551616) : mulOk i j := .inl h
theorem mul_r {i j : Int} (h : j.natAbs < 18446744073709551616) : mulOk i j := .inr (.inl h)
theorem log_ok {m : Int} (h : 0 < m) (h2 : m < 10 ^ 30) : m.natAbs.log2 < 9000 := by
  have : m.natAbs.log2 < 100 := (Nat.log2_lt (by omega)).2 (by omega)
  omega
theorem mod_s (a : Int) : 0 ≤ a % 2147483587 ∧ a % 2147483587 < 2147483587 := ⟨Int.emod_nonneg _ (by decide), Int.emod_lt_of_pos _ (by decide)⟩
theorem at_some {xs : List Int} {p : Nat} (h : p < xs.length) (h2 : xs.length < 9223372036854775808) : at? (xs.map D.int) (p : Int) = some (.int xs[p]) := by
  rw [atN (by omega), List.getElem?_map, List.getElem?_eq_getElem h]; rfl
theorem take_ok (hp : Has pg [5]) (k : Nat) (x : Bx) (h : x.Ok) (m : Int) (m0 : 0 < m) (m1 : m < 10 ^ 30) : @WC (run glob pg (k + 1) 5 [x.o, .d (.int m)]) ⟨fun o ts => ∃ (y : Bx) (r : Int), y.Ok ∧ 0 ≤ r ∧ r < m ∧ o = .d (.int r) ∧ ts = [y.o, .d (.int m)]⟩ ⟨fun _ _ => False⟩ := by
  refine run_ok (hp.at 5 df5 rfl rfl) rfl rfl ?_
  have hs := h.s
  have hb := h.b
  have hl := log_ok m0 m1
  have hm : ∀ a : Int, 0 ≤ a % m ∧ a % m < m := fun a => ⟨Int.emod_nonneg _ (by omega), Int.emod_lt_of_pos _ m0⟩
  have h61 : (Int.natAbs 61).log2 < 9000 := by decide
  by_cases hc : x.b = 0 ∧ (x.p : Int) < (x.ns.length : Int)
  · have hn := h.n
    have hlt : x.p < x.ns.length := by omega
    simp_arith [b5, b5_1, b5_1t_1, b5_1t_2, b5_1t_3, b5_1t_4, b5_1t_4t_1, b5_2, b5_2t_1, b5_2t_2, b5_2t_3, b5_3, b5_4, b5_5, b5_6, Bx.o, hc, at_some hlt (by omega)]
    refine ⟨mul_r (by decide), mul_r (by decide), ?_⟩
    have hq := mod_s (x.s * 30011 + x.ns[x.p] % 2147483587 * 211 + 977)
    generalize (x.s * 30011 + x.ns[x.p] % 2147483587 * 211 + 977) % 2147483587 = s' at hq ⊢
    have hp1 : x.p + 1 ≤ x.ns.length := by omega
    split
    · rw [if_pos (by omega)]
      exact ⟨m0, ⟨m0, hl⟩, ⟨x.ns, x.p + 1, _, s', x.c⟩, _, ⟨hn, hp1, Int.ediv_nonneg (by omega) (by omega), hq⟩, (hm _).1, (hm _).2, rfl, rfl⟩
    · exact ⟨mul_l (by omega), mul_l (by decide), mul_l (by decide), h61, mul_r (by decide), m0, ⟨x.ns, x.p + 1, 0, _, x.c + 1⟩, _, ⟨hn, hp1, Int.le_refl 0, mod_s _⟩, (hm _).1, (hm _).2, rfl, rfl⟩
  · simp_arith [b5, b5_1, b5_2, b5_2t_1, b5_2t_2, b5_2t_3, b5_3, b5_4, b5_5, b5_6, Bx.o, hc]
    by_cases hb0 : 0 < x.b
    · simp only [hb0, if_true]
      exact ⟨m0, ⟨m0, hl⟩, ⟨x.ns, x.p, x.b / m, x.s, x.c⟩, x.b % m, ⟨h.n, h.p, Int.ediv_nonneg hb (by omega), hs⟩, (hm _).1, (hm _).2, rfl, rfl⟩
    · simp only [hb0, if_false]
      exact ⟨mul_l (by omega), mul_l (by decide), mul_l (by decide), h61, mul_r (by decide), m0, ⟨x.ns, x.p, x.b, _, x.c + 1⟩, _, ⟨h.n, h.p, hb, mod_s _⟩, (hm _).1, (hm _).2, rfl, rfl⟩

mutual
/-- data that a law compares: at most so deep -/
def cln : Nat → D → Bool
  | n, .tup xs => match n with | 0 => false | n + 1 => decide (xs.length ≤ 16777216) && clns n xs
  | n, .lst xs => match n with | 0 => false | n + 1 => decide (xs.length ≤ 16777216) && clns n xs
  | _, .dct _ => false
  | _, .scr _ => false
  | _, _ => true
def clns : Nat → List D → Bool
  | _, [] => true
  | n, x :: xs => cln n x && clns n xs
end
theorem zip_len : ∀ xs ys : List D, (zipD xs ys).length = min xs.length ys.length
  | [], ys => by unfold zipD; simp
  | x :: xs, [] => by unfold zipD; simp
  | x :: xs, y :: ys => by unfold zipD; simp only [List.length_cons, zip_len xs ys]; omega
theorem bls_map : ∀ n : Nat, bls (List.replicate n (.bl true)) = some (List.replicate n true)
  | 0 => rfl
  | n + 1 => by rw [List.replicate_succ, bls, bls_map n]; rfl
theorem all_rep : ∀ n : Nat, (List.replicate n true).all id = true
  | 0 => rfl
  | n + 1 => by rw [List.replicate_succ, List.all_cons, all_rep n]; rfl
theorem toD_sc {o : O} {d : D} (h : o.toD = d) (hb : isBox d = false) : o = .d d := by
  cases o with
  | d x => exact congrArg O.d h
  | lst xs => subst h; cases hb
  | dct xs => subst h; cases hb
theorem same_sc (hp : Has pg [6]) (d : D) (hd : cln 0 d = true) (k : Nat) (o1 o2 : O) (h1 : o1.toD = d) (h2 : o2.toD = d) :
    @WC (run glob pg (k + 1) 6 [o1, o2]) ⟨fun o ts => o = .d (.bl true) ∧ ∃ t1 t2, ts = [t1, t2] ∧ t1.toD = d ∧ t2.toD = d ∧ (o1 = .d d → t1 = .d d) ∧ (o2 = .d d → t2 = .d d)⟩ ⟨fun _ _ => False⟩ := by
  refine run_ok (hp.at 6 df6 rfl rfl) rfl rfl ?_
  cases d with
  | tup xs => simp [cln] at hd
  | lst xs => simp [cln] at hd
  | dct xs => simp [cln] at hd
  | scr xs => simp [cln] at hd
  | non =>
    obtain rfl := toD_sc h1 rfl
    obtain rfl := toD_sc h2 rfl
    simp_arith [b6, b6_1, b6_1t_1]
    exact ⟨_, _, rfl, rfl, rfl, rfl, rfl⟩
  | bl b =>
    obtain rfl := toD_sc h1 rfl
    obtain rfl := toD_sc h2 rfl
    simp_arith [b6, b6_1, b6_1t_1, b6_2, b6_3, b6_3t_1, b6_4]
    exact ⟨_, _, rfl, rfl, rfl, rfl, rfl⟩
  | int b =>
    obtain rfl := toD_sc h1 rfl
    obtain rfl := toD_sc h2 rfl
    simp_arith [b6, b6_1, b6_1t_1, b6_2, b6_3, b6_3t_1, b6_4]
    exact ⟨_, _, rfl, rfl, rfl, rfl, rfl⟩
  | str b =>
    obtain rfl := toD_sc h1 rfl
    obtain rfl := toD_sc h2 rfl
    simp_arith [b6, b6_1, b6_1t_1, b6_2, b6_3, b6_3t_1, b6_4]
    exact ⟨_, _, rfl, rfl, rfl, rfl, rfl⟩
theorem same_ok (hp : Has pg [6]) : ∀ (n : Nat) (d : D), cln n d = true → ∀ (k : Nat) (o1 o2 : O), o1.toD = d → o2.toD = d →
    @WC (run glob pg (k + n + 1) 6 [o1, o2]) ⟨fun o ts => o = .d (.bl true) ∧ ∃ t1 t2, ts = [t1, t2] ∧ t1.toD = d ∧ t2.toD = d ∧ (o1 = .d d → t1 = .d d) ∧ (o2 = .d d → t2 = .d d)⟩ ⟨fun _ _ => False⟩ := by
  intro n
  induction n with
  | zero => exact fun d hd k o1 o2 h1 h2 => same_sc hp d hd k o1 o2 h1 h2
  | succ n ih =>
    intro d hd k o1 o2 h1 h2
    cases d with
    | dct xs => simp [cln] at hd
    | scr xs => simp [cln] at hd
    | tup xs =>
      refine run_ok (hp.at 6 df6 rfl rfl) rfl rfl ?_
      obtain rfl := toD_sc h1 rfl
      obtain rfl := toD_sc h2 rfl
      simp only [cln, Bool.and_eq_true, decide_eq_true_eq] at hd
      have hz : (zipD xs xs).length ≤ 16777216 := by rw [zip_len]; omega
      simp_arith [b6, b6_1, b6_1t_1, b6_2, b6_2t_1, b6_2t_1t_1, b6_2t_2]
      refine ⟨hz, lc_inv (fun rest ys e => ∃ zs, rest = zipD zs zs ∧ clns n zs = true ∧ ys = List.replicate ys.length (.bl true) ∧ e = [some (O.d (D.tup xs)), some (O.d (D.tup xs)), none, none]) ?_ ?_ ⟨xs, rfl, hd.2, rfl, rfl⟩⟩
      · rintro x r ys e ⟨zs, hr, hc, hy, rfl⟩
        match zs, hr with
        | z :: zs, hr =>
          unfold zipD at hr
          cases hr
          unfold clns at hc
          simp only [Bool.and_eq_true] at hc
          simp_arith []
          refine WC_of (ih z hc.1 k (.d z) (.d z) rfl rfl) ?_
          rintro o ts ⟨rfl, t1, t2, rfl, _, _, h3, h4⟩
          rw [h3 rfl, h4 rfl]
          simp_arith []
          exact ⟨zs, rfl, hc.2, by rw [List.length_append, List.length_singleton, List.replicate_succ', ← hy]⟩
        | [], hr => unfold zipD at hr; cases hr
      · rintro ys e ⟨zs, hr, hc, hy, rfl⟩
        generalize ys.length = m at hy
        subst hy
        simp_arith [bls_map, all_rep]
        first | exact ⟨_, _, rfl, rfl, rfl, rfl, rfl⟩ | exact ⟨_, _, rfl, rfl, rfl, fun _ => rfl, fun _ => rfl⟩
    | lst xs =>
      refine run_ok (hp.at 6 df6 rfl rfl) rfl rfl ?_
      simp only [cln, Bool.and_eq_true, decide_eq_true_eq] at hd
      have hz : (zipD xs xs).length ≤ 16777216 := by rw [zip_len]; omega
      simp_arith [b6, b6_1, b6_1t_1, b6_2, b6_2t_1, b6_2t_1t_1, b6_2t_2, h1, h2]
      refine ⟨hz, lc_inv (fun rest ys e => ∃ zs, rest = zipD zs zs ∧ clns n zs = true ∧ ys = List.replicate ys.length (.bl true) ∧ e = [some (O.d (D.lst xs)), some (O.d (D.lst xs)), none, none]) ?_ ?_ ⟨xs, rfl, hd.2, rfl, rfl⟩⟩
      · rintro x r ys e ⟨zs, hr, hc, hy, rfl⟩
        match zs, hr with
        | z :: zs, hr =>
          unfold zipD at hr
          cases hr
          unfold clns at hc
          simp only [Bool.and_eq_true] at hc
          simp_arith []
          refine WC_of (ih z hc.1 k (.d z) (.d z) rfl rfl) ?_
          rintro o ts ⟨rfl, t1, t2, rfl, _, _, h3, h4⟩
          rw [h3 rfl, h4 rfl]
          simp_arith []
          exact ⟨zs, rfl, hc.2, by rw [List.length_append, List.length_singleton, List.replicate_succ', ← hy]⟩
        | [], hr => unfold zipD at hr; cases hr
      · rintro ys e ⟨zs, hr, hc, hy, rfl⟩
        generalize ys.length = m at hy
        subst hy
        simp_arith [bls_map, all_rep]
        first | exact ⟨_, _, rfl, rfl, rfl, rfl, rfl⟩ | exact ⟨_, _, rfl, rfl, rfl, fun _ => rfl, fun _ => rfl⟩
    | non => exact same_sc hp .non rfl (k + (n + 1)) o1 o2 h1 h2
    | bl b => exact same_sc hp (.bl b) rfl (k + (n + 1)) o1 o2 h1 h2
    | int b => exact same_sc hp (.int b) rfl (k + (n + 1)) o1 o2 h1 h2
    | str b => exact same_sc hp (.str b) rfl (k + (n + 1)) o1 o2 h1 h2
end Wx

set_option Elab.async false
set_option linter.all false
set_option maxRecDepth 100000
set_option maxHeartbeats 4000000
namespace Wx
open Vm
local macro_rules | `(tactic| simp_arith [$as,*]) => `(tactic| simp only [e_var, e_mv, e_fv, e_k, e_g, e_opw, e_mop, e_mopv, dfl_k, e_slcV, e_slcE, e_ch, e_and, e_or, e_not, e_ite, e_lst, e_tup, e_dic0, e_dic, q_dic, pairD_nil, pairD_cons, Wdc_some, Wky_int, Wky_str, WS_dput, e_lcw, e_callw, e_mut, m_app, m_ext, m_clr, Wli_some, evAnd_1, evAnd_2, evOr_1, evOr_2, evI_nil, evI_1, evL_nil, evL_var, evL_o, evV_nil, evV_cons, evA_nil, evA_var, evA_o, evTs_nil, evTs_1, Wi_int, q_var, slc_f, slc_t, q_k, q_g, q_op, q_mop, q_slc, q_ch, q_and, q_or, q_not, q_ite, q_lst, q_tup, q_lc, qs_nil, qs_cons, qcs_nil, qcs_cons, qI_nil, qI_cons, qTs_nil, qTs_cons, qAnd_1, qAnd_2, qOr_1, qOr_2, WbD_bl, Wch_bl, WiD_int, WS_seq, WS_ex, WS_setn, WS_sett, WS_par, WS_aug, Wint_some, WS_sput, WS_saug, WDint_int, WS_iff, WS_for, WS_whl, WS_ret, WS_retN, WS_bad, WS_brk, WS_cnt, WS_pass, W_evT, WS_forget, WO_some, WO_none, Wsl_some, Wb_bl, WO_if, WO_map, WO_bindo, W_slot, W_okr, if_F, F_if, if_and2, if_or2, opD, oAdd, oSub, oMul, oFdv, oMod, oPow, oNeg, oCmp, oEq, oIsN, oIn, inD, oLen, oAll, oAny, oSum, oMn1, oMx1, oMn2, oMx2, oLst, oTup, oDct, oInt, oIdx, oSl, oRev, oJoin, oGet1, oGet2, oIsi, oTab, oLrg, oStr, oInT, oSplit, tabOf, lkT, ofK, oUpper, oLower, oIsup, oIslo, String.reduceEq, Option.isSome_some, List.nodup_cons, isScr, isiB, bls, intsOf, strsOf, eqD_ii, eqD_ss, eqD_bb, eqD_nn, eqD_ni, eqD_ns, eqD_in, eqD_sn, eqD_is, eqD_si, eqD_ll, eqD_tt, eqD_lt, eqD_tl, eqDs_nn, eqDs_cc, eqDs_nc, eqDs_cn, shal_non, shal_bl, shal_int, shal_str, shal_nil, shal_cons, shal_lst, shal_tup, flat, inL, valD, keyD, big_eq, mk, ow_int, ow_str, ow_bl, ow_non, ow_tup, ow_lst, ow_dct, toD_d, toD_lst, toD_dct, quiet_var, quiet_k, quiet_g, quiet_nil, quiet_mv, quiet_fv, quiet_call, quiet_mut, quiet_op, quiet_mop, quiet_slc, quiet_ch, quiet_and, quiet_or, quiet_not, quiet_ite, quiet_lst, quiet_tup, quiet_dic, quiet_lc, quiet_cons, lentE, tyD, mutRule, itD, seqD, at0, at1, at2, at3, at4, at5, at6, at7, atm1, ix0, ix1, ix2, ix3, ix4, arOk, arIx_nil, arIx_sl, arIx_tm, arOs_nil, arOs_sl, arOs_tm, back_nil, back_sl, back_tm, isD, outs_nil, outs_cons, forget_nil, forget_cons, tgSet_n, tgSet_cons, tgSets_nil, tgSets_cons, tgSlots_n, tgSlots_nil, tgSlots_cons, List.set_cons_zero, List.set_cons_succ, List.getElem?_cons_zero, List.getElem?_cons_succ, List.length_cons, List.length_nil, List.length_map, List.map_cons, List.map_nil, List.cons_append, List.nil_append, List.append_nil, List.replicate_succ, List.replicate_zero, List.getLast?_cons_cons, List.getLast?_singleton, List.nodup_cons, List.nodup_nil, List.mem_cons, List.not_mem_nil, List.contains_cons, List.contains_nil, List.all_cons, List.all_nil, decide_true, decide_false, Bool.true_or, Bool.or_true, Bool.false_or, Bool.or_false, Bool.and_true, Bool.true_and, Bool.false_and, Bool.and_false, Bool.not_true, Bool.not_false, Bool.false_bne, Bool.xor_false, Bool.false_xor, Bool.true_xor, Bool.xor_true, beq_iff_eq, bne_iff_ne, decide_eq_true_eq, decide_not, Bool.not_eq_true', Bool.false_eq_true, Bool.true_eq_false, Bool.not_eq_true, decide_eq_false_iff_not, beq_self_eq_true, beq_eq_false_iff_ne, bne_self_eq_false, Bool.and_eq_true, Bool.or_eq_true, true_and, and_true, false_and, and_false, or_false, false_or, or_true, true_or, not_true_eq_false, not_false_eq_true, ne_eq, reduceCtorEq, implies_true, forall_const, Option.some.injEq, exists_eq_left', exists_eq_left, eq_self, if_true, if_false, ↓reduceIte, Nat.reduceAdd, Nat.reduceSub, Nat.reduceMul, Nat.reduceLT, Nat.reduceLeDiff, Nat.reduceEqDiff, Nat.reduceBEq, Nat.zero_add, Nat.succ_eq_add_one, Nat.lt_add_left_iff_pos, Nat.add_lt_add_iff_right, Nat.not_lt_zero, Nat.lt_irrefl, Nat.zero_lt_succ, Nat.one_ne_zero, Nat.add_one_ne_zero, Nat.succ_ne_zero, Nat.reduceSucc, Int.reducePow, Int.reduceMul, Int.reduceAdd, Int.reduceSub, Int.reduceNeg, Int.reduceLT, Int.reduceLE, Int.reduceToNat, Int.reduceNegSucc, Int.reduceEq, Int.reduceNe, Int.cast_ofNat_Int, Int.natCast_zero, Int.natCast_one, Int.reduceBEq, Int.reduceMod, Int.reduceDiv, nat10, cl_one, Option.getD_none, Option.getD_some, $as,*])
/-! ### data compared with itself -/
theorem eqD_cln : ∀ (n : Nat) (d : D), cln n d = true → eqD d d = true := by
  intro n
  induction n with
  | zero =>
    intro d h
    cases d with
    | tup xs => simp [cln] at h
    | lst xs => simp [cln] at h
    | dct xs => simp [cln] at h
    | scr xs => simp [cln] at h
    | _ => simp [eqD]
  | succ n ih =>
    have hl : ∀ xs : List D, clns n xs = true → eqDs xs xs = true := by
      intro xs
      induction xs with
      | nil => intro _; rfl
      | cons x xs ih2 =>
        intro h
        unfold clns at h
        rw [Bool.and_eq_true] at h
        rw [eqDs_cc, ih x h.1, ih2 h.2]; rfl
    intro d h
    cases d with
    | tup xs => simp only [cln, Bool.and_eq_true] at h; exact hl xs h.2
    | lst xs => simp only [cln, Bool.and_eq_true] at h; exact hl xs h.2
    | dct xs => simp [cln] at h
    | scr xs => simp [cln] at h
    | _ => simp [eqD]
theorem shal_cln : ∀ (n : Nat) (d : D), cln n d = true → ∀ m, n ≤ m → shal m d = true := by
  intro n
  induction n with
  | zero =>
    intro d h m hm
    cases d with
    | tup xs => simp [cln] at h
    | lst xs => simp [cln] at h
    | dct xs => simp [cln] at h
    | scr xs => simp [cln] at h
    | non => exact shal_non
    | bl b => exact shal_bl
    | int b => exact shal_int
    | str b => exact shal_str
  | succ n ih =>
    have hl : ∀ (xs : List D) (m : Nat), n ≤ m → clns n xs = true → shals m xs = true := by
      intro xs m hm
      induction xs with
      | nil => intro _; exact shal_nil
      | cons x xs ih2 =>
        intro h
        unfold clns at h
        rw [Bool.and_eq_true] at h
        rw [shal_cons, ih x h.1 m hm, ih2 h.2]; rfl
    intro d h m hm
    obtain ⟨m, rfl⟩ : ∃ j, m = j + 1 := ⟨m - 1, by omega⟩
    cases d with
    | tup xs => simp only [cln, Bool.and_eq_true] at h; rw [shal_tup]; exact hl xs m (by omega) h.2
    | lst xs => simp only [cln, Bool.and_eq_true] at h; rw [shal_lst]; exact hl xs m (by omega) h.2
    | dct xs => simp [cln] at h
    | scr xs => simp [cln] at h
    | non => exact shal_non
    | bl b => exact shal_bl
    | int b => exact shal_int
    | str b => exact shal_str
theorem eq_self_cln {n : Nat} {d : D} (h : cln n d = true) (hn : n ≤ 60) (neg : Bool) : oEq neg [d, d] = some (.bl (neg ^^ true)) := by
  show (if shal 60 d = true ∧ shal 60 d = true then some (D.bl (neg ^^ eqD d d)) else none) = _
  rw [shal_cln n d h 60 hn, eqD_cln n d h, if_pos ⟨rfl, rfl⟩]
end Wx

set_option Elab.async false
set_option linter.all false
set_option maxRecDepth 100000
set_option maxHeartbeats 4000000
namespace Wx
open Vm
local macro_rules | `(tactic| simp_arith [$as,*]) => `(tactic| simp only [e_var, e_mv, e_fv, e_k, e_g, e_opw, e_mop, e_mopv, dfl_k, e_slcV, e_slcE, e_ch, e_and, e_or, e_not, e_ite, e_lst, e_tup, e_dic0, e_dic, q_dic, pairD_nil, pairD_cons, Wdc_some, Wky_int, Wky_str, WS_dput, e_lcw, e_callw, e_mut, m_app, m_ext, m_clr, Wli_some, evAnd_1, evAnd_2, evOr_1, evOr_2, evI_nil, evI_1, evL_nil, evL_var, evL_o, evV_nil, evV_cons, evA_nil, evA_var, evA_o, evTs_nil, evTs_1, Wi_int, q_var, slc_f, slc_t, q_k, q_g, q_op, q_mop, q_slc, q_ch, q_and, q_or, q_not, q_ite, q_lst, q_tup, q_lc, qs_nil, qs_cons, qcs_nil, qcs_cons, qI_nil, qI_cons, qTs_nil, qTs_cons, qAnd_1, qAnd_2, qOr_1, qOr_2, WbD_bl, Wch_bl, WiD_int, WS_seq, WS_ex, WS_setn, WS_sett, WS_par, WS_aug, Wint_some, WS_sput, WS_saug, WDint_int, WS_iff, WS_for, WS_whl, WS_ret, WS_retN, WS_bad, WS_brk, WS_cnt, WS_pass, W_evT, WS_forget, WO_some, WO_none, Wsl_some, Wb_bl, WO_if, WO_map, WO_bindo, W_slot, W_okr, if_F, F_if, if_and2, if_or2, opD, oAdd, oSub, oMul, oFdv, oMod, oPow, oNeg, oCmp, oEq, oIsN, oIn, inD, oLen, oAll, oAny, oSum, oMn1, oMx1, oMn2, oMx2, oLst, oTup, oDct, oInt, oIdx, oSl, oRev, oJoin, oGet1, oGet2, oIsi, oTab, oLrg, oStr, oInT, oSplit, tabOf, lkT, ofK, oUpper, oLower, oIsup, oIslo, String.reduceEq, Option.isSome_some, List.nodup_cons, isScr, isiB, bls, intsOf, strsOf, eqD_ii, eqD_ss, eqD_bb, eqD_nn, eqD_ni, eqD_ns, eqD_in, eqD_sn, eqD_is, eqD_si, eqD_ll, eqD_tt, eqD_lt, eqD_tl, eqDs_nn, eqDs_cc, eqDs_nc, eqDs_cn, shal_non, shal_bl, shal_int, shal_str, shal_nil, shal_cons, shal_lst, shal_tup, flat, inL, valD, keyD, big_eq, mk, ow_int, ow_str, ow_bl, ow_non, ow_tup, ow_lst, ow_dct, toD_d, toD_lst, toD_dct, quiet_var, quiet_k, quiet_g, quiet_nil, quiet_mv, quiet_fv, quiet_call, quiet_mut, quiet_op, quiet_mop, quiet_slc, quiet_ch, quiet_and, quiet_or, quiet_not, quiet_ite, quiet_lst, quiet_tup, quiet_dic, quiet_lc, quiet_cons, lentE, tyD, mutRule, itD, seqD, at0, at1, at2, at3, at4, at5, at6, at7, atm1, ix0, ix1, ix2, ix3, ix4, arOk, arIx_nil, arIx_sl, arIx_tm, arOs_nil, arOs_sl, arOs_tm, back_nil, back_sl, back_tm, isD, outs_nil, outs_cons, forget_nil, forget_cons, tgSet_n, tgSet_cons, tgSets_nil, tgSets_cons, tgSlots_n, tgSlots_nil, tgSlots_cons, List.set_cons_zero, List.set_cons_succ, List.getElem?_cons_zero, List.getElem?_cons_succ, List.length_cons, List.length_nil, List.length_map, List.map_cons, List.map_nil, List.cons_append, List.nil_append, List.append_nil, List.replicate_succ, List.replicate_zero, List.getLast?_cons_cons, List.getLast?_singleton, List.nodup_cons, List.nodup_nil, List.mem_cons, List.not_mem_nil, List.contains_cons, List.contains_nil, List.all_cons, List.all_nil, decide_true, decide_false, Bool.true_or, Bool.or_true, Bool.false_or, Bool.or_false, Bool.and_true, Bool.true_and, Bool.false_and, Bool.and_false, Bool.not_true, Bool.not_false, Bool.false_bne, Bool.xor_false, Bool.false_xor, Bool.true_xor, Bool.xor_true, beq_iff_eq, bne_iff_ne, decide_eq_true_eq, decide_not, Bool.not_eq_true', Bool.false_eq_true, Bool.true_eq_false, Bool.not_eq_true, decide_eq_false_iff_not, beq_self_eq_true, beq_eq_false_iff_ne, bne_self_eq_false, Bool.and_eq_true, Bool.or_eq_true, true_and, and_true, false_and, and_false, or_false, false_or, or_true, true_or, not_true_eq_false, not_false_eq_true, ne_eq, reduceCtorEq, implies_true, forall_const, Option.some.injEq, exists_eq_left', exists_eq_left, eq_self, if_true, if_false, ↓reduceIte, Nat.reduceAdd, Nat.reduceSub, Nat.reduceMul, Nat.reduceLT, Nat.reduceLeDiff, Nat.reduceEqDiff, Nat.reduceBEq, Nat.zero_add, Nat.succ_eq_add_one, Nat.lt_add_left_iff_pos, Nat.add_lt_add_iff_right, Nat.not_lt_zero, Nat.lt_irrefl, Nat.zero_lt_succ, Nat.one_ne_zero, Nat.add_one_ne_zero, Nat.succ_ne_zero, Nat.reduceSucc, Int.reducePow, Int.reduceMul, Int.reduceAdd, Int.reduceSub, Int.reduceNeg, Int.reduceLT, Int.reduceLE, Int.reduceToNat, Int.reduceNegSucc, Int.reduceEq, Int.reduceNe, Int.cast_ofNat_Int, Int.natCast_zero, Int.natCast_one, Int.reduceBEq, Int.reduceMod, Int.reduceDiv, nat10, cl_one, Option.getD_none, Option.getD_some, $as,*])
variable {glob : String → Option D} {pg : Nat → Option Df}
/-- a sign -/
abbrev ch (c : Char) : D := .str (String.ofList [c])
theorem WO_eq {α : Type} {r : Option α} {a : α} (h : @WO _ r ⟨fun y => y = a⟩) : r = some a := by
  cases r with
  | none => exact h.elim
  | some y => exact congrArg some h
theorem qLp_u {α : Type} {f : D → Option (Option D)} {u g : α → D} : ∀ {xs : List α}, (∀ a ∈ xs, f (u a) = some (some (g a))) → qLp f (xs.map u) = some (xs.map g)
  | [], _ => rfl
  | x :: xs, h => by
    rw [List.map_cons, qLp, h x List.mem_cons_self, qLp_u fun y hy => h y (List.mem_cons_of_mem _ hy)]
    rfl
theorem in_ch {neg : Bool} {c : Char} {L : String} : oIn neg [ch c, .str L] = some (.bl (neg ^^ decide (c ∈ L.toList))) := by
  unfold oIn inD ch
  simp only [String.toList_ofList]
theorem bls_u {α : Type} {p : α → Bool} : ∀ {xs : List α}, bls (xs.map fun a => .bl (p a)) = some (xs.map p)
  | [] => rfl
  | x :: xs => by rw [List.map_cons, bls, bls_u]; rfl
theorem all_u {α : Type} {p : α → Bool} {xs : List α} : oAll [.lst (xs.map fun a => .bl (p a))] = some (.bl (xs.all p)) := by
  rw [oAll, bls_u, Option.map_some, List.all_map]; rfl
theorem seq_str {s : String} : seqD (.str s) = some (s.toList.map ch) := rfl
def allIn (t L : String) : Bool := t.toList.all fun c => decide (c ∈ L.toList)
def isOf (t L : String) : Bool := decide (1 ≤ (t.length : Int) ∧ (t.length : Int) ≤ 8) && allIn t L
theorem len_list (t : String) : t.toList.length = t.length := String.length_toList
theorem is_of_ok (hp : Has pg [1]) (hg : glob "LONGEST" = some (.int 8)) (k : Nat) (t L : String) (ht : t.length ≤ 16777216) : @WC (run glob pg (k + 1) 1 [.d (.str t), .d (.str L)]) ⟨fun o ts => o = .d (.bl (isOf t L)) ∧ ts = [.d (.str t), .d (.str L)]⟩ ⟨fun _ _ => False⟩ := by
  refine run_ok (hp.at 1 df1 rfl rfl) rfl rfl ?_
  have hx : ∀ G : Gs, qLp (lcQ G (.op .inn (.cons (.var 2) (.cons (.var 1) .nil))) (.n 2) .nil [some (.d (.str t)), some (.d (.str L)), none]) (t.toList.map ch) = some (t.toList.map fun c => .bl (decide (c ∈ L.toList))) := by
    intro G
    refine qLp_u fun c _ => WO_eq ?_
    simp_arith [WO_lcQ, String.toList_ofList]
  simp_arith [b1, b1_1, hg, ht, seq_str, hx, all_u, List.length_map, len_list]
  by_cases h : 1 ≤ (t.length : Int) ∧ (t.length : Int) ≤ 8
  · simp_arith [h, hx, bls_u, List.all_map]
    rw [isOf, decide_eq_true h]; rfl
  · rw [if_neg h, isOf, decide_eq_false h]; rfl

theorem is_small_ok (hp : Has pg [1, 2]) (hg : glob "LONGEST" = some (.int 8)) (hs : glob "SMALL" = some (.str "abcdefghijklmnopqrstuvwxyz")) (k : Nat) (t : String) (ht : t.length ≤ 16777216) : @WC (run glob pg (k + 2) 2 [.d (.str t)]) ⟨fun o ts => o = .d (.bl (isOf t "abcdefghijklmnopqrstuvwxyz")) ∧ ts = [.d (.str t)]⟩ ⟨fun _ _ => False⟩ := by
  refine run_ok (hp.at 2 df2 rfl rfl) rfl rfl ?_
  simp_arith [b2, b2_1, hs]
  refine WC_of (is_of_ok (hp.sub rfl) hg k t _ ht) ?_
  rintro o ts ⟨rfl, rfl⟩
  simp_arith []
theorem is_great_ok (hp : Has pg [1, 3]) (hg : glob "LONGEST" = some (.int 8)) (hs : glob "GREAT" = some (.str "ABCDEFGHIJKLMNOPQRSTUVWXYZ")) (k : Nat) (t : String) (ht : t.length ≤ 16777216) : @WC (run glob pg (k + 2) 3 [.d (.str t)]) ⟨fun o ts => o = .d (.bl (isOf t "ABCDEFGHIJKLMNOPQRSTUVWXYZ")) ∧ ts = [.d (.str t)]⟩ ⟨fun _ _ => False⟩ := by
  refine run_ok (hp.at 3 df3 rfl rfl) rfl rfl ?_
  simp_arith [b3, b3_1, hs]
  refine WC_of (is_of_ok (hp.sub rfl) hg k t _ ht) ?_
  rintro o ts ⟨rfl, rfl⟩
  simp_arith []
/-- a draw that stays below a number of things -/
theorem at_mem {xs : List D} {r : Int} (h0 : 0 ≤ r) (h1 : r < xs.length) (h2 : xs.length < 9223372036854775808) : ∃ d ∈ xs, at? xs r = some d := by
  obtain ⟨p, rfl⟩ := Int.eq_ofNat_of_zero_le h0
  refine ⟨xs[p]'(by omega), List.getElem_mem _, ?_⟩
  rw [atN (by omega), List.getElem?_eq_getElem]
theorem chr_mem {xs : List Char} {r : Int} (h0 : 0 ≤ r) (h1 : r < xs.length) (h2 : xs.length < 9223372036854775808) : ∃ d ∈ xs, chr? xs r = some d := by
  obtain ⟨p, rfl⟩ := Int.eq_ofNat_of_zero_le h0
  refine ⟨xs[p]'(by omega), List.getElem_mem _, ?_⟩
  unfold chr?
  rw [if_pos h0, if_pos (by omega), Int.toNat_natCast, List.getElem?_eq_getElem]
def signs : String := " !\"#$&'()*+,-./0123456789:;<=>?@ABCDEFGHIJKLMNOPQRSTUVWXYZ[\\]^_`abcdefghijklmnopqrstuvwxyz{|}~\n"
theorem sign_ok (hp : Has pg [5, 7]) (k : Nat) (x : Bx) (h : x.Ok) : @WC (run glob pg (k + 2) 7 [x.o]) ⟨fun o ts => ∃ (y : Bx) (c : Char), y.Ok ∧ o = .d (ch c) ∧ ts = [y.o]⟩ ⟨fun _ _ => False⟩ := by
  refine run_ok (hp.at 7 df7 rfl rfl) rfl rfl ?_
  have hl : (" !\"#$&'()*+,-./0123456789:;<=>?@ABCDEFGHIJKLMNOPQRSTUVWXYZ[\\]^_`abcdefghijklmnopqrstuvwxyz{|}~\n" : String) = signs := rfl
  have hn : signs.length = 95 := by decide
  simp_arith [b7, b7_1, b7_2, hl, hn]
  refine WC_of (take_ok (hp.sub rfl) k x h 95 (by decide) (by decide)) ?_
  rintro o ts ⟨y, r, hy, h0, h1, rfl, rfl⟩
  obtain ⟨c, _, hc⟩ := chr_mem (xs := signs.toList) h0 (by rw [len_list, hn]; exact h1) (by rw [len_list, hn]; decide)
  simp_arith [hn, hc]
  exact ⟨y, c, hy, rfl, rfl⟩
theorem strs_u : ∀ {cs : List Char}, strsOf (cs.map ch) = some (cs.map fun c => String.ofList [c])
  | [] => rfl
  | c :: cs => by rw [List.map_cons, strsOf, strs_u]; rfl
theorem join_u : ∀ {cs : List Char}, joinS "" (cs.map fun c => String.ofList [c]) = String.ofList cs
  | [] => rfl
  | [c] => rfl
  | c :: d :: cs => by
    have := join_u (cs := d :: cs)
    simp only [List.map_cons] at this ⊢
    rw [joinS, this]
    apply String.toList_injective
    simp
theorem sum_u : ∀ {cs : List Char}, ((cs.map fun c => String.ofList [c]).map String.length).sum = cs.length
  | [] => rfl
  | c :: cs => by rw [List.map_cons, List.map_cons, List.sum_cons, sum_u]; simp; omega
theorem range_len : ∀ (a : Int) (n : Nat), (rangeD a n).length = n
  | _, 0 => rfl
  | a, n + 1 => by unfold rangeD; rw [List.length_cons, range_len]
theorem cut_len {α : Type} (xs : List α) (i j : Nat) : (cut xs i j).length ≤ xs.length := by
  unfold cut
  rw [List.length_take, List.length_drop]; omega
theorem text_ok (hp : Has pg [5, 7, 8]) (k : Nat) (x : Bx) (h : x.Ok) : @WC (run glob pg (k + 3) 8 [x.o]) ⟨fun o ts => ∃ (y : Bx) (t : String), y.Ok ∧ t.length ≤ 30 ∧ o = .d (.str t) ∧ ts = [y.o]⟩ ⟨fun _ _ => False⟩ := by
  refine run_ok (hp.at 8 df8 rfl rfl) rfl rfl ?_
  simp_arith [b8, b8_1]
  refine WC_of (take_ok (hp.sub rfl) (k + 1) x h 2 (by decide) (by decide)) ?_
  rintro o ts ⟨y, r, hy, h0, h1, rfl, rfl⟩
  obtain ⟨L, hL, hat⟩ : ∃ L : String, L.length = 26 ∧ at? [D.str "abcdefghijklmnopqrstuvwxyz", D.str "ABCDEFGHIJKLMNOPQRSTUVWXYZ"] r = some (.str L) := by
    obtain rfl | rfl : r = 0 ∨ r = 1 := by omega
    · exact ⟨_, by decide, at0⟩
    · exact ⟨_, by decide, at1⟩
  simp_arith [hat, b8_2]
  refine WC_of (take_ok (hp.sub rfl) (k + 1) y hy 11 (by decide) (by decide)) ?_
  rintro o ts ⟨y, n, hy, n0, n1, rfl, rfl⟩
  simp_arith []
  refine ⟨by omega, by rw [range_len]; omega, lc_inv (fun rest ys e => ∃ (z : Bx) (cs : List Char), z.Ok ∧ ys = cs.map ch ∧ cs.length + rest.length ≤ 10 ∧ e = [some z.o, some (O.d (.str L)), none, none, none]) ?_ ?_ ⟨y, [], hy, rfl, by rw [range_len, List.length_nil]; omega, rfl⟩⟩
  · rintro d rest ys e ⟨z, cs, hz, rfl, hl, rfl⟩
    simp_arith [hL]
    refine WC_of (take_ok (hp.sub rfl) (k + 1) z hz 26 (by decide) (by decide)) ?_
    rintro o ts ⟨z, r, hz, h0, h1, rfl, rfl⟩
    obtain ⟨c, _, hc⟩ := chr_mem (xs := L.toList) h0 (by rw [len_list, hL]; exact h1) (by rw [len_list, hL]; decide)
    simp_arith [hL, hc]
    exact ⟨z, cs ++ [c], hz, by rw [List.map_append]; rfl, by rw [List.length_append, List.length_singleton]; rw [List.length_cons] at hl; omega, rfl⟩
  · rintro ys e ⟨y, cs, hy, rfl, hl, rfl⟩
    rw [List.length_nil] at hl
    have hb : cs.length * 0 + ((cs.map fun c => String.ofList [c]).map String.length).sum ≤ 16777216 := by rw [sum_u]; omega
    simp_arith [strs_u, List.length_map, String.length_empty, hb, join_u, b8_3]
    refine WC_of (take_ok (hp.sub rfl) (k + 1) y hy 2 (by decide) (by decide)) ?_
    rintro o ts ⟨y, r, hy, h0, h1, rfl, rfl⟩
    have ht : (String.ofList cs).length ≤ 10 := by rw [String.length_ofList]; omega
    generalize String.ofList cs = t at ht
    by_cases hr : r = 0
    · simp_arith [hr, b8_3t_1, b8_3t_2]
      refine ⟨by omega, WC_of (take_ok (hp.sub rfl) (k + 1) y hy _ (by omega) (by omega)) ?_⟩
      rintro o ts ⟨y, a, hy, a0, a1, rfl, rfl⟩
      simp_arith []
      refine ⟨by omega, WC_of (sign_ok (hp.sub rfl) k y hy) ?_⟩
      rintro o ts ⟨y, c, hy, rfl, rfl⟩
      simp_arith []
      have c1 := cut_len (t.toList) (loN t.length none) (hiN t.length (some a))
      rw [len_list] at c1
      refine ⟨by simp only [String.length_ofList, List.length_singleton]; omega, ?_⟩
      refine WC_of (take_ok (hp.sub rfl) (k + 1) y hy 2 (by decide) (by decide)) ?_
      rintro o ts ⟨y, b, hy, b0, b1, rfl, rfl⟩
      simp_arith [b8_4]
      have c2 := cut_len (t.toList) (loN t.length (some (a + b))) (hiN t.length none)
      rw [len_list] at c2
      refine ⟨by omega, by simp only [String.length_append, String.length_ofList, List.length_singleton]; omega, y, _, hy, ?_, rfl, rfl⟩
      simp only [String.length_append, String.length_ofList, List.length_singleton]; omega
    · simp_arith [hr, b8_4]
      exact ⟨y, t, hy, by omega, rfl, rfl⟩

def seenB (a : Bool) : D := .bl a
theorem law_k01_ok (hp : Has pg [1, 2, 3, 4, 5, 6, 7, 8, 9]) (hg : glob "LONGEST" = some (.int 8)) (hs : glob "SMALL" = some (.str "abcdefghijklmnopqrstuvwxyz")) (hG : glob "GREAT" = some (.str "ABCDEFGHIJKLMNOPQRSTUVWXYZ"))
    (ns : List Int) (hn : ns.length ≤ 63) : @WC (run glob pg 10 9 [.d (.scr ns)]) ⟨fun o ts => o = .d (.bl true)⟩ ⟨fun _ _ => False⟩ := by
  refine run_ok (hp.at 9 df9 rfl rfl) rfl rfl ?_
  simp_arith [b9, b9_1]
  refine WC_of (box_ok (hp.sub rfl) 8 ns hn) ?_
  rintro o ts ⟨x, hx, rfl, rfl⟩
  simp_arith [b9_2]
  have hcx : ∀ (G : Gs) (e : Env) (t L : String), e.length = 8 → qLp (lcQ G (.op .inn (.cons (.var 7) (.cons (.k (.str L)) .nil))) (.n 7) .nil e) (t.toList.map ch) = some (t.toList.map fun c => .bl (decide (c ∈ L.toList))) := by
    intro G e t L he
    match e, he with
    | [e0, e1, e2, e3, e4, e5, e6, e7], _ =>
    refine qLp_u fun c _ => WO_eq ?_
    simp_arith [WO_lcQ, String.toList_ofList]
  refine for_inv (fun rest e => ∃ x : Bx, x.Ok ∧ e = [some (.d (.scr ns)), some x.o, none, none, none, none, none, none]) ?_ ?_ ⟨x, hx, rfl⟩
  · rintro d rest e ⟨x, hx, rfl⟩
    simp_arith [b9_2b_1]
    refine WC_of (text_ok (hp.sub rfl) 6 x hx) ?_
    rintro o ts ⟨x, t, hx, ht, rfl, rfl⟩
    simp_arith [b9_2b_2, b9_2b_3, b9_2b_4, b9_2b_5, seq_str, hcx, bls_u, List.all_map, len_list]
    refine ⟨by omega, by omega, by omega, ?_⟩
    refine WC_of (is_small_ok (hp.sub rfl) hg hs 7 t (by omega)) ?_
    rintro o ts ⟨rfl, rfl⟩
    have of_t : ∀ L, allIn t L = true → isOf t L = (decide (1 ≤ (t.length : Int)) && decide ((t.length : Int) ≤ 8)) := fun L h => by rw [isOf, h, Bool.and_true, Bool.decide_and]
    have of_f : ∀ L, allIn t L = false → isOf t L = false := fun L h => by rw [isOf, h, Bool.and_false]
    have all_e : ∀ L, (t.toList.all (id ∘ fun a => decide (a ∈ L.toList))) = allIn t L := fun L => rfl
    have fin1 : ∀ {b1 b2 : Bool} {Q : O → List O → Prop} {X : Ex → List O → Prop}, b1 = b2 → Q (.d (.bl true)) [.d (.bl b1), .d (.bl b2)] → @WC (run glob pg 9 6 [.d (.bl b1), .d (.bl b2)]) ⟨Q⟩ ⟨X⟩ := by
      rintro b1 _ Q X rfl hq
      refine WC_of (same_sc (hp.sub rfl) (.bl b1) rfl 8 _ _ rfl rfl) ?_
      rintro o ts ⟨rfl, t1, t2, rfl, _, _, h3, h4⟩
      rw [h3 rfl, h4 rfl]
      exact hq
    simp_arith []
    split <;> (
      rename_i hA
      refine fin1 (by first | exact of_t _ hA | exact of_f _ (Bool.eq_false_iff.mpr hA)) ?_
      simp_arith []
      refine WC_of (is_great_ok (hp.sub rfl) hg hG 7 t (by omega)) ?_
      rintro o ts ⟨rfl, rfl⟩
      simp_arith []
      split <;> (
        rename_i hB
        refine fin1 (by first | exact of_t _ hB | exact of_f _ (Bool.eq_false_iff.mpr hB)) ?_
        simp_arith []
        exact ⟨x, hx, rfl⟩))
  · rintro e ⟨x, hx, rfl⟩
    simp_arith [b9_3]
    refine WC_of (is_small_ok (hp.sub rfl) hg hs 7 "" (by decide)) ?_
    rintro o ts ⟨rfl, rfl⟩
    simp_arith []
    refine WC_of (is_great_ok (hp.sub rfl) hg hG 7 "" (by decide)) ?_
    rintro o ts ⟨rfl, rfl⟩
    simp_arith [show isOf "" "abcdefghijklmnopqrstuvwxyz" = false from by decide, show isOf "" "ABCDEFGHIJKLMNOPQRSTUVWXYZ" = false from by decide]
    refine WC_of (same_ok (hp.sub rfl) 1 (.lst [.bl false, .bl false]) rfl 7 _ _ rfl rfl) ?_
    rintro o ts ⟨rfl, t1, t2, rfl, _⟩
    simp_arith []
end Wx

set_option Elab.async false
set_option linter.all false
set_option maxRecDepth 100000
set_option maxHeartbeats 4000000
namespace Wx
open Vm
local macro_rules | `(tactic| simp_arith [$as,*]) => `(tactic| simp only [e_var, e_mv, e_fv, e_k, e_g, e_opw, e_mop, e_mopv, dfl_k, e_slcV, e_slcE, e_ch, e_and, e_or, e_not, e_ite, e_lst, e_tup, e_dic0, e_dic, q_dic, pairD_nil, pairD_cons, Wdc_some, Wky_int, Wky_str, WS_dput, e_lcw, e_callw, e_mut, m_app, m_ext, m_clr, Wli_some, evAnd_1, evAnd_2, evOr_1, evOr_2, evI_nil, evI_1, evL_nil, evL_var, evL_o, evV_nil, evV_cons, evA_nil, evA_var, evA_o, evTs_nil, evTs_1, Wi_int, q_var, slc_f, slc_t, q_k, q_g, q_op, q_mop, q_slc, q_ch, q_and, q_or, q_not, q_ite, q_lst, q_tup, q_lc, qs_nil, qs_cons, qcs_nil, qcs_cons, qI_nil, qI_cons, qTs_nil, qTs_cons, qAnd_1, qAnd_2, qOr_1, qOr_2, WbD_bl, Wch_bl, WiD_int, WS_seq, WS_ex, WS_setn, WS_sett, WS_par, WS_aug, Wint_some, WS_sput, WS_saug, WDint_int, WS_iff, WS_for, WS_whl, WS_ret, WS_retN, WS_bad, WS_brk, WS_cnt, WS_pass, W_evT, WS_forget, WO_some, WO_none, Wsl_some, Wb_bl, WO_if, WO_map, WO_bindo, W_slot, W_okr, if_F, F_if, if_and2, if_or2, opD, oAdd, oSub, oMul, oFdv, oMod, oPow, oNeg, oCmp, oEq, oIsN, oIn, inD, oLen, oAll, oAny, oSum, oMn1, oMx1, oMn2, oMx2, oLst, oTup, oDct, oInt, oIdx, oSl, oRev, oJoin, oGet1, oGet2, oIsi, oTab, oLrg, oStr, oInT, oSplit, tabOf, lkT, ofK, oUpper, oLower, oIsup, oIslo, String.reduceEq, Option.isSome_some, List.nodup_cons, isScr, isiB, bls, intsOf, strsOf, eqD_ii, eqD_ss, eqD_bb, eqD_nn, eqD_ni, eqD_ns, eqD_in, eqD_sn, eqD_is, eqD_si, eqD_ll, eqD_tt, eqD_lt, eqD_tl, eqDs_nn, eqDs_cc, eqDs_nc, eqDs_cn, shal_non, shal_bl, shal_int, shal_str, shal_nil, shal_cons, shal_lst, shal_tup, flat, inL, valD, keyD, big_eq, mk, ow_int, ow_str, ow_bl, ow_non, ow_tup, ow_lst, ow_dct, toD_d, toD_lst, toD_dct, quiet_var, quiet_k, quiet_g, quiet_nil, quiet_mv, quiet_fv, quiet_call, quiet_mut, quiet_op, quiet_mop, quiet_slc, quiet_ch, quiet_and, quiet_or, quiet_not, quiet_ite, quiet_lst, quiet_tup, quiet_dic, quiet_lc, quiet_cons, lentE, tyD, mutRule, itD, seqD, at0, at1, at2, at3, at4, at5, at6, at7, atm1, ix0, ix1, ix2, ix3, ix4, arOk, arIx_nil, arIx_sl, arIx_tm, arOs_nil, arOs_sl, arOs_tm, back_nil, back_sl, back_tm, isD, outs_nil, outs_cons, forget_nil, forget_cons, tgSet_n, tgSet_cons, tgSets_nil, tgSets_cons, tgSlots_n, tgSlots_nil, tgSlots_cons, List.set_cons_zero, List.set_cons_succ, List.getElem?_cons_zero, List.getElem?_cons_succ, List.length_cons, List.length_nil, List.length_map, List.map_cons, List.map_nil, List.cons_append, List.nil_append, List.append_nil, List.replicate_succ, List.replicate_zero, List.getLast?_cons_cons, List.getLast?_singleton, List.nodup_cons, List.nodup_nil, List.mem_cons, List.not_mem_nil, List.contains_cons, List.contains_nil, List.all_cons, List.all_nil, decide_true, decide_false, Bool.true_or, Bool.or_true, Bool.false_or, Bool.or_false, Bool.and_true, Bool.true_and, Bool.false_and, Bool.and_false, Bool.not_true, Bool.not_false, Bool.false_bne, Bool.xor_false, Bool.false_xor, Bool.true_xor, Bool.xor_true, beq_iff_eq, bne_iff_ne, decide_eq_true_eq, decide_not, Bool.not_eq_true', Bool.false_eq_true, Bool.true_eq_false, Bool.not_eq_true, decide_eq_false_iff_not, beq_self_eq_true, beq_eq_false_iff_ne, bne_self_eq_false, Bool.and_eq_true, Bool.or_eq_true, true_and, and_true, false_and, and_false, or_false, false_or, or_true, true_or, not_true_eq_false, not_false_eq_true, ne_eq, reduceCtorEq, implies_true, forall_const, Option.some.injEq, exists_eq_left', exists_eq_left, eq_self, if_true, if_false, ↓reduceIte, Nat.reduceAdd, Nat.reduceSub, Nat.reduceMul, Nat.reduceLT, Nat.reduceLeDiff, Nat.reduceEqDiff, Nat.reduceBEq, Nat.zero_add, Nat.succ_eq_add_one, Nat.lt_add_left_iff_pos, Nat.add_lt_add_iff_right, Nat.not_lt_zero, Nat.lt_irrefl, Nat.zero_lt_succ, Nat.one_ne_zero, Nat.add_one_ne_zero, Nat.succ_ne_zero, Nat.reduceSucc, Int.reducePow, Int.reduceMul, Int.reduceAdd, Int.reduceSub, Int.reduceNeg, Int.reduceLT, Int.reduceLE, Int.reduceToNat, Int.reduceNegSucc, Int.reduceEq, Int.reduceNe, Int.cast_ofNat_Int, Int.natCast_zero, Int.natCast_one, Int.reduceBEq, Int.reduceMod, Int.reduceDiv, nat10, cl_one, Option.getD_none, Option.getD_some, $as,*])
variable {glob : String → Option D} {pg : Nat → Option Df}
abbrev SM : String := "abcdefghijklmnopqrstuvwxyz"
abbrev GR : String := "ABCDEFGHIJKLMNOPQRSTUVWXYZ"
def alph (g : Bool) : String := if g = true then GR else SM
theorem alph_len (g : Bool) : (alph g).toList.length = 26 := by cases g <;> decide
theorem alph_nd (g : Bool) : (alph g).toList.Nodup := by cases g <;> decide
/-- the letter of a number -/
def lt (g : Bool) (n : Int) : Char := (alph g).toList.getD n.toNat 'a'
theorem lt_at {g : Bool} {n : Int} (h0 : 0 ≤ n) (h1 : n < 26) : chr? (alph g).toList n = some (lt g n) := by
  obtain ⟨p, rfl⟩ := Int.eq_ofNat_of_zero_le h0
  unfold chr? lt
  have hl := alph_len g
  rw [if_pos h0, if_pos (by omega), Int.toNat_natCast, List.getD_eq_getElem?_getD, List.getElem?_eq_getElem (by omega)]
  rfl
theorem lt_mem {g : Bool} {n : Int} (h0 : 0 ≤ n) (h1 : n < 26) : lt g n ∈ (alph g).toList := by
  obtain ⟨p, rfl⟩ := Int.eq_ofNat_of_zero_le h0
  have hl := alph_len g
  unfold lt
  rw [Int.toNat_natCast, List.getD_eq_getElem?_getD, List.getElem?_eq_getElem (by omega)]
  exact List.getElem_mem _
theorem lt_inj {g : Bool} {n m : Int} (h0 : 0 ≤ n) (h1 : n < 26) (k0 : 0 ≤ m) (k1 : m < 26) (h : lt g n = lt g m) : n = m := by
  obtain ⟨p, rfl⟩ := Int.eq_ofNat_of_zero_le h0
  obtain ⟨q, rfl⟩ := Int.eq_ofNat_of_zero_le k0
  have key : ∀ g : Bool, ∀ p, p < 26 → ∀ q, q < 26 → (alph g).toList.getD p 'a' = (alph g).toList.getD q 'a' → p = q := by decide +kernel
  have := key g p (by omega) q (by omega) h
  omega
def Row (ns : List Int) : Prop := ∀ n ∈ ns, 0 ≤ n ∧ n < 26
def wordOf (g : Bool) (ns : List Int) : String := String.ofList (ns.map (lt g))
theorem word_len (g : Bool) (ns : List Int) : (wordOf g ns).length = ns.length := by unfold wordOf; rw [String.length_ofList, List.length_map]
theorem word_is {g : Bool} {ns : List Int} (h : Row ns) (h1 : 1 ≤ ns.length) (h2 : ns.length ≤ 8) : isOf (wordOf g ns) (alph g) = true := by
  unfold isOf
  rw [word_len, decide_eq_true (by omega), Bool.true_and]
  unfold allIn wordOf
  rw [String.toList_ofList, List.all_map, List.all_eq_true]
  intro n hn
  exact decide_eq_true (lt_mem (h n hn).1 (h n hn).2)
/-- the j-th name bears this letter at the place -/
def Marked (g : Bool) (place : Nat) (f : Int) (ys : List String) : Prop := ∀ j (h : j < ys.length), (ys[j]).toList[place]? = some (lt g ((f + 11 * j) % 26))
structure NamesOk (g : Bool) (ys : List String) : Prop where
  nd : ys.Nodup
  nm : ∀ y ∈ ys, isOf y (alph g) = true
theorem marked_new {g : Bool} {place : Nat} {f : Int} {ys : List String} {y : String} (h : Marked g place f ys) (hl : ys.length < 26) (hy : y.toList[place]? = some (lt g ((f + 11 * (ys.length : Nat)) % 26))) : y ∉ ys ∧ Marked g place f (ys ++ [y]) := by
  constructor
  · intro hm
    obtain ⟨j, hj, rfl⟩ := List.getElem_of_mem hm
    have e := (h j hj).symm.trans hy
    have := lt_inj (g := g) (by omega) (by omega) (by omega) (by omega) (Option.some.inj e)
    omega
  · intro j hj
    rw [List.length_append, List.length_singleton] at hj
    by_cases c : j < ys.length
    · rw [List.getElem_append_left c]; exact h j c
    · have : j = ys.length := by omega
      subst this
      rw [List.getElem_append_right (Nat.le_refl _)]
      simpa using hy
def intL (ns : List Int) : List D := ns.map .int
/-- a comprehension of draws -/
theorem draws_ok {G : Gs} {k : Nat} (hG : G = ⟨run glob pg (k + 1), glob⟩) (hp : Has pg [5]) {n : Nat} {x : Bx} (hx : x.Ok) {rest : Env} {i : Nat} {X : Ex → Env → Prop} {Q : List D → Env → Prop} (hi : rest[i]? = some none)
    (h : ∀ (y : Bx) (ns : List Int), y.Ok → Row ns → ns.length = n → Q (intL ns) (some y.o :: rest)) (m : Int) :
    @WE _ (lcLp (lcE G (.call 5 (.cons (.var 0) (.cons (.k (.int 26)) .nil))) (.n (i + 1)) .nil) (rangeD m n) (some x.o :: rest)).nox ⟨Q⟩ ⟨X⟩ := by
  subst hG
  have hil : i < rest.length := (List.getElem?_eq_some_iff.mp hi).1
  have hset : ∀ d : Option O, (rest.set i d).set i none = rest := by
    intro d
    rw [List.set_set]
    apply List.ext_getElem?
    intro j
    by_cases c : j = i
    · subst c; rw [List.getElem?_set_self hil, hi]
    · rw [List.getElem?_set_ne (by omega)]
  refine lc_inv (fun left ys e => ∃ (y : Bx) (ns : List Int), y.Ok ∧ Row ns ∧ ys = intL ns ∧ ns.length + left.length = n ∧ e = some y.o :: rest) ?_ ?_ ⟨x, [], hx, (fun _ h => by cases h), rfl, by rw [range_len]; simp, rfl⟩
  · rintro d left ys e ⟨y, ns, hy, hr, rfl, hl, rfl⟩
    rw [List.length_cons] at hl
    simp_arith [Nat.add_lt_add_iff_right, hil]
    refine WC_of (take_ok hp k y hy 26 (by decide) (by decide)) ?_
    rintro o ts ⟨y, r, hy, h0, h1, rfl, rfl⟩
    simp_arith [hset]
    refine ⟨y, ns ++ [r], hy, ?_, by unfold intL; rw [List.map_append]; rfl, by rw [List.length_append, List.length_singleton]; omega, rfl⟩
    intro z hz
    rcases List.mem_append.mp hz with hz | hz
    · exact hr z hz
    · rw [List.mem_singleton.mp hz]; exact ⟨h0, h1⟩
  · rintro ys e ⟨y, ns, hy, hr, rfl, hl, rfl⟩
    exact h y ns hy hr (by simpa using hl)

/-- the letters that a word is made of -/
theorem word_lc {G : Gs} {e : Env} {g : Bool} {ns : List Int} (hr : Row ns) (hl : e.length = 13) (h3 : e[3]? = some (some (.d (.str (alph g))))) :
    qLp (lcQ G (.op .idx (.cons (.var 3) (.cons (.var 12) .nil))) (.n 12) .nil e) (intL ns) = some ((ns.map (lt g)).map ch) := by
  unfold intL
  rw [List.map_map]
  refine qLp_u fun n hn => WO_eq ?_
  match e, hl with
  | [e0, e1, e2, e3, e4, e5, e6, e7, e8, e9, e10, e11, e12], _ =>
  simp only [List.getElem?_cons_succ, List.getElem?_cons_zero, Option.some.injEq] at h3
  subst h3
  have hc := lt_at (g := g) (hr n hn).1 (hr n hn).2
  have hn : (alph g).length = 26 := by rw [← len_list]; exact alph_len g
  simp_arith [WO_lcQ, hc, hn, Function.comp]
theorem names_ok (hp : Has pg [5, 12]) (k : Nat) (x : Bx) (h : x.Ok) (m : Nat) (hm : m ≤ 25) (g : Bool) : @WC (run glob pg (k + 2) 12 [x.o, .d (.int m), .d (.bl g)]) ⟨fun o ts => ∃ (y : Bx) (ys : List String), y.Ok ∧ ys.length = m ∧ NamesOk g ys ∧ o = .lst (ys.map .str) ∧ ts = [y.o, .d (.int m), .d (.bl g)]⟩ ⟨fun _ _ => False⟩ := by
  refine run_ok (hp.at 12 df12 rfl rfl) rfl rfl ?_
  have hat : at? [D.str SM, D.str GR] (if g = true then 1 else 0) = some (.str (alph g)) := by
    cases g
    · exact at0
    · exact at1
  simp_arith [b12, b12_1, hat, b12_2]
  refine WC_of (take_ok (hp.sub rfl) k x h 8 (by decide) (by decide)) ?_
  rintro o ts ⟨x, s, h, s0, s1, rfl, rfl⟩
  obtain ⟨s, rfl⟩ := Int.eq_ofNat_of_zero_le s0
  simp_arith [b12_3]
  refine WC_of (take_ok (hp.sub rfl) k x h (1 + s) (by omega) (by omega)) ?_
  rintro o ts ⟨x, p, h, p0, p1, rfl, rfl⟩
  obtain ⟨p, rfl⟩ := Int.eq_ofNat_of_zero_le p0
  simp_arith [b12_4]
  refine ⟨by omega, by rw [range_len]; omega, draws_ok rfl (hp.sub rfl) h (i := 6) rfl ?_ 0⟩
  intro x fs h hf hfl
  simp_arith [b12_5, intL]
  refine WC_of (take_ok (hp.sub rfl) k x h 2 (by decide) (by decide)) ?_
  rintro o ts ⟨x, al, h, al0, al1, rfl, rfl⟩
  have hfp : p < fs.length := by omega
  have hf8 : fs.length ≤ 8 := by omega
  simp_arith [b12_6, b12_7]
  refine ⟨by omega, for_inv (fun rest e => ∃ (x : Bx) (ys : List String) (n : Nat), x.Ok ∧ rest = rangeD ys.length n ∧ ys.length + n = m ∧ NamesOk g ys ∧ Marked g p fs[p] ys ∧
    e = [some x.o, some (.d (.int m)), some (.d (.bl g)), some (.d (.str (alph g))), some (.d (.int (1 + s))), some (.d (.int p)), some (.lst (fs.map .int)), none, some (.d (.bl (al == 0))), some (.lst (ys.map .str)), none, none, none]) ?_ ?_ ?_⟩
  · rintro d rest e ⟨x, ys, n, h, hr, hn, hno, hma, rfl⟩
    match n, hr with
    | n + 1, hr =>
      unfold rangeD at hr
      cases hr
      simp_arith [b12_7b_1]
      refine ws_cut (fun e => ∃ (x : Bx) (row : List Int), x.Ok ∧ Row row ∧ p < row.length ∧ row.length ≤ 8 ∧ e = [some x.o, some (.d (.int m)), some (.d (.bl g)), some (.d (.str (alph g))), some (.d (.int (1 + s))), some (.d (.int p)), some (.lst (fs.map .int)), some (.d (.int ys.length)), some (.d (.bl (al == 0))), some (.lst (ys.map .str)), some (.lst (row.map .int)), none, none]) ?_ ?_
      · simp_arith [b12_7b_2, b12_7b_2t_1]
        by_cases hal : al = 0
        · rw [if_neg (fun z => z hal)]
          exact ⟨x, fs, h, hf, hfp, hf8, rfl⟩
        · rw [if_pos hal]
          refine WC_of (take_ok (hp.sub rfl) k x h _ (by omega) (by omega)) ?_
          rintro o ts ⟨x, t, h, t0, t1, rfl, rfl⟩
          simp_arith []
          refine ⟨by omega, by rw [range_len]; omega, draws_ok rfl (hp.sub rfl) h (i := 10) rfl ?_ 0⟩
          intro x row h hrow hlr
          simp_arith [intL]
          exact ⟨x, row, h, hrow, by omega, by omega, rfl⟩
      · rintro e ⟨x, row, h, hrow, hp1, hp2, rfl⟩
        have hix : ixD (row.map D.int).length (p : Int) = some p := ixN (by rw [List.length_map]; exact hp1)
        rw [List.length_map] at hix
        simp_arith [b12_7b_3, at_some hfp (by omega), hix]
        refine ⟨mul_l (by decide), ?_⟩
        have hset : (List.map D.int row).set p (D.int ((fs[p] + 11 * (ys.length : Int)) % 26)) = intL (row.set p ((fs[p] + 11 * (ys.length : Int)) % 26)) := by unfold intL; rw [List.map_set]
        have hv : 0 ≤ (fs[p] + 11 * (ys.length : Int)) % 26 ∧ (fs[p] + 11 * (ys.length : Int)) % 26 < 26 := by omega
        rw [hset]
        have hrow2 : Row (row.set p ((fs[p] + 11 * (ys.length : Int)) % 26)) := by
          intro z hz
          rcases List.mem_or_eq_of_mem_set hz with hz | rfl
          · exact hrow z hz
          · exact hv
        have hl2 : (row.set p ((fs[p] + 11 * (ys.length : Int)) % 26)).length = row.length := List.length_set
        have hat2 : (wordOf g (row.set p ((fs[p] + 11 * (ys.length : Int)) % 26))).toList[p]? = some (lt g ((fs[p] + 11 * (ys.length : Nat)) % 26)) := by
          unfold wordOf
          rw [String.toList_ofList, List.getElem?_map, List.getElem?_set_self hp1]; rfl
        generalize row.set p ((fs[p] + 11 * (ys.length : Int)) % 26) = r2 at hrow2 hl2 hat2 ⊢
        have hlen : (intL r2).length ≤ 16777216 := by unfold intL; rw [List.length_map]; omega
        have hb : (List.map (lt g) r2).length * 0 + (((List.map (lt g) r2).map fun c => String.ofList [c]).map String.length).sum ≤ 16777216 := by rw [sum_u, List.length_map]; omega
        have hnew := marked_new hma (by omega) hat2
        have hwl : ∀ (G : Gs) (e : Env), e.length = 13 → e[3]? = some (some (.d (.str (alph g)))) → qLp (lcQ G (.op .idx (.cons (.var 3) (.cons (.var 12) .nil))) (.n 12) .nil e) (intL r2) = some ((r2.map (lt g)).map ch) := fun G e h1 h3 => word_lc hrow2 h1 h3
        simp_arith [b12_7b_4, hlen, hwl, strs_u, String.length_empty, List.length_map, join_u]
        rw [List.length_map] at hb
        refine ⟨hb, by omega, x, ys ++ [wordOf g r2], n, h, by rw [List.length_append, List.length_singleton]; rfl, by rw [List.length_append, List.length_singleton]; omega, ⟨?_, ?_⟩, hnew.2, by rw [List.map_append]; rfl⟩
        · rw [List.nodup_append]
          refine ⟨hno.nd, by simp, ?_⟩
          intro a ha b hb hab
          rw [List.mem_singleton.mp hb] at hab
          exact hnew.1 (hab ▸ ha)
        · intro y hy
          rcases List.mem_append.mp hy with hy | hy
          · exact hno.nm y hy
          · rw [List.mem_singleton.mp hy]
            exact word_is hrow2 (by omega) (by omega)
    | 0, hr => unfold rangeD at hr; cases hr
  · rintro e ⟨x, ys, n, h, hr, hn, hno, hma, rfl⟩
    have : n = 0 := by cases n with
      | zero => rfl
      | succ n => unfold rangeD at hr; cases hr
    subst this
    simp_arith [b12_8]
    exact ⟨x, ys, h, by omega, hno, rfl, rfl⟩
  · exact ⟨x, [], m, h, rfl, by simp, ⟨List.nodup_nil, fun y hy => by cases hy⟩, fun j hj => by simp at hj, rfl⟩
end Wx

set_option Elab.async false
set_option linter.all false
set_option maxRecDepth 100000
set_option maxHeartbeats 4000000
namespace Wx
open Vm
local macro_rules | `(tactic| simp_arith [$as,*]) => `(tactic| simp only [e_var, e_mv, e_fv, e_k, e_g, e_opw, e_mop, e_mopv, dfl_k, e_slcV, e_slcE, e_ch, e_and, e_or, e_not, e_ite, e_lst, e_tup, e_dic0, e_dic, q_dic, pairD_nil, pairD_cons, Wdc_some, Wky_int, Wky_str, WS_dput, e_lcw, e_callw, e_mut, m_app, m_ext, m_clr, Wli_some, evAnd_1, evAnd_2, evOr_1, evOr_2, evI_nil, evI_1, evL_nil, evL_var, evL_o, evV_nil, evV_cons, evA_nil, evA_var, evA_o, evTs_nil, evTs_1, Wi_int, q_var, slc_f, slc_t, q_k, q_g, q_op, q_mop, q_slc, q_ch, q_and, q_or, q_not, q_ite, q_lst, q_tup, q_lc, qs_nil, qs_cons, qcs_nil, qcs_cons, qI_nil, qI_cons, qTs_nil, qTs_cons, qAnd_1, qAnd_2, qOr_1, qOr_2, WbD_bl, Wch_bl, WiD_int, WS_seq, WS_ex, WS_setn, WS_sett, WS_par, WS_aug, Wint_some, WS_sput, WS_saug, WDint_int, WS_iff, WS_for, WS_whl, WS_ret, WS_retN, WS_bad, WS_brk, WS_cnt, WS_pass, W_evT, WS_forget, WO_some, WO_none, Wsl_some, Wb_bl, WO_if, WO_map, WO_bindo, W_slot, W_okr, if_F, F_if, if_and2, if_or2, opD, oAdd, oSub, oMul, oFdv, oMod, oPow, oNeg, oCmp, oEq, oIsN, oIn, inD, oLen, oAll, oAny, oSum, oMn1, oMx1, oMn2, oMx2, oLst, oTup, oDct, oInt, oIdx, oSl, oRev, oJoin, oGet1, oGet2, oIsi, oTab, oLrg, oStr, oInT, oSplit, tabOf, lkT, ofK, oUpper, oLower, oIsup, oIslo, String.reduceEq, Option.isSome_some, List.nodup_cons, isScr, isiB, bls, intsOf, strsOf, eqD_ii, eqD_ss, eqD_bb, eqD_nn, eqD_ni, eqD_ns, eqD_in, eqD_sn, eqD_is, eqD_si, eqD_ll, eqD_tt, eqD_lt, eqD_tl, eqDs_nn, eqDs_cc, eqDs_nc, eqDs_cn, shal_non, shal_bl, shal_int, shal_str, shal_nil, shal_cons, shal_lst, shal_tup, flat, inL, valD, keyD, big_eq, mk, ow_int, ow_str, ow_bl, ow_non, ow_tup, ow_lst, ow_dct, toD_d, toD_lst, toD_dct, quiet_var, quiet_k, quiet_g, quiet_nil, quiet_mv, quiet_fv, quiet_call, quiet_mut, quiet_op, quiet_mop, quiet_slc, quiet_ch, quiet_and, quiet_or, quiet_not, quiet_ite, quiet_lst, quiet_tup, quiet_dic, quiet_lc, quiet_cons, lentE, tyD, mutRule, itD, seqD, at0, at1, at2, at3, at4, at5, at6, at7, atm1, ix0, ix1, ix2, ix3, ix4, arOk, arIx_nil, arIx_sl, arIx_tm, arOs_nil, arOs_sl, arOs_tm, back_nil, back_sl, back_tm, isD, outs_nil, outs_cons, forget_nil, forget_cons, tgSet_n, tgSet_cons, tgSets_nil, tgSets_cons, tgSlots_n, tgSlots_nil, tgSlots_cons, List.set_cons_zero, List.set_cons_succ, List.getElem?_cons_zero, List.getElem?_cons_succ, List.length_cons, List.length_nil, List.length_map, List.map_cons, List.map_nil, List.cons_append, List.nil_append, List.append_nil, List.replicate_succ, List.replicate_zero, List.getLast?_cons_cons, List.getLast?_singleton, List.nodup_cons, List.nodup_nil, List.mem_cons, List.not_mem_nil, List.contains_cons, List.contains_nil, List.all_cons, List.all_nil, decide_true, decide_false, Bool.true_or, Bool.or_true, Bool.false_or, Bool.or_false, Bool.and_true, Bool.true_and, Bool.false_and, Bool.and_false, Bool.not_true, Bool.not_false, Bool.false_bne, Bool.xor_false, Bool.false_xor, Bool.true_xor, Bool.xor_true, beq_iff_eq, bne_iff_ne, decide_eq_true_eq, decide_not, Bool.not_eq_true', Bool.false_eq_true, Bool.true_eq_false, Bool.not_eq_true, decide_eq_false_iff_not, beq_self_eq_true, beq_eq_false_iff_ne, bne_self_eq_false, Bool.and_eq_true, Bool.or_eq_true, true_and, and_true, false_and, and_false, or_false, false_or, or_true, true_or, not_true_eq_false, not_false_eq_true, ne_eq, reduceCtorEq, implies_true, forall_const, Option.some.injEq, exists_eq_left', exists_eq_left, eq_self, if_true, if_false, ↓reduceIte, Nat.reduceAdd, Nat.reduceSub, Nat.reduceMul, Nat.reduceLT, Nat.reduceLeDiff, Nat.reduceEqDiff, Nat.reduceBEq, Nat.zero_add, Nat.succ_eq_add_one, Nat.lt_add_left_iff_pos, Nat.add_lt_add_iff_right, Nat.not_lt_zero, Nat.lt_irrefl, Nat.zero_lt_succ, Nat.one_ne_zero, Nat.add_one_ne_zero, Nat.succ_ne_zero, Nat.reduceSucc, Int.reducePow, Int.reduceMul, Int.reduceAdd, Int.reduceSub, Int.reduceNeg, Int.reduceLT, Int.reduceLE, Int.reduceToNat, Int.reduceNegSucc, Int.reduceEq, Int.reduceNe, Int.cast_ofNat_Int, Int.natCast_zero, Int.natCast_one, Int.reduceBEq, Int.reduceMod, Int.reduceDiv, nat10, cl_one, Option.getD_none, Option.getD_some, $as,*])
variable {glob : String → Option D} {pg : Nat → Option Df}
/-- an act -/
inductive Act where
  | inn (o p : String) (c : Int)
  | own (p : String) (c : Int)
  | pay (p q : String) (c : Int)
  | buy (p t : String) (c : Int)
  | sell (t p : String) (c : Int)
  | spend (p : String) (c : Int)
  | worth (t : String) (c : Int)
  deriving DecidableEq
def Act.ds : Act → List D
  | .inn o p c => [.str "in", .str o, .str p, .int c]
  | .own p c => [.str "own", .str p, .int c]
  | .pay p q c => [.str "pay", .str p, .str q, .int c]
  | .buy p t c => [.str "buy", .str p, .str t, .int c]
  | .sell t p c => [.str "sell", .str t, .str p, .int c]
  | .spend p c => [.str "spend", .str p, .int c]
  | .worth t c => [.str "worth", .str t, .int c]
def Act.d (a : Act) : D := .tup a.ds
def Act.strs : Act → List String
  | .inn o p c => [o, p]
  | .own p c => [p]
  | .pay p q c => [p, q]
  | .buy p t c => [p, t]
  | .sell t p c => [t, p]
  | .spend p c => [p]
  | .worth t c => [t]
/-- its names are no endless texts -/
def Act.Fit (a : Act) : Prop := ∀ s ∈ a.strs, s.length ≤ 16777216
def coinOk (c : Int) : Bool := decide (1 ≤ c) && decide (c ≤ 1000000000000)
def worthOk (c : Int) : Bool := decide (0 ≤ c) && decide (c ≤ 1000000000000)
def goodA : Act → Bool
  | .inn o p c => isOf o SM && isOf p SM && coinOk c
  | .own p c => isOf p SM && coinOk c
  | .pay p q c => isOf p SM && isOf q SM && coinOk c && !(p == q)
  | .buy p t c => isOf p SM && isOf t GR && coinOk c
  | .sell t p c => isOf t GR && isOf p SM && coinOk c
  | .spend p c => isOf p SM && coinOk c
  | .worth t c => isOf t GR && worthOk c
theorem ofl_o : String.ofList ['o'] = "o" := nd rfl
theorem ofl_p : String.ofList ['p'] = "p" := nd rfl
theorem ofl_c : String.ofList ['c'] = "c" := nd rfl
theorem ofl_t : String.ofList ['t'] = "t" := nd rfl
theorem ofl_w : String.ofList ['w'] = "w" := nd rfl
theorem tl_opc : "opc".toList = ['o', 'p', 'c'] := nd rfl
theorem tl_pc : "pc".toList = ['p', 'c'] := nd rfl
theorem tl_ppc : "ppc".toList = ['p', 'p', 'c'] := nd rfl
theorem tl_ptc : "ptc".toList = ['p', 't', 'c'] := nd rfl
theorem tl_tpc : "tpc".toList = ['t', 'p', 'c'] := nd rfl
theorem tl_tw : "tw".toList = ['t', 'w'] := nd rfl
structure Gl1 (glob : String → Option D) : Prop where
  lo : glob "LONGEST" = some (.int 8)
  sm : glob "SMALL" = some (.str SM)
  gr : glob "GREAT" = some (.str GR)
  mo : glob "MOST_COINS" = some (.int 1000000000000)
theorem thing_c (hp : Has pg [1, 2, 3, 10]) (hg : Gl1 glob) (k : Nat) (c : Int) : @WC (run glob pg (k + 3) 10 [.d (.str "c"), .d (.int c)]) ⟨fun o ts => o = .d (.bl (coinOk c)) ∧ ts = [.d (.str "c"), .d (.int c)]⟩ ⟨fun _ _ => False⟩ := by
  refine run_ok (hp.at 10 df10 rfl rfl) rfl rfl ?_
  simp_arith [b10, b10_1, b10_1t_1, hg.mo, coinOk]
theorem thing_w (hp : Has pg [1, 2, 3, 10]) (hg : Gl1 glob) (k : Nat) (c : Int) : @WC (run glob pg (k + 3) 10 [.d (.str "w"), .d (.int c)]) ⟨fun o ts => o = .d (.bl (worthOk c)) ∧ ts = [.d (.str "w"), .d (.int c)]⟩ ⟨fun _ _ => False⟩ := by
  refine run_ok (hp.at 10 df10 rfl rfl) rfl rfl ?_
  simp_arith [b10, b10_1, b10_2, b10_2t_1, hg.mo, worthOk]
theorem thing_t (hp : Has pg [1, 2, 3, 10]) (hg : Gl1 glob) (k : Nat) (t : String) (ht : t.length ≤ 16777216) : @WC (run glob pg (k + 3) 10 [.d (.str "t"), .d (.str t)]) ⟨fun o ts => o = .d (.bl (isOf t GR)) ∧ ts = [.d (.str "t"), .d (.str t)]⟩ ⟨fun _ _ => False⟩ := by
  refine run_ok (hp.at 10 df10 rfl rfl) rfl rfl ?_
  simp_arith [b10, b10_1, b10_2, b10_3, b10_3t_1]
  refine WC_of (is_great_ok (hp.sub rfl) hg.lo hg.gr k t ht) ?_
  rintro o ts ⟨rfl, rfl⟩
  simp_arith []
theorem thing_p (hp : Has pg [1, 2, 3, 10]) (hg : Gl1 glob) (k : Nat) (t : String) (ht : t.length ≤ 16777216) : @WC (run glob pg (k + 3) 10 [.d (.str "p"), .d (.str t)]) ⟨fun o ts => o = .d (.bl (isOf t SM)) ∧ ts = [.d (.str "p"), .d (.str t)]⟩ ⟨fun _ _ => False⟩ := by
  refine run_ok (hp.at 10 df10 rfl rfl) rfl rfl ?_
  simp_arith [b10, b10_1, b10_2, b10_3, b10_4]
  refine WC_of (is_small_ok (hp.sub rfl) hg.lo hg.sm k t ht) ?_
  rintro o ts ⟨rfl, rfl⟩
  simp_arith []
theorem thing_o (hp : Has pg [1, 2, 3, 10]) (hg : Gl1 glob) (k : Nat) (t : String) (ht : t.length ≤ 16777216) : @WC (run glob pg (k + 3) 10 [.d (.str "o"), .d (.str t)]) ⟨fun o ts => o = .d (.bl (isOf t SM)) ∧ ts = [.d (.str "o"), .d (.str t)]⟩ ⟨fun _ _ => False⟩ := by
  refine run_ok (hp.at 10 df10 rfl rfl) rfl rfl ?_
  simp_arith [b10, b10_1, b10_2, b10_3, b10_4]
  refine WC_of (is_small_ok (hp.sub rfl) hg.lo hg.sm k t ht) ?_
  rintro o ts ⟨rfl, rfl⟩
  simp_arith []
theorem good_act_ok (hp : Has pg [1, 2, 3, 10, 11]) (hg : Gl1 glob) (k : Nat) (a : Act) (ha : a.Fit) : @WC (run glob pg (k + 4) 11 [.d a.d]) ⟨fun o ts => o = .d (.bl (goodA a)) ∧ ts = [.d a.d]⟩ ⟨fun _ _ => False⟩ := by
  refine run_ok (hp.at 11 df11 rfl rfl) rfl rfl ?_
  cases a with
  | inn o p c =>
    have h0 : o.length ≤ 16777216 := ha o (by simp [Act.strs])
    have h1 : p.length ≤ 16777216 := ha p (by simp [Act.strs])
    simp_arith [Act.d, Act.ds, b11, b11_1, cut, loN, hiN, zipD, for_cons, for_nil, b11_1b_1, b11_1b_1t_1, ofl_o, ofl_p, ofl_c, ofl_t, ofl_w, tl_opc, tl_pc, tl_ppc, tl_ptc, tl_tpc, tl_tw, List.drop_succ_cons, List.drop_zero, List.take_succ_cons, List.take_zero]
    refine WC_of (thing_o (hp.sub rfl) hg k o h0) ?_
    rintro o9 ts ⟨rfl, rfl⟩
    cases e0 : isOf o SM
    · simp_arith [e0]
      simp [goodA, Act.d, Act.ds, e0]
    simp_arith [e0, for_cons, for_nil, b11_1b_1, b11_1b_1t_1, b11_2]
    refine WC_of (thing_p (hp.sub rfl) hg k p h1) ?_
    rintro o9 ts ⟨rfl, rfl⟩
    cases e1 : isOf p SM
    · simp_arith [e1]
      simp [goodA, Act.d, Act.ds, e0, e1]
    simp_arith [e1, for_cons, for_nil, b11_1b_1, b11_1b_1t_1, b11_2]
    refine WC_of (thing_c (hp.sub rfl) hg k c) ?_
    rintro o9 ts ⟨rfl, rfl⟩
    cases e2 : coinOk c
    · simp_arith [e2]
      simp [goodA, Act.d, Act.ds, e0, e1, e2]
    simp_arith [e2, for_cons, for_nil, b11_1b_1, b11_1b_1t_1, b11_2]
    simp [goodA, Act.d, Act.ds, e0, e1, e2]
  | own p c =>
    have h0 : p.length ≤ 16777216 := ha p (by simp [Act.strs])
    simp_arith [Act.d, Act.ds, b11, b11_1, cut, loN, hiN, zipD, for_cons, for_nil, b11_1b_1, b11_1b_1t_1, ofl_o, ofl_p, ofl_c, ofl_t, ofl_w, tl_opc, tl_pc, tl_ppc, tl_ptc, tl_tpc, tl_tw, List.drop_succ_cons, List.drop_zero, List.take_succ_cons, List.take_zero]
    refine WC_of (thing_p (hp.sub rfl) hg k p h0) ?_
    rintro o9 ts ⟨rfl, rfl⟩
    cases e0 : isOf p SM
    · simp_arith [e0]
      simp [goodA, Act.d, Act.ds, e0]
    simp_arith [e0, for_cons, for_nil, b11_1b_1, b11_1b_1t_1, b11_2]
    refine WC_of (thing_c (hp.sub rfl) hg k c) ?_
    rintro o9 ts ⟨rfl, rfl⟩
    cases e1 : coinOk c
    · simp_arith [e1]
      simp [goodA, Act.d, Act.ds, e0, e1]
    simp_arith [e1, for_cons, for_nil, b11_1b_1, b11_1b_1t_1, b11_2]
    simp [goodA, Act.d, Act.ds, e0, e1]
  | pay p q c =>
    have h0 : p.length ≤ 16777216 := ha p (by simp [Act.strs])
    have h1 : q.length ≤ 16777216 := ha q (by simp [Act.strs])
    simp_arith [Act.d, Act.ds, b11, b11_1, cut, loN, hiN, zipD, for_cons, for_nil, b11_1b_1, b11_1b_1t_1, ofl_o, ofl_p, ofl_c, ofl_t, ofl_w, tl_opc, tl_pc, tl_ppc, tl_ptc, tl_tpc, tl_tw, List.drop_succ_cons, List.drop_zero, List.take_succ_cons, List.take_zero]
    refine WC_of (thing_p (hp.sub rfl) hg k p h0) ?_
    rintro o9 ts ⟨rfl, rfl⟩
    cases e0 : isOf p SM
    · simp_arith [e0]
      simp [goodA, Act.d, Act.ds, e0]
    simp_arith [e0, for_cons, for_nil, b11_1b_1, b11_1b_1t_1, b11_2]
    refine WC_of (thing_p (hp.sub rfl) hg k q h1) ?_
    rintro o9 ts ⟨rfl, rfl⟩
    cases e1 : isOf q SM
    · simp_arith [e1]
      simp [goodA, Act.d, Act.ds, e0, e1]
    simp_arith [e1, for_cons, for_nil, b11_1b_1, b11_1b_1t_1, b11_2]
    refine WC_of (thing_c (hp.sub rfl) hg k c) ?_
    rintro o9 ts ⟨rfl, rfl⟩
    cases e2 : coinOk c
    · simp_arith [e2]
      simp [goodA, Act.d, Act.ds, e0, e1, e2]
    simp_arith [e2, for_cons, for_nil, b11_1b_1, b11_1b_1t_1, b11_2]
    simp [goodA, Act.d, Act.ds, e0, e1, e2]
  | buy p t c =>
    have h0 : p.length ≤ 16777216 := ha p (by simp [Act.strs])
    have h1 : t.length ≤ 16777216 := ha t (by simp [Act.strs])
    simp_arith [Act.d, Act.ds, b11, b11_1, cut, loN, hiN, zipD, for_cons, for_nil, b11_1b_1, b11_1b_1t_1, ofl_o, ofl_p, ofl_c, ofl_t, ofl_w, tl_opc, tl_pc, tl_ppc, tl_ptc, tl_tpc, tl_tw, List.drop_succ_cons, List.drop_zero, List.take_succ_cons, List.take_zero]
    refine WC_of (thing_p (hp.sub rfl) hg k p h0) ?_
    rintro o9 ts ⟨rfl, rfl⟩
    cases e0 : isOf p SM
    · simp_arith [e0]
      simp [goodA, Act.d, Act.ds, e0]
    simp_arith [e0, for_cons, for_nil, b11_1b_1, b11_1b_1t_1, b11_2]
    refine WC_of (thing_t (hp.sub rfl) hg k t h1) ?_
    rintro o9 ts ⟨rfl, rfl⟩
    cases e1 : isOf t GR
    · simp_arith [e1]
      simp [goodA, Act.d, Act.ds, e0, e1]
    simp_arith [e1, for_cons, for_nil, b11_1b_1, b11_1b_1t_1, b11_2]
    refine WC_of (thing_c (hp.sub rfl) hg k c) ?_
    rintro o9 ts ⟨rfl, rfl⟩
    cases e2 : coinOk c
    · simp_arith [e2]
      simp [goodA, Act.d, Act.ds, e0, e1, e2]
    simp_arith [e2, for_cons, for_nil, b11_1b_1, b11_1b_1t_1, b11_2]
    simp [goodA, Act.d, Act.ds, e0, e1, e2]
  | sell t p c =>
    have h0 : t.length ≤ 16777216 := ha t (by simp [Act.strs])
    have h1 : p.length ≤ 16777216 := ha p (by simp [Act.strs])
    simp_arith [Act.d, Act.ds, b11, b11_1, cut, loN, hiN, zipD, for_cons, for_nil, b11_1b_1, b11_1b_1t_1, ofl_o, ofl_p, ofl_c, ofl_t, ofl_w, tl_opc, tl_pc, tl_ppc, tl_ptc, tl_tpc, tl_tw, List.drop_succ_cons, List.drop_zero, List.take_succ_cons, List.take_zero]
    refine WC_of (thing_t (hp.sub rfl) hg k t h0) ?_
    rintro o9 ts ⟨rfl, rfl⟩
    cases e0 : isOf t GR
    · simp_arith [e0]
      simp [goodA, Act.d, Act.ds, e0]
    simp_arith [e0, for_cons, for_nil, b11_1b_1, b11_1b_1t_1, b11_2]
    refine WC_of (thing_p (hp.sub rfl) hg k p h1) ?_
    rintro o9 ts ⟨rfl, rfl⟩
    cases e1 : isOf p SM
    · simp_arith [e1]
      simp [goodA, Act.d, Act.ds, e0, e1]
    simp_arith [e1, for_cons, for_nil, b11_1b_1, b11_1b_1t_1, b11_2]
    refine WC_of (thing_c (hp.sub rfl) hg k c) ?_
    rintro o9 ts ⟨rfl, rfl⟩
    cases e2 : coinOk c
    · simp_arith [e2]
      simp [goodA, Act.d, Act.ds, e0, e1, e2]
    simp_arith [e2, for_cons, for_nil, b11_1b_1, b11_1b_1t_1, b11_2]
    simp [goodA, Act.d, Act.ds, e0, e1, e2]
  | spend p c =>
    have h0 : p.length ≤ 16777216 := ha p (by simp [Act.strs])
    simp_arith [Act.d, Act.ds, b11, b11_1, cut, loN, hiN, zipD, for_cons, for_nil, b11_1b_1, b11_1b_1t_1, ofl_o, ofl_p, ofl_c, ofl_t, ofl_w, tl_opc, tl_pc, tl_ppc, tl_ptc, tl_tpc, tl_tw, List.drop_succ_cons, List.drop_zero, List.take_succ_cons, List.take_zero]
    refine WC_of (thing_p (hp.sub rfl) hg k p h0) ?_
    rintro o9 ts ⟨rfl, rfl⟩
    cases e0 : isOf p SM
    · simp_arith [e0]
      simp [goodA, Act.d, Act.ds, e0]
    simp_arith [e0, for_cons, for_nil, b11_1b_1, b11_1b_1t_1, b11_2]
    refine WC_of (thing_c (hp.sub rfl) hg k c) ?_
    rintro o9 ts ⟨rfl, rfl⟩
    cases e1 : coinOk c
    · simp_arith [e1]
      simp [goodA, Act.d, Act.ds, e0, e1]
    simp_arith [e1, for_cons, for_nil, b11_1b_1, b11_1b_1t_1, b11_2]
    simp [goodA, Act.d, Act.ds, e0, e1]
  | worth t c =>
    have h0 : t.length ≤ 16777216 := ha t (by simp [Act.strs])
    simp_arith [Act.d, Act.ds, b11, b11_1, cut, loN, hiN, zipD, for_cons, for_nil, b11_1b_1, b11_1b_1t_1, ofl_o, ofl_p, ofl_c, ofl_t, ofl_w, tl_opc, tl_pc, tl_ppc, tl_ptc, tl_tpc, tl_tw, List.drop_succ_cons, List.drop_zero, List.take_succ_cons, List.take_zero]
    refine WC_of (thing_t (hp.sub rfl) hg k t h0) ?_
    rintro o9 ts ⟨rfl, rfl⟩
    cases e0 : isOf t GR
    · simp_arith [e0]
      simp [goodA, Act.d, Act.ds, e0]
    simp_arith [e0, for_cons, for_nil, b11_1b_1, b11_1b_1t_1, b11_2]
    refine WC_of (thing_w (hp.sub rfl) hg k c) ?_
    rintro o9 ts ⟨rfl, rfl⟩
    cases e1 : worthOk c
    · simp_arith [e1]
      simp [goodA, Act.d, Act.ds, e0, e1]
    simp_arith [e1, for_cons, for_nil, b11_1b_1, b11_1b_1t_1, b11_2]
    simp [goodA, Act.d, Act.ds, e0, e1]
theorem is_name_ok (hp : Has pg [13]) (k : Nat) (t : String) (ht : t.length ≤ 16777216) (g : Bool) : @WC (run glob pg (k + 1) 13 [.d (.str t), .d (.bl g)]) ⟨fun o ts => o = .d (.bl (isOf t (alph g))) ∧ ts = [.d (.str t), .d (.bl g)]⟩ ⟨fun _ _ => False⟩ := by
  refine run_ok (hp.at 13 df13 rfl rfl) rfl rfl ?_
  have hat : at? [D.str SM, D.str GR] (if g = true then 1 else 0) = some (.str (alph g)) := by
    cases g
    · exact at0
    · exact at1
  have hx : ∀ G : Gs, qLp (lcQ G (.op .inn (.cons (.var 3) (.cons (.var 2) .nil))) (.n 3) .nil [some (.d (.str t)), some (.d (.bl g)), some (.d (.str (alph g))), none]) (t.toList.map ch) = some (t.toList.map fun c => .bl (decide (c ∈ (alph g).toList))) := by
    intro G
    refine qLp_u fun c _ => WO_eq ?_
    simp_arith [WO_lcQ, String.toList_ofList]
  simp_arith [b13, b13_1, hat, b13_2, ht, seq_str, hx, bls_u, List.all_map, List.length_map, len_list]
  by_cases h : 1 ≤ (t.length : Int) ∧ (t.length : Int) ≤ 8
  · simp_arith [h, hx, bls_u, List.all_map]
    rw [isOf, decide_eq_true h]; rfl
  · rw [if_neg h, isOf, decide_eq_false h]; rfl
theorem al_f : alph false = SM := rfl
theorem al_t : alph true = GR := rfl
theorem l_act_good_ok (hp : Has pg [13, 14]) (k : Nat) (a : Act) (ha : a.Fit) : @WC (run glob pg (k + 2) 14 [.d a.d]) ⟨fun o ts => o = .d (.bl (goodA a)) ∧ ts = [.d a.d]⟩ ⟨fun _ _ => False⟩ := by
  refine run_ok (hp.at 14 df14 rfl rfl) rfl rfl ?_
  cases a with
  | inn o p c =>
    have h0 : o.length ≤ 16777216 := ha o (by simp [Act.strs])
    have h1 : p.length ≤ 16777216 := ha p (by simp [Act.strs])
    have hcc : (decide (1 ≤ c) && decide (c ≤ 1000000000000)) = coinOk c := rfl
    have hcw : (decide (0 ≤ c) && decide (c ≤ 1000000000000)) = worthOk c := rfl
    simp_arith [Act.d, Act.ds, b14, b14_1, b14_2, Sum.inr.injEq, Sum.inl.injEq, rangeD, for_cons, for_nil, b14_2b_1, b14_2b_1t_1]
    refine WC_of (is_name_ok (hp.sub rfl) k o h0 _) ?_
    rintro o9 ts ⟨rfl, rfl⟩
    cases e0 : isOf o SM
    · simp_arith [e0, al_f, al_t]
      simp [goodA, Act.d, Act.ds, e0]
    simp_arith [e0, al_f, al_t, for_cons, for_nil, b14_2b_1, b14_2b_1t_1, b14_3, b14_3t_1, b14_4, hcc, hcw]
    refine WC_of (is_name_ok (hp.sub rfl) k p h1 _) ?_
    rintro o9 ts ⟨rfl, rfl⟩
    cases e1 : isOf p SM
    · simp_arith [e1, al_f, al_t]
      simp [goodA, Act.d, Act.ds, e0, e1]
    simp_arith [e1, al_f, al_t, for_cons, for_nil, b14_2b_1, b14_2b_1t_1, b14_3, b14_3t_1, b14_4, hcc, hcw]
    cases ec : coinOk c <;> simp [goodA, Act.d, Act.ds, ec, e0, e1]
  | own p c =>
    have h0 : p.length ≤ 16777216 := ha p (by simp [Act.strs])
    have hcc : (decide (1 ≤ c) && decide (c ≤ 1000000000000)) = coinOk c := rfl
    have hcw : (decide (0 ≤ c) && decide (c ≤ 1000000000000)) = worthOk c := rfl
    simp_arith [Act.d, Act.ds, b14, b14_1, b14_2, Sum.inr.injEq, Sum.inl.injEq, rangeD, for_cons, for_nil, b14_2b_1, b14_2b_1t_1]
    refine WC_of (is_name_ok (hp.sub rfl) k p h0 _) ?_
    rintro o9 ts ⟨rfl, rfl⟩
    cases e0 : isOf p SM
    · simp_arith [e0, al_f, al_t]
      simp [goodA, Act.d, Act.ds, e0]
    simp_arith [e0, al_f, al_t, for_cons, for_nil, b14_2b_1, b14_2b_1t_1, b14_3, b14_3t_1, b14_4, hcc, hcw]
    cases ec : coinOk c <;> simp [goodA, Act.d, Act.ds, ec, e0]
  | pay p q c =>
    have h0 : p.length ≤ 16777216 := ha p (by simp [Act.strs])
    have h1 : q.length ≤ 16777216 := ha q (by simp [Act.strs])
    have hcc : (decide (1 ≤ c) && decide (c ≤ 1000000000000)) = coinOk c := rfl
    have hcw : (decide (0 ≤ c) && decide (c ≤ 1000000000000)) = worthOk c := rfl
    simp_arith [Act.d, Act.ds, b14, b14_1, b14_2, Sum.inr.injEq, Sum.inl.injEq, rangeD, for_cons, for_nil, b14_2b_1, b14_2b_1t_1]
    refine WC_of (is_name_ok (hp.sub rfl) k p h0 _) ?_
    rintro o9 ts ⟨rfl, rfl⟩
    cases e0 : isOf p SM
    · simp_arith [e0, al_f, al_t]
      simp [goodA, Act.d, Act.ds, e0]
    simp_arith [e0, al_f, al_t, for_cons, for_nil, b14_2b_1, b14_2b_1t_1, b14_3, b14_3t_1, b14_4, hcc, hcw]
    refine WC_of (is_name_ok (hp.sub rfl) k q h1 _) ?_
    rintro o9 ts ⟨rfl, rfl⟩
    cases e1 : isOf q SM
    · simp_arith [e1, al_f, al_t]
      simp [goodA, Act.d, Act.ds, e0, e1]
    simp_arith [e1, al_f, al_t, for_cons, for_nil, b14_2b_1, b14_2b_1t_1, b14_3, b14_3t_1, b14_4, hcc, hcw]
    cases ec : coinOk c <;> simp [goodA, Act.d, Act.ds, ec, e0, e1]
  | buy p t c =>
    have h0 : p.length ≤ 16777216 := ha p (by simp [Act.strs])
    have h1 : t.length ≤ 16777216 := ha t (by simp [Act.strs])
    have hcc : (decide (1 ≤ c) && decide (c ≤ 1000000000000)) = coinOk c := rfl
    have hcw : (decide (0 ≤ c) && decide (c ≤ 1000000000000)) = worthOk c := rfl
    simp_arith [Act.d, Act.ds, b14, b14_1, b14_2, Sum.inr.injEq, Sum.inl.injEq, rangeD, for_cons, for_nil, b14_2b_1, b14_2b_1t_1]
    refine WC_of (is_name_ok (hp.sub rfl) k p h0 _) ?_
    rintro o9 ts ⟨rfl, rfl⟩
    cases e0 : isOf p SM
    · simp_arith [e0, al_f, al_t]
      simp [goodA, Act.d, Act.ds, e0]
    simp_arith [e0, al_f, al_t, for_cons, for_nil, b14_2b_1, b14_2b_1t_1, b14_3, b14_3t_1, b14_4, hcc, hcw]
    refine WC_of (is_name_ok (hp.sub rfl) k t h1 _) ?_
    rintro o9 ts ⟨rfl, rfl⟩
    cases e1 : isOf t GR
    · simp_arith [e1, al_f, al_t]
      simp [goodA, Act.d, Act.ds, e0, e1]
    simp_arith [e1, al_f, al_t, for_cons, for_nil, b14_2b_1, b14_2b_1t_1, b14_3, b14_3t_1, b14_4, hcc, hcw]
    cases ec : coinOk c <;> simp [goodA, Act.d, Act.ds, ec, e0, e1]
  | sell t p c =>
    have h0 : t.length ≤ 16777216 := ha t (by simp [Act.strs])
    have h1 : p.length ≤ 16777216 := ha p (by simp [Act.strs])
    have hcc : (decide (1 ≤ c) && decide (c ≤ 1000000000000)) = coinOk c := rfl
    have hcw : (decide (0 ≤ c) && decide (c ≤ 1000000000000)) = worthOk c := rfl
    simp_arith [Act.d, Act.ds, b14, b14_1, b14_2, Sum.inr.injEq, Sum.inl.injEq, rangeD, for_cons, for_nil, b14_2b_1, b14_2b_1t_1]
    refine WC_of (is_name_ok (hp.sub rfl) k t h0 _) ?_
    rintro o9 ts ⟨rfl, rfl⟩
    cases e0 : isOf t GR
    · simp_arith [e0, al_f, al_t]
      simp [goodA, Act.d, Act.ds, e0]
    simp_arith [e0, al_f, al_t, for_cons, for_nil, b14_2b_1, b14_2b_1t_1, b14_3, b14_3t_1, b14_4, hcc, hcw]
    refine WC_of (is_name_ok (hp.sub rfl) k p h1 _) ?_
    rintro o9 ts ⟨rfl, rfl⟩
    cases e1 : isOf p SM
    · simp_arith [e1, al_f, al_t]
      simp [goodA, Act.d, Act.ds, e0, e1]
    simp_arith [e1, al_f, al_t, for_cons, for_nil, b14_2b_1, b14_2b_1t_1, b14_3, b14_3t_1, b14_4, hcc, hcw]
    cases ec : coinOk c <;> simp [goodA, Act.d, Act.ds, ec, e0, e1]
  | spend p c =>
    have h0 : p.length ≤ 16777216 := ha p (by simp [Act.strs])
    have hcc : (decide (1 ≤ c) && decide (c ≤ 1000000000000)) = coinOk c := rfl
    have hcw : (decide (0 ≤ c) && decide (c ≤ 1000000000000)) = worthOk c := rfl
    simp_arith [Act.d, Act.ds, b14, b14_1, b14_2, Sum.inr.injEq, Sum.inl.injEq, rangeD, for_cons, for_nil, b14_2b_1, b14_2b_1t_1]
    refine WC_of (is_name_ok (hp.sub rfl) k p h0 _) ?_
    rintro o9 ts ⟨rfl, rfl⟩
    cases e0 : isOf p SM
    · simp_arith [e0, al_f, al_t]
      simp [goodA, Act.d, Act.ds, e0]
    simp_arith [e0, al_f, al_t, for_cons, for_nil, b14_2b_1, b14_2b_1t_1, b14_3, b14_3t_1, b14_4, hcc, hcw]
    cases ec : coinOk c <;> simp [goodA, Act.d, Act.ds, ec, e0]
  | worth t c =>
    have h0 : t.length ≤ 16777216 := ha t (by simp [Act.strs])
    have hcc : (decide (1 ≤ c) && decide (c ≤ 1000000000000)) = coinOk c := rfl
    have hcw : (decide (0 ≤ c) && decide (c ≤ 1000000000000)) = worthOk c := rfl
    simp_arith [Act.d, Act.ds, b14, b14_1, b14_2, Sum.inr.injEq, Sum.inl.injEq, rangeD, for_cons, for_nil, b14_2b_1, b14_2b_1t_1]
    refine WC_of (is_name_ok (hp.sub rfl) k t h0 _) ?_
    rintro o9 ts ⟨rfl, rfl⟩
    cases e0 : isOf t GR
    · simp_arith [e0, al_f, al_t]
      simp [goodA, Act.d, Act.ds, e0]
    simp_arith [e0, al_f, al_t, for_cons, for_nil, b14_2b_1, b14_2b_1t_1, b14_3, b14_3t_1, b14_4, hcc, hcw]
    cases ec : worthOk c <;> simp [goodA, Act.d, Act.ds, ec, e0]
end Wx

set_option Elab.async false
set_option linter.all false
set_option maxRecDepth 100000
set_option maxHeartbeats 4000000
namespace Wx
open Vm
local macro_rules | `(tactic| simp_arith [$as,*]) => `(tactic| simp only [e_var, e_mv, e_fv, e_k, e_g, e_opw, e_mop, e_mopv, dfl_k, e_slcV, e_slcE, e_ch, e_and, e_or, e_not, e_ite, e_lst, e_tup, e_dic0, e_dic, q_dic, pairD_nil, pairD_cons, Wdc_some, Wky_int, Wky_str, WS_dput, e_lcw, e_callw, e_mut, m_app, m_ext, m_clr, Wli_some, evAnd_1, evAnd_2, evOr_1, evOr_2, evI_nil, evI_1, evL_nil, evL_var, evL_o, evV_nil, evV_cons, evA_nil, evA_var, evA_o, evTs_nil, evTs_1, Wi_int, q_var, slc_f, slc_t, q_k, q_g, q_op, q_mop, q_slc, q_ch, q_and, q_or, q_not, q_ite, q_lst, q_tup, q_lc, qs_nil, qs_cons, qcs_nil, qcs_cons, qI_nil, qI_cons, qTs_nil, qTs_cons, qAnd_1, qAnd_2, qOr_1, qOr_2, WbD_bl, Wch_bl, WiD_int, WS_seq, WS_ex, WS_setn, WS_sett, WS_par, WS_aug, Wint_some, WS_sput, WS_saug, WDint_int, WS_iff, WS_for, WS_whl, WS_ret, WS_retN, WS_bad, WS_brk, WS_cnt, WS_pass, W_evT, WS_forget, WO_some, WO_none, Wsl_some, Wb_bl, WO_if, WO_map, WO_bindo, W_slot, W_okr, if_F, F_if, if_and2, if_or2, opD, oAdd, oSub, oMul, oFdv, oMod, oPow, oNeg, oCmp, oEq, oIsN, oIn, inD, oLen, oAll, oAny, oSum, oMn1, oMx1, oMn2, oMx2, oLst, oTup, oDct, oInt, oIdx, oSl, oRev, oJoin, oGet1, oGet2, oIsi, oTab, oLrg, oStr, oInT, oSplit, tabOf, lkT, ofK, oUpper, oLower, oIsup, oIslo, String.reduceEq, Option.isSome_some, List.nodup_cons, isScr, isiB, bls, intsOf, strsOf, eqD_ii, eqD_ss, eqD_bb, eqD_nn, eqD_ni, eqD_ns, eqD_in, eqD_sn, eqD_is, eqD_si, eqD_ll, eqD_tt, eqD_lt, eqD_tl, eqDs_nn, eqDs_cc, eqDs_nc, eqDs_cn, shal_non, shal_bl, shal_int, shal_str, shal_nil, shal_cons, shal_lst, shal_tup, flat, inL, valD, keyD, big_eq, mk, ow_int, ow_str, ow_bl, ow_non, ow_tup, ow_lst, ow_dct, toD_d, toD_lst, toD_dct, quiet_var, quiet_k, quiet_g, quiet_nil, quiet_mv, quiet_fv, quiet_call, quiet_mut, quiet_op, quiet_mop, quiet_slc, quiet_ch, quiet_and, quiet_or, quiet_not, quiet_ite, quiet_lst, quiet_tup, quiet_dic, quiet_lc, quiet_cons, lentE, tyD, mutRule, itD, seqD, at0, at1, at2, at3, at4, at5, at6, at7, atm1, ix0, ix1, ix2, ix3, ix4, arOk, arIx_nil, arIx_sl, arIx_tm, arOs_nil, arOs_sl, arOs_tm, back_nil, back_sl, back_tm, isD, outs_nil, outs_cons, forget_nil, forget_cons, tgSet_n, tgSet_cons, tgSets_nil, tgSets_cons, tgSlots_n, tgSlots_nil, tgSlots_cons, List.set_cons_zero, List.set_cons_succ, List.getElem?_cons_zero, List.getElem?_cons_succ, List.length_cons, List.length_nil, List.length_map, List.map_cons, List.map_nil, List.cons_append, List.nil_append, List.append_nil, List.replicate_succ, List.replicate_zero, List.getLast?_cons_cons, List.getLast?_singleton, List.nodup_cons, List.nodup_nil, List.mem_cons, List.not_mem_nil, List.contains_cons, List.contains_nil, List.all_cons, List.all_nil, decide_true, decide_false, Bool.true_or, Bool.or_true, Bool.false_or, Bool.or_false, Bool.and_true, Bool.true_and, Bool.false_and, Bool.and_false, Bool.not_true, Bool.not_false, Bool.false_bne, Bool.xor_false, Bool.false_xor, Bool.true_xor, Bool.xor_true, beq_iff_eq, bne_iff_ne, decide_eq_true_eq, decide_not, Bool.not_eq_true', Bool.false_eq_true, Bool.true_eq_false, Bool.not_eq_true, decide_eq_false_iff_not, beq_self_eq_true, beq_eq_false_iff_ne, bne_self_eq_false, Bool.and_eq_true, Bool.or_eq_true, true_and, and_true, false_and, and_false, or_false, false_or, or_true, true_or, not_true_eq_false, not_false_eq_true, ne_eq, reduceCtorEq, implies_true, forall_const, Option.some.injEq, exists_eq_left', exists_eq_left, eq_self, if_true, if_false, ↓reduceIte, Nat.reduceAdd, Nat.reduceSub, Nat.reduceMul, Nat.reduceLT, Nat.reduceLeDiff, Nat.reduceEqDiff, Nat.reduceBEq, Nat.zero_add, Nat.succ_eq_add_one, Nat.lt_add_left_iff_pos, Nat.add_lt_add_iff_right, Nat.not_lt_zero, Nat.lt_irrefl, Nat.zero_lt_succ, Nat.one_ne_zero, Nat.add_one_ne_zero, Nat.succ_ne_zero, Nat.reduceSucc, Int.reducePow, Int.reduceMul, Int.reduceAdd, Int.reduceSub, Int.reduceNeg, Int.reduceLT, Int.reduceLE, Int.reduceToNat, Int.reduceNegSucc, Int.reduceEq, Int.reduceNe, Int.cast_ofNat_Int, Int.natCast_zero, Int.natCast_one, Int.reduceBEq, Int.reduceMod, Int.reduceDiv, nat10, cl_one, Option.getD_none, Option.getD_some, $as,*])
variable {glob : String → Option D} {pg : Nat → Option Df}
theorem isOf_len {t L : String} (h : isOf t L = true) : t.length ≤ 8 := by
  unfold isOf at h
  rw [Bool.and_eq_true] at h
  have := of_decide_eq_true h.1
  omega
theorem tl_ssc : "ssc".toList = ['s', 's', 'c'] := nd rfl
theorem tl_sc : "sc".toList = ['s', 'c'] := nd rfl
theorem tl_sgc : "sgc".toList = ['s', 'g', 'c'] := nd rfl
theorem tl_gsc : "gsc".toList = ['g', 's', 'c'] := nd rfl
theorem tl_gc : "gc".toList = ['g', 'c'] := nd rfl
theorem ofl_s : String.ofList ['s'] = "s" := nd rfl
theorem ofl_g : String.ofList ['g'] = "g" := nd rfl
/-- texts of up to thirty signs of small codes -/
def Act.Sh (a : Act) : Prop := ∀ s ∈ a.strs, s.length ≤ 30 ∧ asc s = true
theorem asc_is {t : String} {g : Bool} (h : isOf t (alph g) = true) : asc t = true := by
  unfold isOf at h
  rw [Bool.and_eq_true] at h
  unfold asc
  rw [List.all_eq_true]
  intro c hc
  have h2 := of_decide_eq_true (List.all_eq_true.mp h.2 c hc)
  have key : ∀ g : Bool, ∀ c ∈ (alph g).toList, decide (c.toNat < 128) = true := by decide +kernel
  exact key g c h2
theorem free_coin (hp : Has pg [5]) (k : Nat) (x : Bx) (h : x.Ok) {Q : O → List O → Prop} {X : Ex → List O → Prop} (hq : ∀ (y : Bx) (m r : Int), y.Ok → (m = 9 ∨ m = 1000000000000) → 0 ≤ r → r < 2 → at? [D.int 9, .int 1000000000000] r = some (.int m) → Q (.d (.int r)) [y.o, .d (.int 2)]) :
    @WC (run glob pg (k + 1) 5 [x.o, .d (.int 2)]) ⟨Q⟩ ⟨X⟩ := by
  refine WC_of (take_ok hp k x h 2 (by decide) (by decide)) ?_
  rintro o ts ⟨y, r, hy, r0, r1, rfl, rfl⟩
  obtain rfl | rfl : r = 0 ∨ r = 1 := by omega
  · exact hq y 9 0 hy (.inl rfl) r0 r1 at0
  · exact hq y _ 1 hy (.inr rfl) r0 r1 at1
theorem free_act_ok (hp : Has pg [5, 12, 15]) (k : Nat) (x : Bx) (h : x.Ok) : @WC (run glob pg (k + 3) 15 [x.o]) ⟨fun o ts => ∃ (y : Bx) (a : Act), y.Ok ∧ a.Sh ∧ o = .lst a.ds ∧ ts = [y.o]⟩ ⟨fun _ _ => False⟩ := by
  refine run_ok (hp.at 15 df15 rfl rfl) rfl rfl ?_
  simp_arith [b15, b15_1, b15_2, b15_3]
  refine WC_of (take_ok (hp.sub rfl) (k + 1) x h 7 (by decide) (by decide)) ?_
  rintro o ts ⟨x, r, h, r0, r1, rfl, rfl⟩
  simp_arith [b15_4]
  refine WC_of (names_ok (hp.sub rfl) k x h 2 (by decide) false) ?_
  rintro o ts ⟨x, ys, h, hys, hno, rfl, rfl⟩
  match ys, hys with
  | [n0, n1], _ =>
  have i0 := hno.nm n0 (by simp)
  have i1 := hno.nm n1 (by simp)
  have s0 : n0.length ≤ 30 ∧ asc n0 = true := ⟨by have := isOf_len i0; omega, asc_is i0⟩
  have s1 : n1.length ≤ 30 ∧ asc n1 = true := ⟨by have := isOf_len i1; omega, asc_is i1⟩
  obtain rfl | rfl | rfl | rfl | rfl | rfl | rfl : r = 0 ∨ r = 1 ∨ r = 2 ∨ r = 3 ∨ r = 4 ∨ r = 5 ∨ r = 6 := by omega
  · simp_arith [b15_5, b15_6, tl_ssc, tl_sc, tl_sgc, tl_gsc, tl_gc, ofl_s, ofl_g, ofl_c, for_cons, for_nil, b15_6b_1, b15_6b_1t_1, b15_6b_1e_1, b15_6b_1e_1t_1, b15_6b_1e_1e_1, b15_7]
    refine free_coin (hp.sub rfl) (k + 1) x h ?_
    intro y m r hy hm r0 r1 hat
    simp_arith [hat]
    refine WC_of (take_ok (hp.sub rfl) (k + 1) y hy m (by omega) (by omega)) ?_
    rintro o ts ⟨y, c, hy, c0, c1, rfl, rfl⟩
    simp_arith [b15_5, b15_6, tl_ssc, tl_sc, tl_sgc, tl_gsc, tl_gc, ofl_s, ofl_g, ofl_c, for_cons, for_nil, b15_6b_1, b15_6b_1t_1, b15_6b_1e_1, b15_6b_1e_1t_1, b15_6b_1e_1e_1, b15_7]
    refine ⟨y, .inn n1 n0 (1 + c), hy, ?_, rfl, rfl⟩
    intro s hs
    simp only [Act.strs, List.mem_cons, List.not_mem_nil, or_false] at hs
    rcases hs with rfl | rfl <;> assumption
  · simp_arith [b15_5, b15_6, tl_ssc, tl_sc, tl_sgc, tl_gsc, tl_gc, ofl_s, ofl_g, ofl_c, for_cons, for_nil, b15_6b_1, b15_6b_1t_1, b15_6b_1e_1, b15_6b_1e_1t_1, b15_6b_1e_1e_1, b15_7]
    refine free_coin (hp.sub rfl) (k + 1) x h ?_
    intro y m r hy hm r0 r1 hat
    simp_arith [hat]
    refine WC_of (take_ok (hp.sub rfl) (k + 1) y hy m (by omega) (by omega)) ?_
    rintro o ts ⟨y, c, hy, c0, c1, rfl, rfl⟩
    simp_arith [b15_5, b15_6, tl_ssc, tl_sc, tl_sgc, tl_gsc, tl_gc, ofl_s, ofl_g, ofl_c, for_cons, for_nil, b15_6b_1, b15_6b_1t_1, b15_6b_1e_1, b15_6b_1e_1t_1, b15_6b_1e_1e_1, b15_7]
    refine ⟨y, .own n1 (1 + c), hy, ?_, rfl, rfl⟩
    intro s hs
    simp only [Act.strs, List.mem_cons, List.not_mem_nil, or_false] at hs
    rcases hs with rfl <;> assumption
  · simp_arith [b15_5, b15_6, tl_ssc, tl_sc, tl_sgc, tl_gsc, tl_gc, ofl_s, ofl_g, ofl_c, for_cons, for_nil, b15_6b_1, b15_6b_1t_1, b15_6b_1e_1, b15_6b_1e_1t_1, b15_6b_1e_1e_1, b15_7]
    refine free_coin (hp.sub rfl) (k + 1) x h ?_
    intro y m r hy hm r0 r1 hat
    simp_arith [hat]
    refine WC_of (take_ok (hp.sub rfl) (k + 1) y hy m (by omega) (by omega)) ?_
    rintro o ts ⟨y, c, hy, c0, c1, rfl, rfl⟩
    simp_arith [b15_5, b15_6, tl_ssc, tl_sc, tl_sgc, tl_gsc, tl_gc, ofl_s, ofl_g, ofl_c, for_cons, for_nil, b15_6b_1, b15_6b_1t_1, b15_6b_1e_1, b15_6b_1e_1t_1, b15_6b_1e_1e_1, b15_7]
    refine ⟨y, .pay n1 n0 (1 + c), hy, ?_, rfl, rfl⟩
    intro s hs
    simp only [Act.strs, List.mem_cons, List.not_mem_nil, or_false] at hs
    rcases hs with rfl | rfl <;> assumption
  · simp_arith [b15_5, b15_6, tl_ssc, tl_sc, tl_sgc, tl_gsc, tl_gc, ofl_s, ofl_g, ofl_c, for_cons, for_nil, b15_6b_1, b15_6b_1t_1, b15_6b_1e_1, b15_6b_1e_1t_1, b15_6b_1e_1e_1, b15_7]
    refine WC_of (names_ok (hp.sub rfl) k x h 1 (by decide) true) ?_
    rintro o ts ⟨x, zs, h, hz, hnz, rfl, rfl⟩
    match zs, hz with
    | [t], _ =>
    have it := hnz.nm t (by simp)
    have st : t.length ≤ 30 ∧ asc t = true := ⟨by have := isOf_len it; omega, asc_is it⟩
    simp_arith [b15_5, b15_6, tl_ssc, tl_sc, tl_sgc, tl_gsc, tl_gc, ofl_s, ofl_g, ofl_c, for_cons, for_nil, b15_6b_1, b15_6b_1t_1, b15_6b_1e_1, b15_6b_1e_1t_1, b15_6b_1e_1e_1, b15_7]
    refine free_coin (hp.sub rfl) (k + 1) x h ?_
    intro y m r hy hm r0 r1 hat
    simp_arith [hat]
    refine WC_of (take_ok (hp.sub rfl) (k + 1) y hy m (by omega) (by omega)) ?_
    rintro o ts ⟨y, c, hy, c0, c1, rfl, rfl⟩
    simp_arith [b15_5, b15_6, tl_ssc, tl_sc, tl_sgc, tl_gsc, tl_gc, ofl_s, ofl_g, ofl_c, for_cons, for_nil, b15_6b_1, b15_6b_1t_1, b15_6b_1e_1, b15_6b_1e_1t_1, b15_6b_1e_1e_1, b15_7]
    refine ⟨y, .buy n1 t (1 + c), hy, ?_, rfl, rfl⟩
    intro s hs
    simp only [Act.strs, List.mem_cons, List.not_mem_nil, or_false] at hs
    rcases hs with rfl | rfl <;> assumption
  · simp_arith [b15_5, b15_6, tl_ssc, tl_sc, tl_sgc, tl_gsc, tl_gc, ofl_s, ofl_g, ofl_c, for_cons, for_nil, b15_6b_1, b15_6b_1t_1, b15_6b_1e_1, b15_6b_1e_1t_1, b15_6b_1e_1e_1, b15_7]
    refine WC_of (names_ok (hp.sub rfl) k x h 1 (by decide) true) ?_
    rintro o ts ⟨x, zs, h, hz, hnz, rfl, rfl⟩
    match zs, hz with
    | [t], _ =>
    have it := hnz.nm t (by simp)
    have st : t.length ≤ 30 ∧ asc t = true := ⟨by have := isOf_len it; omega, asc_is it⟩
    simp_arith [b15_5, b15_6, tl_ssc, tl_sc, tl_sgc, tl_gsc, tl_gc, ofl_s, ofl_g, ofl_c, for_cons, for_nil, b15_6b_1, b15_6b_1t_1, b15_6b_1e_1, b15_6b_1e_1t_1, b15_6b_1e_1e_1, b15_7]
    refine free_coin (hp.sub rfl) (k + 1) x h ?_
    intro y m r hy hm r0 r1 hat
    simp_arith [hat]
    refine WC_of (take_ok (hp.sub rfl) (k + 1) y hy m (by omega) (by omega)) ?_
    rintro o ts ⟨y, c, hy, c0, c1, rfl, rfl⟩
    simp_arith [b15_5, b15_6, tl_ssc, tl_sc, tl_sgc, tl_gsc, tl_gc, ofl_s, ofl_g, ofl_c, for_cons, for_nil, b15_6b_1, b15_6b_1t_1, b15_6b_1e_1, b15_6b_1e_1t_1, b15_6b_1e_1e_1, b15_7]
    refine ⟨y, .sell t n0 (1 + c), hy, ?_, rfl, rfl⟩
    intro s hs
    simp only [Act.strs, List.mem_cons, List.not_mem_nil, or_false] at hs
    rcases hs with rfl | rfl <;> assumption
  · simp_arith [b15_5, b15_6, tl_ssc, tl_sc, tl_sgc, tl_gsc, tl_gc, ofl_s, ofl_g, ofl_c, for_cons, for_nil, b15_6b_1, b15_6b_1t_1, b15_6b_1e_1, b15_6b_1e_1t_1, b15_6b_1e_1e_1, b15_7]
    refine free_coin (hp.sub rfl) (k + 1) x h ?_
    intro y m r hy hm r0 r1 hat
    simp_arith [hat]
    refine WC_of (take_ok (hp.sub rfl) (k + 1) y hy m (by omega) (by omega)) ?_
    rintro o ts ⟨y, c, hy, c0, c1, rfl, rfl⟩
    simp_arith [b15_5, b15_6, tl_ssc, tl_sc, tl_sgc, tl_gsc, tl_gc, ofl_s, ofl_g, ofl_c, for_cons, for_nil, b15_6b_1, b15_6b_1t_1, b15_6b_1e_1, b15_6b_1e_1t_1, b15_6b_1e_1e_1, b15_7]
    refine ⟨y, .spend n1 (1 + c), hy, ?_, rfl, rfl⟩
    intro s hs
    simp only [Act.strs, List.mem_cons, List.not_mem_nil, or_false] at hs
    rcases hs with rfl <;> assumption
  · simp_arith [b15_5, b15_6, tl_ssc, tl_sc, tl_sgc, tl_gsc, tl_gc, ofl_s, ofl_g, ofl_c, for_cons, for_nil, b15_6b_1, b15_6b_1t_1, b15_6b_1e_1, b15_6b_1e_1t_1, b15_6b_1e_1e_1, b15_7]
    refine WC_of (names_ok (hp.sub rfl) k x h 1 (by decide) true) ?_
    rintro o ts ⟨x, zs, h, hz, hnz, rfl, rfl⟩
    match zs, hz with
    | [t], _ =>
    have it := hnz.nm t (by simp)
    have st : t.length ≤ 30 ∧ asc t = true := ⟨by have := isOf_len it; omega, asc_is it⟩
    simp_arith [b15_5, b15_6, tl_ssc, tl_sc, tl_sgc, tl_gsc, tl_gc, ofl_s, ofl_g, ofl_c, for_cons, for_nil, b15_6b_1, b15_6b_1t_1, b15_6b_1e_1, b15_6b_1e_1t_1, b15_6b_1e_1e_1, b15_7]
    refine free_coin (hp.sub rfl) (k + 1) x h ?_
    intro y m r hy hm r0 r1 hat
    simp_arith [hat]
    refine WC_of (take_ok (hp.sub rfl) (k + 1) y hy m (by omega) (by omega)) ?_
    rintro o ts ⟨y, c, hy, c0, c1, rfl, rfl⟩
    simp_arith [b15_5, b15_6, tl_ssc, tl_sc, tl_sgc, tl_gsc, tl_gc, ofl_s, ofl_g, ofl_c, for_cons, for_nil, b15_6b_1, b15_6b_1t_1, b15_6b_1e_1, b15_6b_1e_1t_1, b15_6b_1e_1e_1, b15_7]
    refine ⟨y, .worth t (1 + c), hy, ?_, rfl, rfl⟩
    intro s hs
    simp only [Act.strs, List.mem_cons, List.not_mem_nil, or_false] at hs
    rcases hs with rfl <;> assumption

theorem at_int {xs : List D} {r : Int} (h : ∀ d ∈ xs, ∃ i, d = .int i) (h0 : 0 ≤ r) (h1 : r < xs.length) (h2 : xs.length < 9223372036854775808) : ∃ i, at? xs r = some (.int i) := by
  obtain ⟨d, hd, e⟩ := at_mem h0 h1 h2
  obtain ⟨i, rfl⟩ := h d hd
  exact ⟨i, e⟩
theorem at_str {xs : List D} {r : Int} {n : Nat} (h : ∀ d ∈ xs, ∃ t : String, d = .str t ∧ t.length ≤ n) (h0 : 0 ≤ r) (h1 : r < xs.length) (h2 : xs.length < 9223372036854775808) : ∃ t : String, t.length ≤ n ∧ at? xs r = some (.str t) := by
  obtain ⟨d, hd, e⟩ := at_mem h0 h1 h2
  obtain ⟨i, rfl, hi⟩ := h d hd
  exact ⟨i, hi, e⟩
theorem bent_side {o : String} (h : o.length ≤ 30) : o.length ≤ 5592405 ∧ o.length ≤ 5592405 ∧ o.length + o.length ≤ 16777216 ∧ (o ++ o).length + "abcdefgh".length ≤ 16777216 ∧ o.length ≤ 16777216 ∧ (String.ofList (cut o.toList (loN o.length none) (hiN o.length (some 3)))).length + " a".length ≤ 16777216 := by
  have e1 : "abcdefgh".length = 8 := by decide
  have e2 : " a".length = 2 := by decide
  have c1 := cut_len (o.toList) (loN o.length none) (hiN o.length (some 3))
  rw [len_list] at c1
  refine ⟨by omega, by omega, by omega, ?_, by omega, ?_⟩
  · rw [String.length_append, e1]; omega
  · rw [String.length_ofList, e2]; omega
theorem bent_at {o p : String} (h : o.length ≤ 30) (hp : p.length ≤ 30) {r : Int} (h0 : 0 ≤ r) (h1 : r < 6) : ∃ t : String, t.length ≤ 100 ∧ at? [D.str "", .str (String.ofList (o.toList.map upC)), .str (String.ofList (o.toList.map loC)), .str (o ++ o ++ "abcdefgh"), .str (String.ofList (cut o.toList (loN o.length none) (hiN o.length (some 3))) ++ " a"), .str p] r = some (.str t) := by
  have e1 : "abcdefgh".length = 8 := by decide
  have e2 : " a".length = 2 := by decide
  have c1 := cut_len (o.toList) (loN o.length none) (hiN o.length (some 3))
  rw [len_list] at c1
  refine at_str ?_ h0 h1 (by simp)
  intro d hd
  simp only [List.mem_cons, List.not_mem_nil, or_false] at hd
  rcases hd with rfl | rfl | rfl | rfl | rfl | rfl
  · exact ⟨_, rfl, by decide⟩
  · exact ⟨_, rfl, by rw [String.length_ofList, List.length_map, len_list]; omega⟩
  · exact ⟨_, rfl, by rw [String.length_ofList, List.length_map, len_list]; omega⟩
  · exact ⟨_, rfl, by rw [String.length_append, String.length_append, e1]; omega⟩
  · exact ⟨_, rfl, by rw [String.length_append, String.length_ofList, e2]; omega⟩
  · exact ⟨_, rfl, by omega⟩
theorem bent_ok (hp : Has pg [5, 16]) (k : Nat) (x : Bx) (h : x.Ok) (a : Act) (ha : a.Sh) : @WC (run glob pg (k + 2) 16 [x.o, .d (.lst a.ds)]) ⟨fun o ts => ∃ (y : Bx) (b : Act), y.Ok ∧ b.Fit ∧ o = .d (.lst b.ds) ∧ ts = [y.o, .d (.lst a.ds)]⟩ ⟨fun _ _ => False⟩ := by
  refine run_ok (hp.at 16 df16 rfl rfl) rfl rfl ?_
  cases a with
  | inn o p c =>
    obtain ⟨l0, a0⟩ := ha o (by simp [Act.strs])
    obtain ⟨l1, a1⟩ := ha p (by simp [Act.strs])
    simp_arith [b16, b16_1, Act.ds]
    refine WC_of (take_ok (hp.sub rfl) k x h 3 (by decide) (by decide)) ?_
    rintro o9 ts ⟨x, r, h, r0, r1, rfl, rfl⟩
    obtain rfl | rfl | rfl : r = 0 ∨ r = 1 ∨ r = 2 := by omega
    · simp_arith [b16_2, b16_3, b16_3t_1, b16_3t_2, b16_3t_3, b16_3e_1, b16_3e_2, a0]
      obtain ⟨q1, q2, q3, q4, q5, q6⟩ := bent_side l0
      refine ⟨q1, q2, q3, q4, q5, q6, WC_of (take_ok (hp.sub rfl) k x h 6 (by decide) (by decide)) ?_⟩
      rintro o9 ts ⟨x, r, h, r0, r1, rfl, rfl⟩
      obtain ⟨t9, ht, hat⟩ := bent_at l0 l0 r0 r1
      simp_arith [hat, b16_4]
      refine ⟨x, .inn t9 p c, h, ?_, rfl, rfl⟩
      intro s hs
      simp only [Act.strs, List.mem_cons, List.not_mem_nil, or_false] at hs
      rcases hs with rfl | rfl <;> omega
    · simp_arith [b16_2, b16_3, b16_3t_1, b16_3t_2, b16_3t_3, b16_3e_1, b16_3e_2, a1]
      obtain ⟨q1, q2, q3, q4, q5, q6⟩ := bent_side l1
      refine ⟨q1, q2, q3, q4, q5, q6, WC_of (take_ok (hp.sub rfl) k x h 6 (by decide) (by decide)) ?_⟩
      rintro o9 ts ⟨x, r, h, r0, r1, rfl, rfl⟩
      obtain ⟨t9, ht, hat⟩ := bent_at l1 l0 r0 r1
      simp_arith [hat, b16_4]
      refine ⟨x, .inn o t9 c, h, ?_, rfl, rfl⟩
      intro s hs
      simp only [Act.strs, List.mem_cons, List.not_mem_nil, or_false] at hs
      rcases hs with rfl | rfl <;> omega
    · simp_arith [b16_2, b16_3, b16_3t_1, b16_3t_2, b16_3t_3, b16_3e_1, b16_3e_2]
      refine WC_of (take_ok (hp.sub rfl) k x h _ (by decide) (by decide)) ?_
      rintro o9 ts ⟨x, f, h, f0, f1, rfl, rfl⟩
      simp_arith []
      refine WC_of (take_ok (hp.sub rfl) k x h 7 (by decide) (by decide)) ?_
      rintro o9 ts ⟨x, r, h, r0, r1, rfl, rfl⟩
      obtain ⟨c9, hat⟩ := at_int (xs := [D.int 0, .int (-1), .int 1000000000000, .int 1000000000001, .int (100000000000000000000000000000 - f), .int (-(100000000000000000000000000000 - f)), .int 1]) (by simp) r0 r1 (by simp)
      simp_arith [hat, b16_4]
      refine ⟨x, .inn o p c9, h, ?_, rfl, rfl⟩
      intro s hs
      simp only [Act.strs, List.mem_cons, List.not_mem_nil, or_false] at hs
      rcases hs with rfl | rfl <;> omega
  | own p c =>
    obtain ⟨l0, a0⟩ := ha p (by simp [Act.strs])
    simp_arith [b16, b16_1, Act.ds]
    refine WC_of (take_ok (hp.sub rfl) k x h 2 (by decide) (by decide)) ?_
    rintro o9 ts ⟨x, r, h, r0, r1, rfl, rfl⟩
    obtain rfl | rfl : r = 0 ∨ r = 1 := by omega
    · simp_arith [b16_2, b16_3, b16_3t_1, b16_3t_2, b16_3t_3, b16_3e_1, b16_3e_2, a0]
      obtain ⟨q1, q2, q3, q4, q5, q6⟩ := bent_side l0
      refine ⟨q1, q2, q3, q4, q5, q6, WC_of (take_ok (hp.sub rfl) k x h 6 (by decide) (by decide)) ?_⟩
      rintro o9 ts ⟨x, r, h, r0, r1, rfl, rfl⟩
      obtain ⟨t9, ht, hat⟩ := bent_at l0 l0 r0 r1
      simp_arith [hat, b16_4]
      refine ⟨x, .own t9 c, h, ?_, rfl, rfl⟩
      intro s hs
      simp only [Act.strs, List.mem_cons, List.not_mem_nil, or_false] at hs
      rcases hs with rfl <;> omega
    · simp_arith [b16_2, b16_3, b16_3t_1, b16_3t_2, b16_3t_3, b16_3e_1, b16_3e_2]
      refine WC_of (take_ok (hp.sub rfl) k x h _ (by decide) (by decide)) ?_
      rintro o9 ts ⟨x, f, h, f0, f1, rfl, rfl⟩
      simp_arith []
      refine WC_of (take_ok (hp.sub rfl) k x h 7 (by decide) (by decide)) ?_
      rintro o9 ts ⟨x, r, h, r0, r1, rfl, rfl⟩
      obtain ⟨c9, hat⟩ := at_int (xs := [D.int 0, .int (-1), .int 1000000000000, .int 1000000000001, .int (100000000000000000000000000000 - f), .int (-(100000000000000000000000000000 - f)), .int 1]) (by simp) r0 r1 (by simp)
      simp_arith [hat, b16_4]
      refine ⟨x, .own p c9, h, ?_, rfl, rfl⟩
      intro s hs
      simp only [Act.strs, List.mem_cons, List.not_mem_nil, or_false] at hs
      rcases hs with rfl <;> omega
  | pay p q c =>
    obtain ⟨l0, a0⟩ := ha p (by simp [Act.strs])
    obtain ⟨l1, a1⟩ := ha q (by simp [Act.strs])
    simp_arith [b16, b16_1, Act.ds]
    refine WC_of (take_ok (hp.sub rfl) k x h 3 (by decide) (by decide)) ?_
    rintro o9 ts ⟨x, r, h, r0, r1, rfl, rfl⟩
    obtain rfl | rfl | rfl : r = 0 ∨ r = 1 ∨ r = 2 := by omega
    · simp_arith [b16_2, b16_3, b16_3t_1, b16_3t_2, b16_3t_3, b16_3e_1, b16_3e_2, a0]
      obtain ⟨q1, q2, q3, q4, q5, q6⟩ := bent_side l0
      refine ⟨q1, q2, q3, q4, q5, q6, WC_of (take_ok (hp.sub rfl) k x h 6 (by decide) (by decide)) ?_⟩
      rintro o9 ts ⟨x, r, h, r0, r1, rfl, rfl⟩
      obtain ⟨t9, ht, hat⟩ := bent_at l0 l0 r0 r1
      simp_arith [hat, b16_4]
      refine ⟨x, .pay t9 q c, h, ?_, rfl, rfl⟩
      intro s hs
      simp only [Act.strs, List.mem_cons, List.not_mem_nil, or_false] at hs
      rcases hs with rfl | rfl <;> omega
    · simp_arith [b16_2, b16_3, b16_3t_1, b16_3t_2, b16_3t_3, b16_3e_1, b16_3e_2, a1]
      obtain ⟨q1, q2, q3, q4, q5, q6⟩ := bent_side l1
      refine ⟨q1, q2, q3, q4, q5, q6, WC_of (take_ok (hp.sub rfl) k x h 6 (by decide) (by decide)) ?_⟩
      rintro o9 ts ⟨x, r, h, r0, r1, rfl, rfl⟩
      obtain ⟨t9, ht, hat⟩ := bent_at l1 l0 r0 r1
      simp_arith [hat, b16_4]
      refine ⟨x, .pay p t9 c, h, ?_, rfl, rfl⟩
      intro s hs
      simp only [Act.strs, List.mem_cons, List.not_mem_nil, or_false] at hs
      rcases hs with rfl | rfl <;> omega
    · simp_arith [b16_2, b16_3, b16_3t_1, b16_3t_2, b16_3t_3, b16_3e_1, b16_3e_2]
      refine WC_of (take_ok (hp.sub rfl) k x h _ (by decide) (by decide)) ?_
      rintro o9 ts ⟨x, f, h, f0, f1, rfl, rfl⟩
      simp_arith []
      refine WC_of (take_ok (hp.sub rfl) k x h 7 (by decide) (by decide)) ?_
      rintro o9 ts ⟨x, r, h, r0, r1, rfl, rfl⟩
      obtain ⟨c9, hat⟩ := at_int (xs := [D.int 0, .int (-1), .int 1000000000000, .int 1000000000001, .int (100000000000000000000000000000 - f), .int (-(100000000000000000000000000000 - f)), .int 1]) (by simp) r0 r1 (by simp)
      simp_arith [hat, b16_4]
      refine ⟨x, .pay p q c9, h, ?_, rfl, rfl⟩
      intro s hs
      simp only [Act.strs, List.mem_cons, List.not_mem_nil, or_false] at hs
      rcases hs with rfl | rfl <;> omega
  | buy p t c =>
    obtain ⟨l0, a0⟩ := ha p (by simp [Act.strs])
    obtain ⟨l1, a1⟩ := ha t (by simp [Act.strs])
    simp_arith [b16, b16_1, Act.ds]
    refine WC_of (take_ok (hp.sub rfl) k x h 3 (by decide) (by decide)) ?_
    rintro o9 ts ⟨x, r, h, r0, r1, rfl, rfl⟩
    obtain rfl | rfl | rfl : r = 0 ∨ r = 1 ∨ r = 2 := by omega
    · simp_arith [b16_2, b16_3, b16_3t_1, b16_3t_2, b16_3t_3, b16_3e_1, b16_3e_2, a0]
      obtain ⟨q1, q2, q3, q4, q5, q6⟩ := bent_side l0
      refine ⟨q1, q2, q3, q4, q5, q6, WC_of (take_ok (hp.sub rfl) k x h 6 (by decide) (by decide)) ?_⟩
      rintro o9 ts ⟨x, r, h, r0, r1, rfl, rfl⟩
      obtain ⟨t9, ht, hat⟩ := bent_at l0 l0 r0 r1
      simp_arith [hat, b16_4]
      refine ⟨x, .buy t9 t c, h, ?_, rfl, rfl⟩
      intro s hs
      simp only [Act.strs, List.mem_cons, List.not_mem_nil, or_false] at hs
      rcases hs with rfl | rfl <;> omega
    · simp_arith [b16_2, b16_3, b16_3t_1, b16_3t_2, b16_3t_3, b16_3e_1, b16_3e_2, a1]
      obtain ⟨q1, q2, q3, q4, q5, q6⟩ := bent_side l1
      refine ⟨q1, q2, q3, q4, q5, q6, WC_of (take_ok (hp.sub rfl) k x h 6 (by decide) (by decide)) ?_⟩
      rintro o9 ts ⟨x, r, h, r0, r1, rfl, rfl⟩
      obtain ⟨t9, ht, hat⟩ := bent_at l1 l0 r0 r1
      simp_arith [hat, b16_4]
      refine ⟨x, .buy p t9 c, h, ?_, rfl, rfl⟩
      intro s hs
      simp only [Act.strs, List.mem_cons, List.not_mem_nil, or_false] at hs
      rcases hs with rfl | rfl <;> omega
    · simp_arith [b16_2, b16_3, b16_3t_1, b16_3t_2, b16_3t_3, b16_3e_1, b16_3e_2]
      refine WC_of (take_ok (hp.sub rfl) k x h _ (by decide) (by decide)) ?_
      rintro o9 ts ⟨x, f, h, f0, f1, rfl, rfl⟩
      simp_arith []
      refine WC_of (take_ok (hp.sub rfl) k x h 7 (by decide) (by decide)) ?_
      rintro o9 ts ⟨x, r, h, r0, r1, rfl, rfl⟩
      obtain ⟨c9, hat⟩ := at_int (xs := [D.int 0, .int (-1), .int 1000000000000, .int 1000000000001, .int (100000000000000000000000000000 - f), .int (-(100000000000000000000000000000 - f)), .int 1]) (by simp) r0 r1 (by simp)
      simp_arith [hat, b16_4]
      refine ⟨x, .buy p t c9, h, ?_, rfl, rfl⟩
      intro s hs
      simp only [Act.strs, List.mem_cons, List.not_mem_nil, or_false] at hs
      rcases hs with rfl | rfl <;> omega
  | sell t p c =>
    obtain ⟨l0, a0⟩ := ha t (by simp [Act.strs])
    obtain ⟨l1, a1⟩ := ha p (by simp [Act.strs])
    simp_arith [b16, b16_1, Act.ds]
    refine WC_of (take_ok (hp.sub rfl) k x h 3 (by decide) (by decide)) ?_
    rintro o9 ts ⟨x, r, h, r0, r1, rfl, rfl⟩
    obtain rfl | rfl | rfl : r = 0 ∨ r = 1 ∨ r = 2 := by omega
    · simp_arith [b16_2, b16_3, b16_3t_1, b16_3t_2, b16_3t_3, b16_3e_1, b16_3e_2, a0]
      obtain ⟨q1, q2, q3, q4, q5, q6⟩ := bent_side l0
      refine ⟨q1, q2, q3, q4, q5, q6, WC_of (take_ok (hp.sub rfl) k x h 6 (by decide) (by decide)) ?_⟩
      rintro o9 ts ⟨x, r, h, r0, r1, rfl, rfl⟩
      obtain ⟨t9, ht, hat⟩ := bent_at l0 l0 r0 r1
      simp_arith [hat, b16_4]
      refine ⟨x, .sell t9 p c, h, ?_, rfl, rfl⟩
      intro s hs
      simp only [Act.strs, List.mem_cons, List.not_mem_nil, or_false] at hs
      rcases hs with rfl | rfl <;> omega
    · simp_arith [b16_2, b16_3, b16_3t_1, b16_3t_2, b16_3t_3, b16_3e_1, b16_3e_2, a1]
      obtain ⟨q1, q2, q3, q4, q5, q6⟩ := bent_side l1
      refine ⟨q1, q2, q3, q4, q5, q6, WC_of (take_ok (hp.sub rfl) k x h 6 (by decide) (by decide)) ?_⟩
      rintro o9 ts ⟨x, r, h, r0, r1, rfl, rfl⟩
      obtain ⟨t9, ht, hat⟩ := bent_at l1 l0 r0 r1
      simp_arith [hat, b16_4]
      refine ⟨x, .sell t t9 c, h, ?_, rfl, rfl⟩
      intro s hs
      simp only [Act.strs, List.mem_cons, List.not_mem_nil, or_false] at hs
      rcases hs with rfl | rfl <;> omega
    · simp_arith [b16_2, b16_3, b16_3t_1, b16_3t_2, b16_3t_3, b16_3e_1, b16_3e_2]
      refine WC_of (take_ok (hp.sub rfl) k x h _ (by decide) (by decide)) ?_
      rintro o9 ts ⟨x, f, h, f0, f1, rfl, rfl⟩
      simp_arith []
      refine WC_of (take_ok (hp.sub rfl) k x h 7 (by decide) (by decide)) ?_
      rintro o9 ts ⟨x, r, h, r0, r1, rfl, rfl⟩
      obtain ⟨c9, hat⟩ := at_int (xs := [D.int 0, .int (-1), .int 1000000000000, .int 1000000000001, .int (100000000000000000000000000000 - f), .int (-(100000000000000000000000000000 - f)), .int 1]) (by simp) r0 r1 (by simp)
      simp_arith [hat, b16_4]
      refine ⟨x, .sell t p c9, h, ?_, rfl, rfl⟩
      intro s hs
      simp only [Act.strs, List.mem_cons, List.not_mem_nil, or_false] at hs
      rcases hs with rfl | rfl <;> omega
  | spend p c =>
    obtain ⟨l0, a0⟩ := ha p (by simp [Act.strs])
    simp_arith [b16, b16_1, Act.ds]
    refine WC_of (take_ok (hp.sub rfl) k x h 2 (by decide) (by decide)) ?_
    rintro o9 ts ⟨x, r, h, r0, r1, rfl, rfl⟩
    obtain rfl | rfl : r = 0 ∨ r = 1 := by omega
    · simp_arith [b16_2, b16_3, b16_3t_1, b16_3t_2, b16_3t_3, b16_3e_1, b16_3e_2, a0]
      obtain ⟨q1, q2, q3, q4, q5, q6⟩ := bent_side l0
      refine ⟨q1, q2, q3, q4, q5, q6, WC_of (take_ok (hp.sub rfl) k x h 6 (by decide) (by decide)) ?_⟩
      rintro o9 ts ⟨x, r, h, r0, r1, rfl, rfl⟩
      obtain ⟨t9, ht, hat⟩ := bent_at l0 l0 r0 r1
      simp_arith [hat, b16_4]
      refine ⟨x, .spend t9 c, h, ?_, rfl, rfl⟩
      intro s hs
      simp only [Act.strs, List.mem_cons, List.not_mem_nil, or_false] at hs
      rcases hs with rfl <;> omega
    · simp_arith [b16_2, b16_3, b16_3t_1, b16_3t_2, b16_3t_3, b16_3e_1, b16_3e_2]
      refine WC_of (take_ok (hp.sub rfl) k x h _ (by decide) (by decide)) ?_
      rintro o9 ts ⟨x, f, h, f0, f1, rfl, rfl⟩
      simp_arith []
      refine WC_of (take_ok (hp.sub rfl) k x h 7 (by decide) (by decide)) ?_
      rintro o9 ts ⟨x, r, h, r0, r1, rfl, rfl⟩
      obtain ⟨c9, hat⟩ := at_int (xs := [D.int 0, .int (-1), .int 1000000000000, .int 1000000000001, .int (100000000000000000000000000000 - f), .int (-(100000000000000000000000000000 - f)), .int 1]) (by simp) r0 r1 (by simp)
      simp_arith [hat, b16_4]
      refine ⟨x, .spend p c9, h, ?_, rfl, rfl⟩
      intro s hs
      simp only [Act.strs, List.mem_cons, List.not_mem_nil, or_false] at hs
      rcases hs with rfl <;> omega
  | worth t c =>
    obtain ⟨l0, a0⟩ := ha t (by simp [Act.strs])
    simp_arith [b16, b16_1, Act.ds]
    refine WC_of (take_ok (hp.sub rfl) k x h 2 (by decide) (by decide)) ?_
    rintro o9 ts ⟨x, r, h, r0, r1, rfl, rfl⟩
    obtain rfl | rfl : r = 0 ∨ r = 1 := by omega
    · simp_arith [b16_2, b16_3, b16_3t_1, b16_3t_2, b16_3t_3, b16_3e_1, b16_3e_2, a0]
      obtain ⟨q1, q2, q3, q4, q5, q6⟩ := bent_side l0
      refine ⟨q1, q2, q3, q4, q5, q6, WC_of (take_ok (hp.sub rfl) k x h 6 (by decide) (by decide)) ?_⟩
      rintro o9 ts ⟨x, r, h, r0, r1, rfl, rfl⟩
      obtain ⟨t9, ht, hat⟩ := bent_at l0 l0 r0 r1
      simp_arith [hat, b16_4]
      refine ⟨x, .worth t9 c, h, ?_, rfl, rfl⟩
      intro s hs
      simp only [Act.strs, List.mem_cons, List.not_mem_nil, or_false] at hs
      rcases hs with rfl <;> omega
    · simp_arith [b16_2, b16_3, b16_3t_1, b16_3t_2, b16_3t_3, b16_3e_1, b16_3e_2]
      refine WC_of (take_ok (hp.sub rfl) k x h _ (by decide) (by decide)) ?_
      rintro o9 ts ⟨x, f, h, f0, f1, rfl, rfl⟩
      simp_arith []
      refine WC_of (take_ok (hp.sub rfl) k x h 7 (by decide) (by decide)) ?_
      rintro o9 ts ⟨x, r, h, r0, r1, rfl, rfl⟩
      obtain ⟨c9, hat⟩ := at_int (xs := [D.int 0, .int (-1), .int 1000000000000, .int 1000000000001, .int (100000000000000000000000000000 - f), .int (-(100000000000000000000000000000 - f)), .int 1]) (by simp) r0 r1 (by simp)
      simp_arith [hat, b16_4]
      refine ⟨x, .worth t c9, h, ?_, rfl, rfl⟩
      intro s hs
      simp only [Act.strs, List.mem_cons, List.not_mem_nil, or_false] at hs
      rcases hs with rfl <;> omega

theorem law_k02_ok (hp : Has pg [1, 2, 3, 4, 5, 6, 10, 11, 12, 13, 14, 15, 16, 17]) (hg : Gl1 glob) (ns : List Int) (hn : ns.length ≤ 63) :
    @WC (run glob pg 10 17 [.d (.scr ns)]) ⟨fun o ts => o = .d (.bl true)⟩ ⟨fun _ _ => False⟩ := by
  refine run_ok (hp.at 17 df17 rfl rfl) rfl rfl ?_
  simp_arith [b17, b17_1]
  refine WC_of (box_ok (hp.sub rfl) 8 ns hn) ?_
  rintro o ts ⟨x, hx, rfl, rfl⟩
  simp_arith [b17_2]
  refine for_inv (fun rest e => ∃ x : Bx, x.Ok ∧ e = [some (.d (.scr ns)), some x.o, none, none, none]) ?_ ?_ ⟨x, hx, rfl⟩
  · rintro d rest e ⟨x, hx, rfl⟩
    simp_arith [b17_2b_1]
    refine WC_of (free_act_ok (hp.sub rfl) 6 x hx) ?_
    rintro o ts ⟨x, a, hx, ha, rfl, rfl⟩
    simp_arith []
    refine ws_cut (fun e => ∃ (x : Bx) (a : Act) (o : O), x.Ok ∧ a.Fit ∧ o.toD = .lst a.ds ∧ e = [some (.d (.scr ns)), some x.o, some (.d d), some o, none]) ?_ ?_
    · simp_arith [b17_2b_2, b17_2b_2t_1]
      refine WC_of (take_ok (hp.sub rfl) 8 x hx 3 (by decide) (by decide)) ?_
      rintro o ts ⟨x, r, hx, r0, r1, rfl, rfl⟩
      simp_arith []
      split
      · refine WC_of (bent_ok (hp.sub rfl) 7 x hx a ha) ?_
        rintro o ts ⟨x, b, hx, hb, rfl, rfl⟩
        simp_arith []
        exact ⟨x, b, _, hx, hb, rfl, rfl⟩
      · exact ⟨x, a, _, hx, fun s hs => by have := (ha s hs).1; omega, rfl, rfl⟩
    · rintro e ⟨x, a, o, hx, ha, ho, rfl⟩
      have e1 : (D.tup a.ds) = a.d := rfl
      simp_arith [b17_2b_3, b17_2b_4, ho, e1]
      refine WC_of (good_act_ok (hp.sub rfl) hg 5 a ha) ?_
      rintro o1 ts ⟨rfl, rfl⟩
      simp_arith []
      refine WC_of (l_act_good_ok (hp.sub rfl) 7 a ha) ?_
      rintro o1 ts ⟨rfl, rfl⟩
      simp_arith []
      refine WC_of (same_sc (hp.sub rfl) (.bl (goodA a)) rfl 8 _ _ rfl rfl) ?_
      rintro o1 ts ⟨rfl, t1, t2, rfl, _, _, h3, h4⟩
      simp_arith []
      exact ⟨x, hx, rfl⟩
  · rintro e ⟨x, hx, rfl⟩
    simp_arith [b17_3]
end Wx

set_option Elab.async false
set_option linter.all false
set_option maxRecDepth 100000
set_option maxHeartbeats 4000000
namespace Wx
open Vm
local macro_rules | `(tactic| simp_arith [$as,*]) => `(tactic| simp only [e_var, e_mv, e_fv, e_k, e_g, e_opw, e_mop, e_mopv, dfl_k, e_slcV, e_slcE, e_ch, e_and, e_or, e_not, e_ite, e_lst, e_tup, e_dic0, e_dic, q_dic, pairD_nil, pairD_cons, Wdc_some, Wky_int, Wky_str, WS_dput, e_lcw, e_callw, e_mut, m_app, m_ext, m_clr, Wli_some, evAnd_1, evAnd_2, evOr_1, evOr_2, evI_nil, evI_1, evL_nil, evL_var, evL_o, evV_nil, evV_cons, evA_nil, evA_var, evA_o, evTs_nil, evTs_1, Wi_int, q_var, slc_f, slc_t, q_k, q_g, q_op, q_mop, q_slc, q_ch, q_and, q_or, q_not, q_ite, q_lst, q_tup, q_lc, qs_nil, qs_cons, qcs_nil, qcs_cons, qI_nil, qI_cons, qTs_nil, qTs_cons, qAnd_1, qAnd_2, qOr_1, qOr_2, WbD_bl, Wch_bl, WiD_int, WS_seq, WS_ex, WS_setn, WS_sett, WS_par, WS_aug, Wint_some, WS_sput, WS_saug, WDint_int, WS_iff, WS_for, WS_whl, WS_ret, WS_retN, WS_bad, WS_brk, WS_cnt, WS_pass, W_evT, WS_forget, WO_some, WO_none, Wsl_some, Wb_bl, WO_if, WO_map, WO_bindo, W_slot, W_okr, if_F, F_if, if_and2, if_or2, opD, oAdd, oSub, oMul, oFdv, oMod, oPow, oNeg, oCmp, oEq, oIsN, oIn, inD, oLen, oAll, oAny, oSum, oMn1, oMx1, oMn2, oMx2, oLst, oTup, oDct, oInt, oIdx, oSl, oRev, oJoin, oGet1, oGet2, oIsi, oTab, oLrg, oStr, oInT, oSplit, tabOf, lkT, ofK, oUpper, oLower, oIsup, oIslo, String.reduceEq, Option.isSome_some, List.nodup_cons, isScr, isiB, bls, intsOf, strsOf, eqD_ii, eqD_ss, eqD_bb, eqD_nn, eqD_ni, eqD_ns, eqD_in, eqD_sn, eqD_is, eqD_si, eqD_ll, eqD_tt, eqD_lt, eqD_tl, eqDs_nn, eqDs_cc, eqDs_nc, eqDs_cn, shal_non, shal_bl, shal_int, shal_str, shal_nil, shal_cons, shal_lst, shal_tup, flat, inL, valD, keyD, big_eq, mk, ow_int, ow_str, ow_bl, ow_non, ow_tup, ow_lst, ow_dct, toD_d, toD_lst, toD_dct, quiet_var, quiet_k, quiet_g, quiet_nil, quiet_mv, quiet_fv, quiet_call, quiet_mut, quiet_op, quiet_mop, quiet_slc, quiet_ch, quiet_and, quiet_or, quiet_not, quiet_ite, quiet_lst, quiet_tup, quiet_dic, quiet_lc, quiet_cons, lentE, tyD, mutRule, itD, seqD, at0, at1, at2, at3, at4, at5, at6, at7, atm1, ix0, ix1, ix2, ix3, ix4, arOk, arIx_nil, arIx_sl, arIx_tm, arOs_nil, arOs_sl, arOs_tm, back_nil, back_sl, back_tm, isD, outs_nil, outs_cons, forget_nil, forget_cons, tgSet_n, tgSet_cons, tgSets_nil, tgSets_cons, tgSlots_n, tgSlots_nil, tgSlots_cons, List.set_cons_zero, List.set_cons_succ, List.getElem?_cons_zero, List.getElem?_cons_succ, List.length_cons, List.length_nil, List.length_map, List.map_cons, List.map_nil, List.cons_append, List.nil_append, List.append_nil, List.replicate_succ, List.replicate_zero, List.getLast?_cons_cons, List.getLast?_singleton, List.nodup_cons, List.nodup_nil, List.mem_cons, List.not_mem_nil, List.contains_cons, List.contains_nil, List.all_cons, List.all_nil, decide_true, decide_false, Bool.true_or, Bool.or_true, Bool.false_or, Bool.or_false, Bool.and_true, Bool.true_and, Bool.false_and, Bool.and_false, Bool.not_true, Bool.not_false, Bool.false_bne, Bool.xor_false, Bool.false_xor, Bool.true_xor, Bool.xor_true, beq_iff_eq, bne_iff_ne, decide_eq_true_eq, decide_not, Bool.not_eq_true', Bool.false_eq_true, Bool.true_eq_false, Bool.not_eq_true, decide_eq_false_iff_not, beq_self_eq_true, beq_eq_false_iff_ne, bne_self_eq_false, Bool.and_eq_true, Bool.or_eq_true, true_and, and_true, false_and, and_false, or_false, false_or, or_true, true_or, not_true_eq_false, not_false_eq_true, ne_eq, reduceCtorEq, implies_true, forall_const, Option.some.injEq, exists_eq_left', exists_eq_left, eq_self, if_true, if_false, ↓reduceIte, Nat.reduceAdd, Nat.reduceSub, Nat.reduceMul, Nat.reduceLT, Nat.reduceLeDiff, Nat.reduceEqDiff, Nat.reduceBEq, Nat.zero_add, Nat.succ_eq_add_one, Nat.lt_add_left_iff_pos, Nat.add_lt_add_iff_right, Nat.not_lt_zero, Nat.lt_irrefl, Nat.zero_lt_succ, Nat.one_ne_zero, Nat.add_one_ne_zero, Nat.succ_ne_zero, Nat.reduceSucc, Int.reducePow, Int.reduceMul, Int.reduceAdd, Int.reduceSub, Int.reduceNeg, Int.reduceLT, Int.reduceLE, Int.reduceToNat, Int.reduceNegSucc, Int.reduceEq, Int.reduceNe, Int.cast_ofNat_Int, Int.natCast_zero, Int.natCast_one, Int.reduceBEq, Int.reduceMod, Int.reduceDiv, nat10, cl_one, Option.getD_none, Option.getD_some, $as,*])
variable {glob : String → Option D} {pg : Nat → Option Df}
/-! ### what vessels hold -/
abbrev Hd := List (String × Int)
def encH (h : Hd) : List (D × D) := h.map fun p => (.str p.1, .int p.2)
def lookH : Hd → String → Option Int
  | [], _ => none
  | p :: r, s => if p.1 = s then some p.2 else lookH r s
def getH (h : Hd) (s : String) : Int := (lookH h s).getD 0
def putH (h : Hd) (s : String) (v : Int) : Hd := if (h.any fun p => p.1 == s) = true then h.map (fun p => if p.1 = s then (p.1, v) else p) else h ++ [(s, v)]
theorem valD_enc : ∀ (h : Hd) (s : String), valD (encH h) (.inr s) = (lookH h s).map .int
  | [], _ => rfl
  | p :: r, s => by
    show (if keyD (.str p.1) = some (.inr s) then some (D.int p.2) else valD (encH r) (.inr s)) = _
    unfold lookH
    by_cases c : p.1 = s
    · rw [if_pos (by rw [c]; rfl), if_pos c]; rfl
    · rw [if_neg (fun z => c (by injection z with z; injection z)), if_neg c, valD_enc r s]
theorem get_enc (h : Hd) (s : String) : (valD (encH h) (.inr s)).getD (.int 0) = .int (getH h s) := by
  rw [valD_enc, getH]
  cases lookH h s <;> rfl
theorem enc_len (h : Hd) : (encH h).length = h.length := List.length_map _
theorem put_enc (h : Hd) (s : String) (v : Int) : putD (encH h) (.str s) (.inr s) (.int v) = encH (putH h s v) := by
  have ha : ((encH h).any fun p => decide (keyD p.1 = some (.inr s))) = h.any fun p => p.1 == s := by
    unfold encH
    rw [List.any_map]
    congr 1
    funext p
    show decide (keyD (.str p.1) = some (.inr s)) = (p.1 == s)
    by_cases c : p.1 = s
    · rw [c]; simp [keyD]
    · rw [decide_eq_false (fun z => c (by injection z with z; injection z)), beq_eq_false_iff_ne.mpr c]
  unfold putD putH
  rw [ha]
  by_cases c : (h.any fun p => p.1 == s) = true
  · rw [if_pos c, if_pos c]
    unfold encH
    rw [List.map_map, List.map_map]
    apply List.map_congr_left
    intro p _
    show (if keyD (.str p.1) = some (.inr s) then (D.str p.1, D.int v) else (D.str p.1, D.int p.2)) = _
    by_cases c : p.1 = s
    · rw [if_pos (by rw [c]; rfl)]; simp [c]
    · rw [if_neg (fun z => c (by injection z with z; injection z))]; simp [c]
  · rw [if_neg c, if_neg c]
    unfold encH
    rw [List.map_append]; rfl
theorem look_put (h : Hd) (s u : String) (v : Int) : lookH (putH h s v) u = if s = u then some v else lookH h u := by
  unfold putH
  by_cases c : (h.any fun p => p.1 == s) = true
  · rw [if_pos c]
    induction h with
    | nil => cases c
    | cons p r ih =>
      rw [List.map_cons]
      by_cases d : p.1 = s
      · rw [if_pos d]
        unfold lookH
        dsimp only
        by_cases e : s = u
        · rw [if_pos (d.trans e), if_pos e]
        · rw [if_neg (fun z => e (d.symm.trans z)), if_neg e]
          by_cases q : (r.any fun p => p.1 == s) = true
          · have := ih q
            rw [if_neg e] at this
            rw [if_neg (fun z => e (d.symm.trans z))]
            exact this
          · have : r.map (fun p => if p.1 = s then (p.1, v) else p) = r := by
              conv => rhs; rw [← List.map_id r]
              apply List.map_congr_left
              intro x hx
              rw [if_neg (fun z => q (List.any_eq_true.mpr ⟨x, hx, by rw [z]; exact beq_self_eq_true s⟩))]
              rfl
            rw [this, if_neg (fun z => e (d.symm.trans z))]
      · rw [if_neg d]
        have q : (r.any fun p => p.1 == s) = true := by
          rw [List.any_cons, beq_eq_false_iff_ne.mpr d, Bool.false_or] at c
          exact c
        unfold lookH
        rw [ih q]
        by_cases e : p.1 = u
        · rw [if_pos e, if_pos e, if_neg (fun z => d (e.trans z.symm))]
        · rw [if_neg e, if_neg e]
  · rw [if_neg c]
    induction h with
    | nil =>
      show lookH [(s, v)] u = _
      unfold lookH
      rfl
    | cons p r ih =>
      rw [List.any_cons, Bool.or_eq_true] at c
      have c1 : p.1 ≠ s := fun z => c (.inl (by rw [z]; exact beq_self_eq_true s))
      have c2 : ¬ (r.any fun p => p.1 == s) = true := fun z => c (.inr z)
      rw [List.cons_append]
      unfold lookH
      rw [ih c2]
      by_cases e : p.1 = u
      · rw [if_pos e, if_pos e, if_neg (fun z => c1 (e.trans z.symm))]
      · rw [if_neg e, if_neg e]
theorem get_put (h : Hd) (s u : String) (v : Int) : getH (putH h s v) u = if s = u then v else getH h u := by
  unfold getH
  rw [look_put]
  by_cases e : s = u
  · rw [if_pos e, if_pos e]; rfl
  · rw [if_neg e, if_neg e]
theorem put_len (h : Hd) (s : String) (v : Int) : (putH h s v).length ≤ h.length + 1 := by
  unfold putH
  split
  · rw [List.length_map]; omega
  · rw [List.length_append]; simp
theorem look_pos {h : Hd} {s : String} (p : 0 < getH h s) : lookH h s = some (getH h s) := by
  unfold getH at p ⊢
  cases hl : lookH h s with
  | none => rw [hl] at p; cases p
  | some v => rfl
/-! ### acts on what vessels hold -/
def Act.src : Act → Option String
  | .pay p _ _ => some p | .buy p _ _ => some p | .sell t _ _ => some t | .spend p _ => some p | _ => none
def Act.dst : Act → Option String
  | .inn _ p _ => some p | .own p _ => some p | .pay _ q _ => some q | .buy _ t _ => some t | .sell _ p _ => some p | _ => none
def Act.coin : Act → Int
  | .inn _ _ c => c | .own _ c => c | .pay _ _ c => c | .buy _ _ c => c | .sell _ _ c => c | .spend _ c => c | .worth _ c => c
def gone (h : Hd) : Act → Int
  | .sell t _ _ => getH h t
  | a => a.coin
def srcH (h : Hd) (a : Act) : Hd := match a.src with
  | some s => putH h s (getH h s - gone h a)
  | none => h
def nextH (h : Hd) (a : Act) : Hd := match a.dst with
  | some d => putH (srcH h a) d (getH (srcH h a) d + a.coin)
  | none => srcH h a
theorem next_len (h : Hd) (a : Act) : (nextH h a).length ≤ h.length + 2 := by
  have h1 : (srcH h a).length ≤ h.length + 1 := by
    unfold srcH
    split
    · exact put_len _ _ _
    · omega
  unfold nextH
  split
  · have := put_len (srcH h a) ‹String› (getH (srcH h a) ‹String› + a.coin); omega
  · omega
def oS : Option String → D
  | some s => .str s
  | none => .non
theorem from_ok (hp : Has pg [29]) (k : Nat) (a : Act) : @WC (run glob pg (k + 1) 29 [.d a.d]) ⟨fun o ts => o = .d (oS a.src) ∧ ts = [.d a.d]⟩ ⟨fun _ _ => False⟩ := by
  refine run_ok (hp.at 29 df29 rfl rfl) rfl rfl ?_
  cases a <;> (simp_arith [b29, b29_1, b29_1t_1, b29_2, Act.d, Act.ds, Act.src, oS]; first | done | (constructor <;> rfl))
theorem into_ok (hp : Has pg [30]) (k : Nat) (a : Act) : @WC (run glob pg (k + 1) 30 [.d a.d]) ⟨fun o ts => o = .d (oS a.dst) ∧ ts = [.d a.d]⟩ ⟨fun _ _ => False⟩ := by
  refine run_ok (hp.at 30 df30 rfl rfl) rfl rfl ?_
  cases a <;> (simp_arith [b30, b30_1, b30_1t_1, b30_2, b30_2t_1, b30_3, Act.d, Act.ds, Act.dst, oS]; first | done | (constructor <;> rfl))
theorem gone_ok (hp : Has pg [31]) (k : Nat) (h : Hd) (o1 : O) (ho : o1.toD = .dct (encH h)) (a : Act) : @WC (run glob pg (k + 1) 31 [o1, .d a.d]) ⟨fun o ts => o = .d (.int (gone h a)) ∧ ts = [o1, .d a.d]⟩ ⟨fun _ _ => False⟩ := by
  refine run_ok (hp.at 31 df31 rfl rfl) rfl rfl ?_
  cases a <;> (simp_arith [b31, b31_1, b31_1t_1, b31_2, Act.d, Act.ds, gone, Act.coin, ho, get_enc])
theorem next_held_ok (hp : Has pg [29, 30, 31, 32]) (k : Nat) (h : Hd) (hl : h.length ≤ 1000) (o1 : O) (ho : o1.toD = .dct (encH h)) (a : Act) : @WC (run glob pg (k + 2) 32 [o1, .d a.d]) ⟨fun o ts => o = .dct (encH (nextH h a)) ∧ ts = [o1, .d a.d]⟩ ⟨fun _ _ => False⟩ := by
  refine run_ok (hp.at 32 df32 rfl rfl) rfl rfl ?_
  simp_arith [b32, b32_1, ho, b32_2]
  refine WC_of (from_ok (hp.sub rfl) k a) ?_
  rintro o ts ⟨rfl, rfl⟩
  simp_arith [b32_3]
  refine WC_of (into_ok (hp.sub rfl) k a) ?_
  rintro o ts ⟨rfl, rfl⟩
  simp_arith []
  have e1 : a.coin = a.coin := rfl
  refine ws_cut (fun e => e = [some o1, some (.d a.d), some (.dct (encH (srcH h a))), some (.d (oS a.src)), some (.d (oS a.dst))]) ?_ ?_
  · cases hs : a.src with
    | none => simp_arith [b32_4, oS, srcH, hs]
    | some s =>
      simp_arith [b32_4, b32_4t_1, oS, hs, get_enc]
      refine WC_of (gone_ok (hp.sub rfl) k h o1 ho a) ?_
      rintro o ts ⟨rfl, rfl⟩
      simp_arith [get_enc, put_enc, enc_len, srcH, hs]
      exact ⟨by omega, rfl⟩
  · rintro e rfl
    have hlen : (srcH h a).length ≤ h.length + 1 := by
      unfold srcH
      split
      · exact put_len _ _ _
      · omega
    have hcoin : at? a.ds (-1) = some (.int a.coin) := by rw [atm1]; cases a <;> rfl
    have hdd : a.d = .tup a.ds := rfl
    cases hs : a.dst with
    | none => simp_arith [b32_5, b32_6, oS, nextH, hs]
    | some s =>
      simp_arith [b32_5, b32_5t_1, b32_6, oS, hs, get_enc, hdd, hcoin, put_enc, enc_len, nextH]
      omega
/-! ### draws of an act -/
theorem any_ok (hp : Has pg [5, 26]) (k : Nat) (x : Bx) (h : x.Ok) (ys : List String) (y0 : 0 < ys.length) (y1 : ys.length ≤ 1000) (o1 : O) (ho : o1.toD = .lst (ys.map .str)) : @WC (run glob pg (k + 2) 26 [x.o, o1]) ⟨fun o ts => ∃ (y : Bx) (s : String), y.Ok ∧ s ∈ ys ∧ o = .d (.str s) ∧ ts = [y.o, o1]⟩ ⟨fun _ _ => False⟩ := by
  refine run_ok (hp.at 26 df26 rfl rfl) rfl rfl ?_
  simp_arith [b26, b26_1, ho]
  refine WC_of (take_ok (hp.sub rfl) k x h _ (by omega) (by omega)) ?_
  rintro o ts ⟨x, r, h, r0, r1, rfl, rfl⟩
  obtain ⟨d, hd, hat⟩ := at_mem (xs := ys.map D.str) r0 (by rw [List.length_map]; exact r1) (by rw [List.length_map]; omega)
  obtain ⟨s, hs, rfl⟩ := List.mem_map.mp hd
  simp_arith [ho, hat]
  exact ⟨x, s, h, hs, rfl, rfl⟩
theorem coins_ok (hp : Has pg [5, 28]) (k : Nat) (x : Bx) (h : x.Ok) (s : Int) (s0 : 0 ≤ s) (s1 : s < 4) : @WC (run glob pg (k + 2) 28 [x.o, .d (.int s)]) ⟨fun o ts => ∃ (y : Bx) (c : Int), y.Ok ∧ 1 ≤ c ∧ c ≤ 1000000000000 ∧ o = .d (.int c) ∧ ts = [y.o, .d (.int s)]⟩ ⟨fun _ _ => False⟩ := by
  refine run_ok (hp.at 28 df28 rfl rfl) rfl rfl ?_
  have hat : ∃ m : Int, 0 < m ∧ m ≤ 1000000000000 ∧ at? [D.int 9, .int 60, .int 1000000, .int 1000000000000] s = some (.int m) := by
    obtain rfl | rfl | rfl | rfl : s = 0 ∨ s = 1 ∨ s = 2 ∨ s = 3 := by omega
    · exact ⟨9, by decide, by decide, at0⟩
    · exact ⟨60, by decide, by decide, at1⟩
    · exact ⟨1000000, by decide, by decide, at2⟩
    · exact ⟨1000000000000, by decide, by decide, at3⟩
  obtain ⟨m, m0, m1, hat⟩ := hat
  simp_arith [b28, b28_1, hat]
  refine WC_of (take_ok (hp.sub rfl) k x h m m0 (by omega)) ?_
  rintro o ts ⟨x, r, h, r0, r1, rfl, rfl⟩
  simp_arith []
  exact ⟨x, 1 + r, h, by omega, by omega, rfl, rfl⟩
theorem at_rng {xs : List D} {r lo hi : Int} (h : ∀ d ∈ xs, ∃ i, d = .int i ∧ lo ≤ i ∧ i ≤ hi) (h0 : 0 ≤ r) (h1 : r < xs.length) (h2 : xs.length < 9223372036854775808) : ∃ i, lo ≤ i ∧ i ≤ hi ∧ at? xs r = some (.int i) := by
  obtain ⟨d, hd, e⟩ := at_mem h0 h1 h2
  obtain ⟨i, rfl, a, b⟩ := h d hd
  exact ⟨i, a, b, e⟩
theorem amount_ok (hp : Has pg [5, 27]) (k : Nat) (x : Bx) (h : x.Ok) (m : Int) (m0 : 1 ≤ m) (m1 : m ≤ 1000000000000) : @WC (run glob pg (k + 2) 27 [x.o, .d (.int m)]) ⟨fun o ts => ∃ (y : Bx) (c : Int), y.Ok ∧ 1 ≤ c ∧ c ≤ m ∧ o = .d (.int c) ∧ ts = [y.o, .d (.int m)]⟩ ⟨fun _ _ => False⟩ := by
  refine run_ok (hp.at 27 df27 rfl rfl) rfl rfl ?_
  have hmin : 0 < (if 9 < m then (9 : Int) else m) ∧ (if 9 < m then (9 : Int) else m) ≤ m := by split <;> omega
  have hmax : 1 ≤ (if 1 < m - 1 then m - 1 else (1 : Int)) ∧ (if 1 < m - 1 then m - 1 else (1 : Int)) ≤ m := by split <;> omega
  generalize ha : (if 9 < m then (9 : Int) else m) = a at hmin
  generalize hb : (if 1 < m - 1 then m - 1 else (1 : Int)) = b at hmax
  simp_arith [b27, b27_1, ha, hb]
  refine WC_of (take_ok (hp.sub rfl) k x h a hmin.1 (by omega)) ?_
  rintro o ts ⟨x, r, h, r0, r1, rfl, rfl⟩
  simp_arith []
  refine WC_of (take_ok (hp.sub rfl) k x h m (by omega) (by omega)) ?_
  rintro o ts ⟨x, r2, h, r20, r21, rfl, rfl⟩
  simp_arith [hb]
  refine WC_of (take_ok (hp.sub rfl) k x h 5 (by decide) (by decide)) ?_
  rintro o ts ⟨x, q, h, q0, q1, rfl, rfl⟩
  obtain ⟨c, c0, c1, hat⟩ := at_rng (xs := [D.int m, .int b, .int 1, .int (1 + r), .int (1 + r2)]) (lo := 1) (hi := m) (by
    intro d hd
    simp only [List.mem_cons, List.not_mem_nil, or_false] at hd
    rcases hd with rfl | rfl | rfl | rfl | rfl
    · exact ⟨_, rfl, by omega, by omega⟩
    · exact ⟨_, rfl, by omega, by omega⟩
    · exact ⟨_, rfl, by omega, by omega⟩
    · exact ⟨_, rfl, by omega, by omega⟩
    · exact ⟨_, rfl, by omega, by omega⟩) q0 q1 (by simp)
  simp_arith [hat]
  exact ⟨x, c, h, c0, c1, rfl, rfl⟩
theorem priced_ok (hp : Has pg [5, 34]) (k : Nat) (x : Bx) (h : x.Ok) (m : Int) : @WC (run glob pg (k + 2) 34 [x.o, .d (.int m)]) ⟨fun o ts => ∃ (y : Bx) (c : Int), y.Ok ∧ 1 ≤ c ∧ c ≤ 1000000000000 ∧ o = .d (.int c) ∧ ts = [y.o, .d (.int m)]⟩ ⟨fun _ _ => False⟩ := by
  refine run_ok (hp.at 34 df34 rfl rfl) rfl rfl ?_
  simp_arith [b34, b34_1]
  refine WC_of (take_ok (hp.sub rfl) k x h 5 (by decide) (by decide)) ?_
  rintro o ts ⟨x, q, h, q0, q1, rfl, rfl⟩
  simp_arith [b34_2]
  refine WC_of (take_ok (hp.sub rfl) k x h 9 (by decide) (by decide)) ?_
  rintro o ts ⟨x, r, h, r0, r1, rfl, rfl⟩
  obtain ⟨c, hat⟩ := at_int (xs := [D.int m, .int (m - (1 + r)), .int (m + (1 + r)), .int (m / 2), .int 1]) (by simp) q0 q1 (by simp)
  have h2 : (Int.natAbs 2).log2 < 9000 := by decide
  simp_arith [b34_3, hat, h2]
  refine ⟨x, _, h, ?_, ?_, rfl, rfl⟩ <;> split <;> split <;> omega
theorem house_ok (hp : Has pg [5, 12, 35]) (k : Nat) (x : Bx) (h : x.Ok) : @WC (run glob pg (k + 3) 35 [x.o]) ⟨fun o ts => ∃ (y : Bx) (ps gs fs : List String) (s : Int), y.Ok ∧ NamesOk false ps ∧ NamesOk true gs ∧ NamesOk false fs ∧ 1 ≤ ps.length ∧ ps.length ≤ 8 ∧ gs.length ≤ 12 ∧ 1 ≤ fs.length ∧ fs.length ≤ 6 ∧ 0 ≤ s ∧ s < 4 ∧
    o = .d (.tup [.lst (ps.map .str), .lst (gs.map .str), .lst (fs.map .str), .int s]) ∧ ts = [y.o]⟩ ⟨fun _ _ => False⟩ := by
  refine run_ok (hp.at 35 df35 rfl rfl) rfl rfl ?_
  simp_arith [b35, b35_1]
  refine WC_of (take_ok (hp.sub rfl) (k + 1) x h 5 (by decide) (by decide)) ?_
  rintro o ts ⟨x, q, h, q0, q1, rfl, rfl⟩
  have e1 : ∃ n : Nat, 1 ≤ n ∧ n ≤ 8 ∧ at? [D.int 1, .int 2, .int 3, .int 4, .int 8] q = some (.int n) := by
    obtain rfl | rfl | rfl | rfl | rfl : q = 0 ∨ q = 1 ∨ q = 2 ∨ q = 3 ∨ q = 4 := by omega
    · exact ⟨1, by decide, by decide, at0⟩
    · exact ⟨2, by decide, by decide, at1⟩
    · exact ⟨3, by decide, by decide, at2⟩
    · exact ⟨4, by decide, by decide, at3⟩
    · exact ⟨8, by decide, by decide, at4⟩
  obtain ⟨n, n0, n1, hat⟩ := e1
  simp_arith [hat]
  refine WC_of (names_ok (hp.sub rfl) (k) x h n (by omega) false) ?_
  rintro o ts ⟨x, ps, h, hps, nps, rfl, rfl⟩
  simp_arith [b35_2]
  refine WC_of (take_ok (hp.sub rfl) (k + 1) x h 5 (by decide) (by decide)) ?_
  rintro o ts ⟨x, q, h, q0, q1, rfl, rfl⟩
  have e1 : ∃ n : Nat, n ≤ 12 ∧ at? [D.int 1, .int 2, .int 0, .int 3, .int 12] q = some (.int n) := by
    obtain rfl | rfl | rfl | rfl | rfl : q = 0 ∨ q = 1 ∨ q = 2 ∨ q = 3 ∨ q = 4 := by omega
    · exact ⟨1, by decide, at0⟩
    · exact ⟨2, by decide, at1⟩
    · exact ⟨0, by decide, at2⟩
    · exact ⟨3, by decide, at3⟩
    · exact ⟨12, by decide, at4⟩
  obtain ⟨n2, n21, hat⟩ := e1
  simp_arith [hat]
  refine WC_of (names_ok (hp.sub rfl) (k) x h n2 (by omega) true) ?_
  rintro o ts ⟨x, gs, h, hgs, ngs, rfl, rfl⟩
  simp_arith [b35_3]
  refine WC_of (take_ok (hp.sub rfl) (k + 1) x h 6 (by decide) (by decide)) ?_
  rintro o ts ⟨x, q, h, q0, q1, rfl, rfl⟩
  have e1 : ∃ n : Nat, 1 ≤ n ∧ n ≤ 6 ∧ at? [D.int 1, .int 2, .int 3, .int 2, .int 4, .int 6] q = some (.int n) := by
    obtain rfl | rfl | rfl | rfl | rfl | rfl : q = 0 ∨ q = 1 ∨ q = 2 ∨ q = 3 ∨ q = 4 ∨ q = 5 := by omega
    · exact ⟨1, by decide, by decide, at0⟩
    · exact ⟨2, by decide, by decide, at1⟩
    · exact ⟨3, by decide, by decide, at2⟩
    · exact ⟨2, by decide, by decide, at3⟩
    · exact ⟨4, by decide, by decide, at4⟩
    · exact ⟨6, by decide, by decide, at5⟩
  obtain ⟨n3, n30, n31, hat⟩ := e1
  simp_arith [hat]
  refine WC_of (names_ok (hp.sub rfl) (k) x h n3 (by omega) false) ?_
  rintro o ts ⟨x, fs, h, hfs, nfs, rfl, rfl⟩
  simp_arith [b35_4]
  refine WC_of (take_ok (hp.sub rfl) (k + 1) x h 4 (by decide) (by decide)) ?_
  rintro o ts ⟨x, q, h, q0, q1, rfl, rfl⟩
  simp_arith []
  exact ⟨x, ps, gs, fs, q, h, nps, ngs, nfs, by omega, by omega, by omega, by omega, by omega, q0, q1, rfl, rfl⟩
end Wx

set_option Elab.async false
set_option linter.all false
set_option maxRecDepth 100000
set_option maxHeartbeats 4000000
namespace Wx
open Vm
local macro_rules | `(tactic| simp_arith [$as,*]) => `(tactic| simp only [e_var, e_mv, e_fv, e_k, e_g, e_opw, e_mop, e_mopv, dfl_k, e_slcV, e_slcE, e_ch, e_and, e_or, e_not, e_ite, e_lst, e_tup, e_dic0, e_dic, q_dic, pairD_nil, pairD_cons, Wdc_some, Wky_int, Wky_str, WS_dput, e_lcw, e_callw, e_mut, m_app, m_ext, m_clr, Wli_some, evAnd_1, evAnd_2, evOr_1, evOr_2, evI_nil, evI_1, evL_nil, evL_var, evL_o, evV_nil, evV_cons, evA_nil, evA_var, evA_o, evTs_nil, evTs_1, Wi_int, q_var, slc_f, slc_t, q_k, q_g, q_op, q_mop, q_slc, q_ch, q_and, q_or, q_not, q_ite, q_lst, q_tup, q_lc, qs_nil, qs_cons, qcs_nil, qcs_cons, qI_nil, qI_cons, qTs_nil, qTs_cons, qAnd_1, qAnd_2, qOr_1, qOr_2, WbD_bl, Wch_bl, WiD_int, WS_seq, WS_ex, WS_setn, WS_sett, WS_par, WS_aug, Wint_some, WS_sput, WS_saug, WDint_int, WS_iff, WS_for, WS_whl, WS_ret, WS_retN, WS_bad, WS_brk, WS_cnt, WS_pass, W_evT, WS_forget, WO_some, WO_none, Wsl_some, Wb_bl, WO_if, WO_map, WO_bindo, W_slot, W_okr, if_F, F_if, if_and2, if_or2, opD, oAdd, oSub, oMul, oFdv, oMod, oPow, oNeg, oCmp, oEq, oIsN, oIn, inD, oLen, oAll, oAny, oSum, oMn1, oMx1, oMn2, oMx2, oLst, oTup, oDct, oInt, oIdx, oSl, oRev, oJoin, oGet1, oGet2, oIsi, oTab, oLrg, oStr, oInT, oSplit, tabOf, lkT, ofK, oUpper, oLower, oIsup, oIslo, String.reduceEq, Option.isSome_some, List.nodup_cons, isScr, isiB, bls, intsOf, strsOf, eqD_ii, eqD_ss, eqD_bb, eqD_nn, eqD_ni, eqD_ns, eqD_in, eqD_sn, eqD_is, eqD_si, eqD_ll, eqD_tt, eqD_lt, eqD_tl, eqDs_nn, eqDs_cc, eqDs_nc, eqDs_cn, shal_non, shal_bl, shal_int, shal_str, shal_nil, shal_cons, shal_lst, shal_tup, flat, inL, valD, keyD, big_eq, mk, ow_int, ow_str, ow_bl, ow_non, ow_tup, ow_lst, ow_dct, toD_d, toD_lst, toD_dct, quiet_var, quiet_k, quiet_g, quiet_nil, quiet_mv, quiet_fv, quiet_call, quiet_mut, quiet_op, quiet_mop, quiet_slc, quiet_ch, quiet_and, quiet_or, quiet_not, quiet_ite, quiet_lst, quiet_tup, quiet_dic, quiet_lc, quiet_cons, lentE, tyD, mutRule, itD, seqD, at0, at1, at2, at3, at4, at5, at6, at7, atm1, ix0, ix1, ix2, ix3, ix4, arOk, arIx_nil, arIx_sl, arIx_tm, arOs_nil, arOs_sl, arOs_tm, back_nil, back_sl, back_tm, isD, outs_nil, outs_cons, forget_nil, forget_cons, tgSet_n, tgSet_cons, tgSets_nil, tgSets_cons, tgSlots_n, tgSlots_nil, tgSlots_cons, List.set_cons_zero, List.set_cons_succ, List.getElem?_cons_zero, List.getElem?_cons_succ, List.length_cons, List.length_nil, List.length_map, List.map_cons, List.map_nil, List.cons_append, List.nil_append, List.append_nil, List.replicate_succ, List.replicate_zero, List.getLast?_cons_cons, List.getLast?_singleton, List.nodup_cons, List.nodup_nil, List.mem_cons, List.not_mem_nil, List.contains_cons, List.contains_nil, List.all_cons, List.all_nil, decide_true, decide_false, Bool.true_or, Bool.or_true, Bool.false_or, Bool.or_false, Bool.and_true, Bool.true_and, Bool.false_and, Bool.and_false, Bool.not_true, Bool.not_false, Bool.false_bne, Bool.xor_false, Bool.false_xor, Bool.true_xor, Bool.xor_true, beq_iff_eq, bne_iff_ne, decide_eq_true_eq, decide_not, Bool.not_eq_true', Bool.false_eq_true, Bool.true_eq_false, Bool.not_eq_true, decide_eq_false_iff_not, beq_self_eq_true, beq_eq_false_iff_ne, bne_self_eq_false, Bool.and_eq_true, Bool.or_eq_true, true_and, and_true, false_and, and_false, or_false, false_or, or_true, true_or, not_true_eq_false, not_false_eq_true, ne_eq, reduceCtorEq, implies_true, forall_const, Option.some.injEq, exists_eq_left', exists_eq_left, eq_self, if_true, if_false, ↓reduceIte, Nat.reduceAdd, Nat.reduceSub, Nat.reduceMul, Nat.reduceLT, Nat.reduceLeDiff, Nat.reduceEqDiff, Nat.reduceBEq, Nat.zero_add, Nat.succ_eq_add_one, Nat.lt_add_left_iff_pos, Nat.add_lt_add_iff_right, Nat.not_lt_zero, Nat.lt_irrefl, Nat.zero_lt_succ, Nat.one_ne_zero, Nat.add_one_ne_zero, Nat.succ_ne_zero, Nat.reduceSucc, Int.reducePow, Int.reduceMul, Int.reduceAdd, Int.reduceSub, Int.reduceNeg, Int.reduceLT, Int.reduceLE, Int.reduceToNat, Int.reduceNegSucc, Int.reduceEq, Int.reduceNe, Int.cast_ofNat_Int, Int.natCast_zero, Int.natCast_one, Int.reduceBEq, Int.reduceMod, Int.reduceDiv, nat10, cl_one, Option.getD_none, Option.getD_some, $as,*])
variable {glob : String → Option D} {pg : Nat → Option Df}
/-- an act of a house that can be where vessels hold so much -/
def Fits (ps gs fs : List String) (h : Hd) : Act → Prop
  | .inn o p c => o ∈ fs ∧ p ∈ ps ∧ 1 ≤ c ∧ c ≤ 1000000000000
  | .own p c => p ∈ ps ∧ 1 ≤ c ∧ c ≤ 1000000000000
  | .pay p q c => p ∈ ps ∧ q ∈ ps ∧ q ≠ p ∧ 1 ≤ c ∧ c ≤ 1000000000000 ∧ c ≤ getH h p
  | .buy p t c => p ∈ ps ∧ t ∈ gs ∧ 1 ≤ c ∧ c ≤ 1000000000000 ∧ c ≤ getH h p
  | .sell t p c => t ∈ gs ∧ p ∈ ps ∧ 0 < getH h t ∧ 1 ≤ c ∧ c ≤ 1000000000000
  | .spend p c => p ∈ ps ∧ 1 ≤ c ∧ c ≤ 1000000000000 ∧ c ≤ getH h p
  | .worth t c => t ∈ gs ∧ 0 ≤ c ∧ c ≤ 1000000000000
theorem shals_str (n : Nat) : ∀ ys : List String, shals n (ys.map D.str) = true
  | [] => shal_nil
  | y :: ys => by rw [List.map_cons, shal_cons, shal_str, shals_str n ys]; rfl
theorem shal_strs (ys : List String) : shal 60 (.lst (ys.map D.str)) = true := by rw [shal_lst]; exact shals_str _ _
theorem shal_e : shal 60 (.lst []) = true := by rw [shal_lst]; exact shal_nil
theorem eqD_e (ys : List String) : eqD (.lst (ys.map D.str)) (.lst []) = ys.isEmpty := by
  cases ys with
  | nil => rfl
  | cons y ys => rfl
theorem eqDs_e (ys : List String) : eqDs (ys.map D.str) [] = ys.isEmpty := by
  cases ys with
  | nil => rfl
  | cons y ys => rfl
def houseD (ps gs fs : List String) (s : Int) : D := .tup [.lst (ps.map .str), .lst (gs.map .str), .lst (fs.map .str), .int s]
structure HouseOk (ps gs fs : List String) (s : Int) : Prop where
  np : NamesOk false ps
  ng : NamesOk true gs
  nf : NamesOk false fs
  p0 : 1 ≤ ps.length
  p1 : ps.length ≤ 8
  g1 : gs.length ≤ 12
  f0 : 1 ≤ fs.length
  f1 : fs.length ≤ 6
  s0 : 0 ≤ s
  s1 : s < 4
/-- a comprehension that keeps some texts -/
theorem keep_ok {G : Gs} {i : Nat} {cond : I} {X : Ex → Env → Prop} {Q : List D → Env → Prop} {e : Env} (p : String → Bool) (ys : List String) (hi : i < e.length) (hn : e[i]? = some none)
    (hc : ∀ s, @WE _ (evl G cond (e.set i (some (.d (.str s))))) ⟨fun o e' => @Wb o ⟨fun t => t = p s ∧ e' = e.set i (some (.d (.str s)))⟩⟩ ⟨fun _ _ => False⟩)
    (h : Q ((ys.filter p).map .str) e) : @WE _ (lcLp (lcE G (.var i) (.n i) (.cons cond .nil)) (ys.map .str) e).nox ⟨Q⟩ ⟨X⟩ := by
  have hset : ∀ d, (e.set i d).set i none = e := by
    intro d
    rw [List.set_set]
    apply List.ext_getElem?
    intro j
    by_cases c : j = i
    · subst c; rw [List.getElem?_set_self hi, hn]
    · rw [List.getElem?_set_ne (by omega)]
  refine lc_inv (fun left out e' => ∃ l1 l2, ys = l1 ++ l2 ∧ left = l2.map .str ∧ out = (l1.filter p).map .str ∧ e' = e) ?_ ?_ ⟨[], ys, rfl, rfl, rfl, rfl⟩
  · rintro d left out e' ⟨l1, l2, hl, hr, rfl, rfl⟩
    match l2, hr with
    | s :: l2, hr =>
      cases hr
      simp_arith [hi]
      have := hc s
      revert this
      cases evl G cond (e'.set i (some (.d (.str s)))) with
      | st => exact fun z => z.elim
      | ex x e9 => exact fun z => z.elim
      | ok o e9 =>
        intro this
        cases o with
        | lst _ => exact this.elim
        | dct _ => exact this.elim
        | d d =>
          cases d with
          | bl t =>
            obtain ⟨rfl, rfl⟩ := this
            show (if p s = true then _ else _)
            cases hp : p s with
            | true =>
              rw [if_pos rfl]
              have hg : (e'.set i (some (O.d (D.str s))))[i]? = some (some (.d (.str s))) := List.getElem?_set_self hi
              simp_arith [hg, hset, List.set_set]
              exact ⟨l1 ++ [s], l2, by rw [hl, List.append_assoc]; rfl, rfl, by rw [List.filter_append]; simp [hp]⟩
            | false =>
              rw [if_neg (by decide)]
              simp_arith [hset]
              exact ⟨l1 ++ [s], l2, by rw [hl, List.append_assoc]; rfl, rfl, by rw [List.filter_append]; simp [hp]⟩
          | _ => exact this.elim
  · rintro out e' ⟨l1, l2, hl, hr, rfl, rfl⟩
    have : l2 = [] := by cases l2 with
      | nil => rfl
      | cons a b => cases hr
    subst this
    rw [List.append_nil] at hl
    subst hl
    exact h
theorem purse_act_ok (hp : Has pg [5, 26, 27, 28, 36]) (k : Nat) (x : Bx) (hx : x.Ok) {ps gs fs : List String} {s : Int} (H : HouseOk ps gs fs s) (h : Hd) (o1 : O) (ho : o1.toD = .dct (encH h)) :
    @WC (run glob pg (k + 3) 36 [x.o, .d (houseD ps gs fs s), o1]) ⟨fun o ts => ∃ (y : Bx) (a : Act), y.Ok ∧ Fits ps gs fs h a ∧ o = .d a.d ∧ ts = [y.o, .d (houseD ps gs fs s), o1]⟩ ⟨fun _ _ => False⟩ := by
  refine run_ok (hp.at 36 df36 rfl rfl) rfl rfl ?_
  have hps := H.p1
  simp_arith [b36, b36_1, houseD, b36_2]
  refine ⟨by omega, keep_ok (fun s => decide (0 < getH h s)) ps (by simp) rfl ?_ ?_⟩
  · intro s
    simp_arith [ho, get_enc]
  simp_arith [b36_3]
  refine WC_of (take_ok (hp.sub rfl) (k + 1) x hx 9 (by decide) (by decide)) ?_
  rintro o ts ⟨x, w, hx, w0, w1, rfl, rfl⟩
  have hfull : ∀ y ∈ ps.filter (fun s => decide (0 < getH h s)), y ∈ ps ∧ 0 < getH h y := fun y hy => by
    rw [List.mem_filter, decide_eq_true_eq] at hy; exact hy
  have hfl : (ps.filter (fun s => decide (0 < getH h s))).length ≤ 8 := Nat.le_trans (List.length_filter_le _ _) hps
  generalize ps.filter (fun s => decide (0 < getH h s)) = full at hfull hfl
  have hany : ∀ (x : Bx) (ys : List String) (o1 : O) {Q : O → List O → Prop} {X : Ex → List O → Prop}, x.Ok → 0 < ys.length → ys.length ≤ 1000 → o1.toD = .lst (ys.map .str) → (∀ (y : Bx) (s : String), y.Ok → s ∈ ys → Q (.d (.str s)) [y.o, o1]) → @WC (run glob pg (k + 2) 26 [x.o, o1]) ⟨Q⟩ ⟨X⟩ := by
    intro x ys o1 Q X hx h0 h1 ho hq
    refine WC_of (any_ok (hp.sub rfl) k x hx ys h0 h1 o1 ho) ?_
    rintro o ts ⟨y, s, hy, hs, rfl, rfl⟩
    exact hq y s hy hs
  simp_arith [b36_4, shals_str, eqDs_e]
  split
  · simp_arith [b36_4t_1]
    refine hany x fs _ hx H.f0 (by have := H.f1; omega) rfl ?_
    intro x o hx hof
    simp_arith []
    refine hany x ps _ hx H.p0 (by omega) rfl ?_
    intro x p hx hop
    simp_arith []
    refine WC_of (coins_ok (hp.sub rfl) k x hx s H.s0 H.s1) ?_
    rintro o ts ⟨x, c, hx, c0, c1, rfl, rfl⟩
    simp_arith []
    exact ⟨x, .inn _ p c, hx, ⟨hof, hop, c0, c1⟩, rfl, rfl⟩
  · rename_i hne
    have hne : 0 < full.length := by
      cases full with
      | nil => exact absurd (.inl rfl) hne
      | cons a b => simp
    simp_arith [b36_5]
    split
    · simp_arith [b36_5t_1]
      refine hany x ps _ hx H.p0 (by omega) rfl ?_
      intro x p hx hop
      simp_arith []
      refine WC_of (coins_ok (hp.sub rfl) k x hx s H.s0 H.s1) ?_
      rintro o ts ⟨x, c, hx, c0, c1, rfl, rfl⟩
      simp_arith []
      exact ⟨x, .own p c, hx, ⟨hop, c0, c1⟩, rfl, rfl⟩
    · simp_arith [b36_6]
      refine hany x full _ hx hne (by omega) rfl ?_
      intro x p hx hpf
      obtain ⟨hpp, hpos⟩ := hfull p hpf
      have hlk : valD (encH h) (.inr p) = some (.int (getH h p)) := by rw [valD_enc, look_pos hpos]; rfl
      have hmin : 1 ≤ (if 1000000000000 < getH h p then 1000000000000 else getH h p) ∧ (if 1000000000000 < getH h p then 1000000000000 else getH h p) ≤ 1000000000000 ∧ (if 1000000000000 < getH h p then 1000000000000 else getH h p) ≤ getH h p := by split <;> omega
      generalize hm : (if 1000000000000 < getH h p then 1000000000000 else getH h p) = m at hmin
      simp_arith [b36_7, ho, hlk, hm]
      refine WC_of (amount_ok (hp.sub rfl) k x hx m hmin.1 hmin.2.1) ?_
      rintro o ts ⟨x, c, hx, c0, c1, rfl, rfl⟩
      simp_arith [b36_8]
      refine ⟨by omega, keep_ok (fun s => !(s == p)) ps (by simp) rfl ?_ ?_⟩
      · intro s
        simp_arith []
      have hoth : ∀ y ∈ ps.filter (fun s => !(s == p)), y ∈ ps ∧ y ≠ p := fun y hy => by
        rw [List.mem_filter] at hy
        exact ⟨hy.1, by simpa using hy.2⟩
      have hol : (ps.filter (fun s => !(s == p))).length ≤ 8 := Nat.le_trans (List.length_filter_le _ _) hps
      generalize ps.filter (fun s => !(s == p)) = oth at hoth hol
      simp_arith [b36_9, shals_str, eqDs_e]
      split
      · rename_i hw
        have hne2 : 0 < oth.length := by
          cases oth with
          | nil => cases hw.2
          | cons a b => simp
        simp_arith [b36_9t_1]
        refine hany x oth _ hx hne2 (by omega) rfl ?_
        intro x q hx hq
        simp_arith []
        exact ⟨x, .pay p q c, hx, ⟨hpp, (hoth q hq).1, (hoth q hq).2, c0, by omega, by omega⟩, rfl, rfl⟩
      · simp_arith [b36_10, shals_str, eqDs_e]
        split
        · simp_arith [b36_10t_1]
          exact ⟨x, .spend p c, hx, ⟨hpp, c0, by omega, by omega⟩, rfl, rfl⟩
        · rename_i hg
          have hne3 : 0 < gs.length := by
            cases gs with
            | nil => exact absurd (.inr rfl) hg
            | cons a b => simp
          simp_arith [b36_11]
          refine hany x gs _ hx hne3 (by have := H.g1; omega) rfl ?_
          intro x t hx ht
          simp_arith []
          exact ⟨x, .buy p t c, hx, ⟨hpp, ht, c0, by omega, by omega⟩, rfl, rfl⟩
theorem good_ok (hp : Has pg [5, 26, 27, 28, 34, 36, 37]) (k : Nat) (x : Bx) (hx : x.Ok) {ps gs fs : List String} {s : Int} (H : HouseOk ps gs fs s) (h : Hd) (h0 : ∀ u, 0 ≤ getH h u) (o1 : O) (ho : o1.toD = .dct (encH h)) :
    @WC (run glob pg (k + 4) 37 [x.o, .d (houseD ps gs fs s), o1]) ⟨fun o ts => ∃ (y : Bx) (a : Act), y.Ok ∧ Fits ps gs fs h a ∧ o = .d a.d ∧ ts = [y.o, .d (houseD ps gs fs s), o1]⟩ ⟨fun _ _ => False⟩ := by
  refine run_ok (hp.at 37 df37 rfl rfl) rfl rfl ?_
  have hps := H.p1
  have hgs := H.g1
  simp_arith [b37, b37_1, houseD, b37_2]
  refine ⟨by omega, keep_ok (fun s => decide (0 < getH h s)) gs (by simp) rfl ?_ ?_⟩
  · intro s
    simp_arith [ho, get_enc]
  simp_arith [b37_3]
  refine WC_of (take_ok (hp.sub rfl) (k + 2) x hx 7 (by decide) (by decide)) ?_
  rintro o ts ⟨x, w, hx, w0, w1, rfl, rfl⟩
  have hfull : ∀ y ∈ gs.filter (fun s => decide (0 < getH h s)), y ∈ gs ∧ 0 < getH h y := fun y hy => by
    rw [List.mem_filter, decide_eq_true_eq] at hy; exact hy
  have hfl : (gs.filter (fun s => decide (0 < getH h s))).length ≤ 12 := Nat.le_trans (List.length_filter_le _ _) hgs
  generalize gs.filter (fun s => decide (0 < getH h s)) = full at hfull hfl
  have hany : ∀ (x : Bx) (ys : List String) (o1 : O) {Q : O → List O → Prop} {X : Ex → List O → Prop}, x.Ok → 0 < ys.length → ys.length ≤ 1000 → o1.toD = .lst (ys.map .str) → (∀ (y : Bx) (s : String), y.Ok → s ∈ ys → Q (.d (.str s)) [y.o, o1]) → @WC (run glob pg (k + 3) 26 [x.o, o1]) ⟨Q⟩ ⟨X⟩ := by
    intro x ys o1 Q X hx h0 h1 ho hq
    refine WC_of (any_ok (hp.sub rfl) (k + 1) x hx ys h0 h1 o1 ho) ?_
    rintro o ts ⟨y, s, hy, hs, rfl, rfl⟩
    exact hq y s hy hs
  simp_arith [b37_4, shals_str, eqDs_e]
  split
  · rename_i hw
    have hne : 0 < gs.length := by
      cases gs with
      | nil => cases hw.1
      | cons a b => simp
    simp_arith [b37_4t_1]
    refine hany x gs _ hx hne (by omega) rfl ?_
    intro x t hx ht
    simp_arith [b37_4t_2, ho, get_enc]
    refine WC_of (take_ok (hp.sub rfl) (k + 2) x hx 90 (by decide) (by decide)) ?_
    rintro o ts ⟨x, r, hx, r0, r1, rfl, rfl⟩
    simp_arith []
    refine WC_of (take_ok (hp.sub rfl) (k + 2) x hx 3 (by decide) (by decide)) ?_
    rintro o ts ⟨x, q, hx, q0, q1, rfl, rfl⟩
    obtain ⟨c, hat⟩ := at_int (xs := [D.int 0, .int (getH h t), .int r]) (by simp) q0 q1 (by simp)
    simp_arith [get_enc, hat]
    exact ⟨x, .worth t (c % 1000000000001), hx, ⟨ht, by omega, by omega⟩, rfl, rfl⟩
  · simp_arith [b37_5, shals_str, eqDs_e]
    split
    · rename_i hw
      have hne : 0 < full.length := by
        cases full with
        | nil => cases hw.1
        | cons a b => simp
      simp_arith [b37_5t_1]
      refine hany x full _ hx hne (by omega) rfl ?_
      intro x t hx htf
      obtain ⟨ht, hpos⟩ := hfull t htf
      have hlk : valD (encH h) (.inr t) = some (.int (getH h t)) := by rw [valD_enc, look_pos hpos]; rfl
      simp_arith [b37_5t_2]
      refine hany x ps _ hx H.p0 (by omega) rfl ?_
      intro x p hx hp1
      simp_arith [ho, hlk]
      refine WC_of (priced_ok (hp.sub rfl) (k + 1) x hx _) ?_
      rintro o ts ⟨x, c, hx, c0, c1, rfl, rfl⟩
      simp_arith []
      exact ⟨x, .sell t p c, hx, ⟨ht, hp1, hpos, c0, c1⟩, rfl, rfl⟩
    · simp_arith [b37_6]
      refine WC_of (purse_act_ok (hp.sub rfl) k x hx H h o1 ho) ?_
      rintro o ts ⟨x, a, hx, ha, rfl, rfl⟩
      simp_arith [houseD]
      exact ⟨x, a, hx, ha, rfl, rfl⟩
/-! ### histories -/
def Sound (ps gs fs : List String) : Hd → List Act → Prop
  | _, [] => True
  | h, a :: r => Fits ps gs fs h a ∧ Sound ps gs fs (nextH h a) r
def heldH (as : List Act) : Hd := as.foldl nextH []
theorem sound_snoc {ps gs fs : List String} {a : Act} : ∀ {as : List Act} {h : Hd}, Sound ps gs fs h (as ++ [a]) ↔ Sound ps gs fs h as ∧ Fits ps gs fs (as.foldl nextH h) a
  | [], h => by simp [Sound]
  | b :: as, h => by
    rw [List.cons_append, List.foldl_cons]
    simp only [Sound, sound_snoc, and_assoc]
theorem src_get (h : Hd) (a : Act) (u : String) : getH (srcH h a) u = if a.src = some u then getH h u - gone h a else getH h u := by
  unfold srcH
  split
  · rename_i s hs
    rw [get_put, hs]
    by_cases e : s = u
    · subst e; rw [if_pos rfl, if_pos rfl]
    · rw [if_neg e, if_neg (fun z => e (Option.some.inj z))]
  · rename_i hs
    rw [hs, if_neg (fun z => by cases z)]
theorem next_get (h : Hd) (a : Act) (u : String) : getH (nextH h a) u = (if a.src = some u then getH h u - gone h a else getH h u) + (if a.dst = some u then a.coin else 0) := by
  rw [← src_get]
  unfold nextH
  split
  · rename_i s hs
    rw [get_put, hs]
    by_cases e : s = u
    · subst e; rw [if_pos rfl, if_pos rfl]
    · rw [if_neg e, if_neg (fun z => e (Option.some.inj z))]; omega
  · rename_i hs
    rw [hs, if_neg (fun z => by cases z)]; omega
theorem next_nn {ps gs fs : List String} {h : Hd} {a : Act} (h0 : ∀ u, 0 ≤ getH h u) (f : Fits ps gs fs h a) : ∀ u, 0 ≤ getH (nextH h a) u := by
  intro u
  rw [next_get]
  have hu := h0 u
  have hc : 0 ≤ (if a.dst = some u then a.coin else 0) := by
    split
    · cases a <;> simp only [Fits] at f <;> simp only [Act.coin] <;> omega
    · omega
  have hs : 0 ≤ (if a.src = some u then getH h u - gone h a else getH h u) := by
    split
    · rename_i hs
      cases a <;> simp only [Act.src, Option.some.injEq, reduceCtorEq] at hs <;> subst hs <;> simp only [Fits] at f <;> simp only [gone, Act.coin] <;> omega
    · exact hu
  omega
theorem held_nn {ps gs fs : List String} : ∀ {as : List Act} {h : Hd}, (∀ u, 0 ≤ getH h u) → Sound ps gs fs h as → ∀ u, 0 ≤ getH (as.foldl nextH h) u
  | [], h, h0, _ => h0
  | a :: as, h, h0, s => fun u => held_nn (as := as) (h := nextH h a) (next_nn h0 s.1) s.2 u
theorem held_len : ∀ (as : List Act) (h : Hd), (as.foldl nextH h).length ≤ h.length + 2 * as.length
  | [], h => by simp
  | a :: as, h => by
    have := held_len as (nextH h a)
    have := next_len h a
    rw [List.foldl_cons, List.length_cons]
    omega
theorem nil_nn : ∀ u, 0 ≤ getH [] u := fun u => by show (0 : Int) ≤ 0; omega
theorem acts_ok (hp : Has pg [5, 26, 27, 28, 29, 30, 31, 32, 34, 36, 37, 38]) (k : Nat) (x : Bx) (hx : x.Ok) {ps gs fs : List String} {s : Int} (H : HouseOk ps gs fs s) (n : Nat) (hn : n ≤ 100) :
    @WC (run glob pg (k + 5) 38 [x.o, .d (houseD ps gs fs s), .d (.int n)]) ⟨fun o ts => ∃ (y : Bx) (as : List Act), y.Ok ∧ as.length = n ∧ Sound ps gs fs [] as ∧ o = .lst (as.map Act.d) ∧ ts = [y.o, .d (houseD ps gs fs s), .d (.int n)]⟩ ⟨fun _ _ => False⟩ := by
  refine run_ok (hp.at 38 df38 rfl rfl) rfl rfl ?_
  simp_arith [b38, b38_1, b38_2, b38_3]
  refine ⟨by omega, for_inv (fun rest e => ∃ (x : Bx) (as : List Act), x.Ok ∧ as.length + rest.length = n ∧ Sound ps gs fs [] as ∧ e = [some x.o, some (.d (houseD ps gs fs s)), some (.d (.int n)), some (.lst (as.map Act.d)), some (.dct (encH (heldH as))), none]) ?_ ?_ ⟨x, [], hx, by rw [range_len]; simp, trivial, rfl⟩⟩
  · rintro d rest e ⟨x, as, hx, hl, hs, rfl⟩
    rw [List.length_cons] at hl
    simp_arith [b38_3b_1]
    refine WC_of (good_ok (hp.sub rfl) k x hx H (heldH as) (held_nn nil_nn hs) _ rfl) ?_
    rintro o ts ⟨x, a, hx, ha, rfl, rfl⟩
    have hlast : at? (as.map Act.d ++ [a.d]) (-1) = some a.d := by rw [atm1]; simp
    simp_arith [b38_3b_2, hlast]
    refine ⟨by omega, WC_of (next_held_ok (hp.sub rfl) (k + 2) (heldH as) (by have := held_len as []; unfold heldH; simp only [List.length_nil] at this; omega) _ rfl a) ?_⟩
    rintro o ts ⟨rfl, rfl⟩
    simp_arith []
    refine ⟨x, as ++ [a], hx, by rw [List.length_append, List.length_singleton]; omega, sound_snoc.mpr ⟨hs, ha⟩, ?_⟩
    unfold heldH
    rw [List.map_append, List.foldl_append]; rfl
  · rintro e ⟨x, as, hx, hl, hs, rfl⟩
    simp_arith [b38_4]
    exact ⟨x, as, hx, by simpa using hl, hs, rfl, rfl⟩
end Wx

set_option Elab.async false
set_option linter.all false
set_option maxRecDepth 100000
set_option maxHeartbeats 4000000
namespace Wx
open Vm
local macro_rules | `(tactic| simp_arith [$as,*]) => `(tactic| simp only [e_var, e_mv, e_fv, e_k, e_g, e_opw, e_mop, e_mopv, dfl_k, e_slcV, e_slcE, e_ch, e_and, e_or, e_not, e_ite, e_lst, e_tup, e_dic0, e_dic, q_dic, pairD_nil, pairD_cons, Wdc_some, Wky_int, Wky_str, WS_dput, e_lcw, e_callw, e_mut, m_app, m_ext, m_clr, Wli_some, evAnd_1, evAnd_2, evOr_1, evOr_2, evI_nil, evI_1, evL_nil, evL_var, evL_o, evV_nil, evV_cons, evA_nil, evA_var, evA_o, evTs_nil, evTs_1, Wi_int, q_var, slc_f, slc_t, q_k, q_g, q_op, q_mop, q_slc, q_ch, q_and, q_or, q_not, q_ite, q_lst, q_tup, q_lc, qs_nil, qs_cons, qcs_nil, qcs_cons, qI_nil, qI_cons, qTs_nil, qTs_cons, qAnd_1, qAnd_2, qOr_1, qOr_2, WbD_bl, Wch_bl, WiD_int, WS_seq, WS_ex, WS_setn, WS_sett, WS_par, WS_aug, Wint_some, WS_sput, WS_saug, WDint_int, WS_iff, WS_for, WS_whl, WS_ret, WS_retN, WS_bad, WS_brk, WS_cnt, WS_pass, W_evT, WS_forget, WO_some, WO_none, Wsl_some, Wb_bl, WO_if, WO_map, WO_bindo, W_slot, W_okr, if_F, F_if, if_and2, if_or2, opD, oAdd, oSub, oMul, oFdv, oMod, oPow, oNeg, oCmp, oEq, oIsN, oIn, inD, oLen, oAll, oAny, oSum, oMn1, oMx1, oMn2, oMx2, oLst, oTup, oDct, oInt, oIdx, oSl, oRev, oJoin, oGet1, oGet2, oIsi, oTab, oLrg, oStr, oInT, oSplit, tabOf, lkT, ofK, oUpper, oLower, oIsup, oIslo, String.reduceEq, Option.isSome_some, List.nodup_cons, isScr, isiB, bls, intsOf, strsOf, eqD_ii, eqD_ss, eqD_bb, eqD_nn, eqD_ni, eqD_ns, eqD_in, eqD_sn, eqD_is, eqD_si, eqD_ll, eqD_tt, eqD_lt, eqD_tl, eqDs_nn, eqDs_cc, eqDs_nc, eqDs_cn, shal_non, shal_bl, shal_int, shal_str, shal_nil, shal_cons, shal_lst, shal_tup, flat, inL, valD, keyD, big_eq, mk, ow_int, ow_str, ow_bl, ow_non, ow_tup, ow_lst, ow_dct, toD_d, toD_lst, toD_dct, quiet_var, quiet_k, quiet_g, quiet_nil, quiet_mv, quiet_fv, quiet_call, quiet_mut, quiet_op, quiet_mop, quiet_slc, quiet_ch, quiet_and, quiet_or, quiet_not, quiet_ite, quiet_lst, quiet_tup, quiet_dic, quiet_lc, quiet_cons, lentE, tyD, mutRule, itD, seqD, at0, at1, at2, at3, at4, at5, at6, at7, atm1, ix0, ix1, ix2, ix3, ix4, arOk, arIx_nil, arIx_sl, arIx_tm, arOs_nil, arOs_sl, arOs_tm, back_nil, back_sl, back_tm, isD, outs_nil, outs_cons, forget_nil, forget_cons, tgSet_n, tgSet_cons, tgSets_nil, tgSets_cons, tgSlots_n, tgSlots_nil, tgSlots_cons, List.set_cons_zero, List.set_cons_succ, List.getElem?_cons_zero, List.getElem?_cons_succ, List.length_cons, List.length_nil, List.length_map, List.map_cons, List.map_nil, List.cons_append, List.nil_append, List.append_nil, List.replicate_succ, List.replicate_zero, List.getLast?_cons_cons, List.getLast?_singleton, List.nodup_cons, List.nodup_nil, List.mem_cons, List.not_mem_nil, List.contains_cons, List.contains_nil, List.all_cons, List.all_nil, decide_true, decide_false, Bool.true_or, Bool.or_true, Bool.false_or, Bool.or_false, Bool.and_true, Bool.true_and, Bool.false_and, Bool.and_false, Bool.not_true, Bool.not_false, Bool.false_bne, Bool.xor_false, Bool.false_xor, Bool.true_xor, Bool.xor_true, beq_iff_eq, bne_iff_ne, decide_eq_true_eq, decide_not, Bool.not_eq_true', Bool.false_eq_true, Bool.true_eq_false, Bool.not_eq_true, decide_eq_false_iff_not, beq_self_eq_true, beq_eq_false_iff_ne, bne_self_eq_false, Bool.and_eq_true, Bool.or_eq_true, true_and, and_true, false_and, and_false, or_false, false_or, or_true, true_or, not_true_eq_false, not_false_eq_true, ne_eq, reduceCtorEq, implies_true, forall_const, Option.some.injEq, exists_eq_left', exists_eq_left, eq_self, if_true, if_false, ↓reduceIte, Nat.reduceAdd, Nat.reduceSub, Nat.reduceMul, Nat.reduceLT, Nat.reduceLeDiff, Nat.reduceEqDiff, Nat.reduceBEq, Nat.zero_add, Nat.succ_eq_add_one, Nat.lt_add_left_iff_pos, Nat.add_lt_add_iff_right, Nat.not_lt_zero, Nat.lt_irrefl, Nat.zero_lt_succ, Nat.one_ne_zero, Nat.add_one_ne_zero, Nat.succ_ne_zero, Nat.reduceSucc, Int.reducePow, Int.reduceMul, Int.reduceAdd, Int.reduceSub, Int.reduceNeg, Int.reduceLT, Int.reduceLE, Int.reduceToNat, Int.reduceNegSucc, Int.reduceEq, Int.reduceNe, Int.cast_ofNat_Int, Int.natCast_zero, Int.natCast_one, Int.reduceBEq, Int.reduceMod, Int.reduceDiv, nat10, cl_one, Option.getD_none, Option.getD_some, $as,*])
variable {glob : String → Option D} {pg : Nat → Option Df}
theorem source_ok (hp : Has pg [18]) (k : Nat) (a : Act) : @WC (run glob pg (k + 1) 18 [.d a.d]) ⟨fun o ts => o = .d (oS a.src) ∧ ts = [.d a.d]⟩ ⟨fun _ _ => False⟩ := by
  refine run_ok (hp.at 18 df18 rfl rfl) rfl rfl ?_
  cases a <;> (simp_arith [b18, b18_1, b18_1t_1, b18_2, Act.d, Act.ds, Act.src, oS]; first | done | (constructor <;> rfl))
theorem goal_ok (hp : Has pg [19]) (k : Nat) (a : Act) : @WC (run glob pg (k + 1) 19 [.d a.d]) ⟨fun o ts => o = .d (oS a.dst) ∧ ts = [.d a.d]⟩ ⟨fun _ _ => False⟩ := by
  refine run_ok (hp.at 19 df19 rfl rfl) rfl rfl ?_
  cases a <;> (simp_arith [b19, b19_1, b19_1t_1, b19_2, b19_2t_1, b19_3, Act.d, Act.ds, Act.dst, oS]; first | done | (constructor <;> rfl))
theorem taken_by_ok (hp : Has pg [21]) (k : Nat) (h : Hd) (o1 : O) (ho : o1.toD = .dct (encH h)) (a : Act) : @WC (run glob pg (k + 1) 21 [o1, .d a.d]) ⟨fun o ts => o = .d (.int (gone h a)) ∧ ts = [o1, .d a.d]⟩ ⟨fun _ _ => False⟩ := by
  refine run_ok (hp.at 21 df21 rfl rfl) rfl rfl ?_
  cases a <;> (simp_arith [b21, b21_1, b21_1t_1, b21_2, Act.d, Act.ds, gone, Act.coin, ho, get_enc])
/-- whether an act can be -/
def canB (h : Hd) (a : Act) : Bool := match a with
  | .sell t _ _ => decide (0 < getH h t)
  | .inn _ _ _ => true | .own _ _ => true | .worth _ _ => true
  | .pay p _ c => decide (c ≤ getH h p) | .buy p _ c => decide (c ≤ getH h p) | .spend p c => decide (c ≤ getH h p)
theorem can_be_ok (hp : Has pg [18, 22]) (k : Nat) (h : Hd) (o1 : O) (ho : o1.toD = .dct (encH h)) (a : Act) : @WC (run glob pg (k + 2) 22 [o1, .d a.d]) ⟨fun o ts => o = .d (.bl (canB h a)) ∧ ts = [o1, .d a.d]⟩ ⟨fun _ _ => False⟩ := by
  refine run_ok (hp.at 22 df22 rfl rfl) rfl rfl ?_
  have hs : ∀ {Q : O → List O → Prop} {X : Ex → List O → Prop}, Q (.d (oS a.src)) [.d a.d] → @WC (run glob pg (k + 1) 18 [.d a.d]) ⟨Q⟩ ⟨X⟩ := fun hq => WC_of (source_ok (hp.sub rfl) k a) (by rintro o ts ⟨rfl, rfl⟩; exact hq)
  cases a with
  | sell t p c =>
    simp_arith [b22, b22_1, b22_1t_1, Act.d, Act.ds, ho, get_enc, canB]
  | inn o p c =>
    simp_arith [b22, b22_1, b22_2, Act.d, Act.ds]
    refine hs ?_
    simp_arith [Act.src, oS, canB, Act.d, Act.ds]
  | own p c =>
    simp_arith [b22, b22_1, b22_2, Act.d, Act.ds]
    refine hs ?_
    simp_arith [Act.src, oS, canB, Act.d, Act.ds]
  | worth t c =>
    simp_arith [b22, b22_1, b22_2, Act.d, Act.ds]
    refine hs ?_
    simp_arith [Act.src, oS, canB, Act.d, Act.ds]
  | pay p q c =>
    simp_arith [b22, b22_1, b22_2, Act.d, Act.ds]
    refine hs ?_
    simp_arith [Act.src, oS, Act.d, Act.ds, ho]
    refine hs ?_
    simp_arith [Act.src, oS, canB, Act.d, Act.ds, ho, get_enc]
  | buy p q c =>
    simp_arith [b22, b22_1, b22_2, Act.d, Act.ds]
    refine hs ?_
    simp_arith [Act.src, oS, Act.d, Act.ds, ho]
    refine hs ?_
    simp_arith [Act.src, oS, canB, Act.d, Act.ds, ho, get_enc]
  | spend p c =>
    simp_arith [b22, b22_1, b22_2, Act.d, Act.ds]
    refine hs ?_
    simp_arith [Act.src, oS, Act.d, Act.ds, ho]
    refine hs ?_
    simp_arith [Act.src, oS, canB, Act.d, Act.ds, ho, get_enc]
theorem behind_act_ok (hp : Has pg [18, 19, 21, 23]) (k : Nat) (h : Hd) (hl : h.length ≤ 1000) (o1 : O) (ho : o1.toD = .dct (encH h)) (a : Act) : @WC (run glob pg (k + 2) 23 [o1, .d a.d]) ⟨fun o ts => o = .dct (encH (nextH h a)) ∧ ts = [o1, .d a.d]⟩ ⟨fun _ _ => False⟩ := by
  refine run_ok (hp.at 23 df23 rfl rfl) rfl rfl ?_
  simp_arith [b23, b23_1, ho, b23_2]
  refine WC_of (source_ok (hp.sub rfl) k a) ?_
  rintro o ts ⟨rfl, rfl⟩
  simp_arith [b23_3]
  refine WC_of (goal_ok (hp.sub rfl) k a) ?_
  rintro o ts ⟨rfl, rfl⟩
  simp_arith []
  refine ws_cut (fun e => e = [some o1, some (.d a.d), some (.dct (encH (srcH h a))), some (.d (oS a.src)), some (.d (oS a.dst))]) ?_ ?_
  · cases hs : a.src with
    | none => simp_arith [b23_4, oS, srcH, hs]
    | some s =>
      simp_arith [b23_4, b23_4t_1, oS, hs, ho, get_enc]
      refine WC_of (taken_by_ok (hp.sub rfl) k h o1 ho a) ?_
      rintro o ts ⟨rfl, rfl⟩
      simp_arith [get_enc, put_enc, enc_len, srcH, hs]
      exact ⟨by omega, rfl⟩
  · rintro e rfl
    have hlen : (srcH h a).length ≤ h.length + 1 := by
      unfold srcH
      split
      · exact put_len _ _ _
      · omega
    have hcoin : at? a.ds (-1) = some (.int a.coin) := by rw [atm1]; cases a <;> rfl
    have hdd : a.d = .tup a.ds := rfl
    cases hs : a.dst with
    | none => simp_arith [b23_5, b23_6, oS, nextH, hs]
    | some s =>
      simp_arith [b23_5, b23_5t_1, b23_6, oS, hs, get_enc, hdd, hcoin, put_enc, enc_len, nextH]
      omega
end Wx

set_option Elab.async false
set_option linter.all false
set_option maxRecDepth 100000
set_option maxHeartbeats 4000000
namespace Wx
open Vm
local macro_rules | `(tactic| simp_arith [$as,*]) => `(tactic| simp only [e_var, e_mv, e_fv, e_k, e_g, e_opw, e_mop, e_mopv, dfl_k, e_slcV, e_slcE, e_ch, e_and, e_or, e_not, e_ite, e_lst, e_tup, e_dic0, e_dic, q_dic, pairD_nil, pairD_cons, Wdc_some, Wky_int, Wky_str, WS_dput, e_lcw, e_callw, e_mut, m_app, m_ext, m_clr, Wli_some, evAnd_1, evAnd_2, evOr_1, evOr_2, evI_nil, evI_1, evL_nil, evL_var, evL_o, evV_nil, evV_cons, evA_nil, evA_var, evA_o, evTs_nil, evTs_1, Wi_int, q_var, slc_f, slc_t, q_k, q_g, q_op, q_mop, q_slc, q_ch, q_and, q_or, q_not, q_ite, q_lst, q_tup, q_lc, qs_nil, qs_cons, qcs_nil, qcs_cons, qI_nil, qI_cons, qTs_nil, qTs_cons, qAnd_1, qAnd_2, qOr_1, qOr_2, WbD_bl, Wch_bl, WiD_int, WS_seq, WS_ex, WS_setn, WS_sett, WS_par, WS_aug, Wint_some, WS_sput, WS_saug, WDint_int, WS_iff, WS_for, WS_whl, WS_ret, WS_retN, WS_bad, WS_brk, WS_cnt, WS_pass, W_evT, WS_forget, WO_some, WO_none, Wsl_some, Wb_bl, WO_if, WO_map, WO_bindo, W_slot, W_okr, if_F, F_if, if_and2, if_or2, opD, oAdd, oSub, oMul, oFdv, oMod, oPow, oNeg, oCmp, oEq, oIsN, oIn, inD, oLen, oAll, oAny, oSum, oMn1, oMx1, oMn2, oMx2, oLst, oTup, oDct, oInt, oIdx, oSl, oRev, oJoin, oGet1, oGet2, oIsi, oTab, oLrg, oStr, oInT, oSplit, tabOf, lkT, ofK, oUpper, oLower, oIsup, oIslo, String.reduceEq, Option.isSome_some, List.nodup_cons, isScr, isiB, bls, intsOf, strsOf, eqD_ii, eqD_ss, eqD_bb, eqD_nn, eqD_ni, eqD_ns, eqD_in, eqD_sn, eqD_is, eqD_si, eqD_ll, eqD_tt, eqD_lt, eqD_tl, eqDs_nn, eqDs_cc, eqDs_nc, eqDs_cn, shal_non, shal_bl, shal_int, shal_str, shal_nil, shal_cons, shal_lst, shal_tup, flat, inL, valD, keyD, big_eq, mk, ow_int, ow_str, ow_bl, ow_non, ow_tup, ow_lst, ow_dct, toD_d, toD_lst, toD_dct, quiet_var, quiet_k, quiet_g, quiet_nil, quiet_mv, quiet_fv, quiet_call, quiet_mut, quiet_op, quiet_mop, quiet_slc, quiet_ch, quiet_and, quiet_or, quiet_not, quiet_ite, quiet_lst, quiet_tup, quiet_dic, quiet_lc, quiet_cons, lentE, tyD, mutRule, itD, seqD, at0, at1, at2, at3, at4, at5, at6, at7, atm1, ix0, ix1, ix2, ix3, ix4, arOk, arIx_nil, arIx_sl, arIx_tm, arOs_nil, arOs_sl, arOs_tm, back_nil, back_sl, back_tm, isD, outs_nil, outs_cons, forget_nil, forget_cons, tgSet_n, tgSet_cons, tgSets_nil, tgSets_cons, tgSlots_n, tgSlots_nil, tgSlots_cons, List.set_cons_zero, List.set_cons_succ, List.getElem?_cons_zero, List.getElem?_cons_succ, List.length_cons, List.length_nil, List.length_map, List.map_cons, List.map_nil, List.cons_append, List.nil_append, List.append_nil, List.replicate_succ, List.replicate_zero, List.getLast?_cons_cons, List.getLast?_singleton, List.nodup_cons, List.nodup_nil, List.mem_cons, List.not_mem_nil, List.contains_cons, List.contains_nil, List.all_cons, List.all_nil, decide_true, decide_false, Bool.true_or, Bool.or_true, Bool.false_or, Bool.or_false, Bool.and_true, Bool.true_and, Bool.false_and, Bool.and_false, Bool.not_true, Bool.not_false, Bool.false_bne, Bool.xor_false, Bool.false_xor, Bool.true_xor, Bool.xor_true, beq_iff_eq, bne_iff_ne, decide_eq_true_eq, decide_not, Bool.not_eq_true', Bool.false_eq_true, Bool.true_eq_false, Bool.not_eq_true, decide_eq_false_iff_not, beq_self_eq_true, beq_eq_false_iff_ne, bne_self_eq_false, Bool.and_eq_true, Bool.or_eq_true, true_and, and_true, false_and, and_false, or_false, false_or, or_true, true_or, not_true_eq_false, not_false_eq_true, ne_eq, reduceCtorEq, implies_true, forall_const, Option.some.injEq, exists_eq_left', exists_eq_left, eq_self, if_true, if_false, ↓reduceIte, Nat.reduceAdd, Nat.reduceSub, Nat.reduceMul, Nat.reduceLT, Nat.reduceLeDiff, Nat.reduceEqDiff, Nat.reduceBEq, Nat.zero_add, Nat.succ_eq_add_one, Nat.lt_add_left_iff_pos, Nat.add_lt_add_iff_right, Nat.not_lt_zero, Nat.lt_irrefl, Nat.zero_lt_succ, Nat.one_ne_zero, Nat.add_one_ne_zero, Nat.succ_ne_zero, Nat.reduceSucc, Int.reducePow, Int.reduceMul, Int.reduceAdd, Int.reduceSub, Int.reduceNeg, Int.reduceLT, Int.reduceLE, Int.reduceToNat, Int.reduceNegSucc, Int.reduceEq, Int.reduceNe, Int.cast_ofNat_Int, Int.natCast_zero, Int.natCast_one, Int.reduceBEq, Int.reduceMod, Int.reduceDiv, nat10, cl_one, Option.getD_none, Option.getD_some, $as,*])
variable {glob : String → Option D} {pg : Nat → Option Df}
def encK (ks : List String) : List (D × D) := ks.map fun s => (.str s, .bl true)
def addK (ks : List String) (s : String) : List String := if s ∈ ks then ks else ks ++ [s]
theorem encK_len (ks : List String) : (encK ks).length = ks.length := List.length_map _
theorem putK_enc (ks : List String) (s : String) : putD (encK ks) (.str s) (.inr s) (.bl true) = encK (addK ks s) := by
  have ha : ((encK ks).any fun p => decide (keyD p.1 = some (.inr s))) = decide (s ∈ ks) := by
    unfold encK
    rw [List.any_map]
    induction ks with
    | nil => rfl
    | cons x xs ih =>
      rw [List.any_cons, ih]
      show (decide (keyD (.str x) = some (.inr s)) || _) = _
      by_cases c : x = s
      · subst c; simp [keyD]
      · rw [decide_eq_false (fun z => c (by injection z with z; injection z)), Bool.false_or]
        simp [Ne.symm c]
  unfold putD addK
  rw [ha]
  by_cases c : s ∈ ks
  · rw [if_pos (decide_eq_true c), if_pos c]
    unfold encK
    rw [List.map_map]
    apply List.map_congr_left
    intro x _
    show (if keyD (.str x) = some (.inr s) then (D.str x, D.bl true) else (D.str x, D.bl true)) = _
    split <;> rfl
  · rw [if_neg (by rw [decide_eq_true_eq]; exact c), if_neg c]
    unfold encK
    rw [List.map_append]; rfl
theorem addK_len (ks : List String) (s : String) : (addK ks s).length ≤ ks.length + 1 := by
  unfold addK
  split
  · omega
  · rw [List.length_append]; simp
theorem addK_nd {ks : List String} {s : String} (h : ks.Nodup) : (addK ks s).Nodup := by
  unfold addK
  split
  · exact h
  · rename_i c
    rw [List.nodup_append]
    exact ⟨h, by simp, fun a ha b hb e => c (by rw [List.mem_singleton.mp hb] at e; rw [← e]; exact ha)⟩
theorem addK_mem {ks : List String} {s x : String} : x ∈ addK ks s ↔ x ∈ ks ∨ x = s := by
  unfold addK
  split
  · rename_i c
    exact ⟨.inl, fun h => h.elim id fun e => e ▸ c⟩
  · simp
/-- the names that an act bears, with their kinds -/
def Act.kn : Act → List (String × String)
  | .inn o p _ => [("o", o), ("p", p)]
  | .own p _ => [("p", p)]
  | .pay p q _ => [("p", p), ("p", q)]
  | .buy p t _ => [("p", p), ("t", t)]
  | .sell t p _ => [("t", t), ("p", p)]
  | .spend p _ => [("p", p)]
  | .worth t _ => [("t", t)]
def addA (w : String) (ks : List String) (a : Act) : List String := a.kn.foldl (fun ks kn => if kn.1 = w then addK ks kn.2 else ks) ks
def namesK (w : String) (as : List Act) : List String := as.foldl (addA w) []
theorem addA_len (w : String) (ks : List String) (a : Act) : (addA w ks a).length ≤ ks.length + 2 := by
  unfold addA
  have key : ∀ (l : List (String × String)) (ks : List String), (l.foldl (fun ks kn => if kn.1 = w then addK ks kn.2 else ks) ks).length ≤ ks.length + l.length := by
    intro l
    induction l with
    | nil => intro ks; simp
    | cons x l ih =>
      intro ks
      rw [List.foldl_cons, List.length_cons]
      have := ih (if x.1 = w then addK ks x.2 else ks)
      have h2 : (if x.1 = w then addK ks x.2 else ks).length ≤ ks.length + 1 := by
        split
        · exact addK_len _ _
        · omega
      omega
  have := key a.kn ks
  have : a.kn.length ≤ 2 := by cases a <;> simp [Act.kn]
  omega
theorem addA_nd {w : String} {ks : List String} {a : Act} (h : ks.Nodup) : (addA w ks a).Nodup := by
  unfold addA
  generalize a.kn = l
  induction l generalizing ks with
  | nil => exact h
  | cons x l ih =>
    rw [List.foldl_cons]
    apply ih
    split
    · exact addK_nd h
    · exact h
theorem addA_mem {w : String} {a : Act} {x : String} : ∀ {ks : List String}, x ∈ addA w ks a ↔ x ∈ ks ∨ (w, x) ∈ a.kn := by
  unfold addA
  generalize a.kn = l
  induction l with
  | nil => intro ks; simp
  | cons y l ih =>
    intro ks
    rw [List.foldl_cons, ih]
    obtain ⟨y1, y2⟩ := y
    by_cases e : y1 = w
    · subst e
      rw [if_pos rfl, addK_mem, List.mem_cons]
      constructor
      · rintro ((h | rfl) | h)
        · exact .inl h
        · exact .inr (.inl rfl)
        · exact .inr (.inr h)
      · rintro (h | h | h)
        · exact .inl (.inl h)
        · exact .inl (.inr (by injection h))
        · exact .inr h
    · rw [if_neg e, List.mem_cons]
      constructor
      · rintro (h | h)
        · exact .inl h
        · exact .inr (.inr h)
      · rintro (h | h | h)
        · exact .inl h
        · exact absurd (by injection h with h; exact h.symm) e
        · exact .inr h
theorem names_nd {w : String} : ∀ (as : List Act) {ks : List String}, ks.Nodup → (as.foldl (addA w) ks).Nodup
  | [], _, h => h
  | a :: as, _, h => names_nd as (addA_nd h)
theorem names_mem {w x : String} : ∀ (as : List Act) {ks : List String}, x ∈ as.foldl (addA w) ks ↔ x ∈ ks ∨ ∃ a ∈ as, (w, x) ∈ a.kn
  | [], _ => by simp
  | a :: as, ks => by
    rw [List.foldl_cons, names_mem as, addA_mem]
    simp [or_assoc]
theorem names_len {w : String} : ∀ (as : List Act) (ks : List String), (as.foldl (addA w) ks).length ≤ ks.length + 2 * as.length
  | [], ks => by simp
  | a :: as, ks => by
    have := names_len (w := w) as (addA w ks a)
    have := addA_len w ks a
    rw [List.foldl_cons, List.length_cons]; omega
theorem nodup_le : ∀ (xs ys : List String), xs.Nodup → (∀ x ∈ xs, x ∈ ys) → xs.length ≤ ys.length
  | [], ys, _, _ => Nat.zero_le _
  | x :: xs, ys, h, s => by
    rw [List.nodup_cons] at h
    have hx := s x List.mem_cons_self
    have := nodup_le xs (ys.erase x) h.2 fun z hz => (List.mem_erase_of_ne (fun e => h.1 (by rw [← e]; exact hz))).mpr (s z (List.mem_cons_of_mem _ hz))
    rw [List.length_erase_of_mem hx] at this
    have : 0 < ys.length := List.length_pos_of_mem hx
    rw [List.length_cons]; omega
/-- one act's names are put down -/
theorem named_turn {G : Gs} {w : String} (hw : w = "p" ∨ w = "t" ∨ w = "o") (a : Act) (ks : List String) (hk : ks.length ≤ 1000) (e0 : Option O) {P : Ps}
    (h : ∀ u v, P.nx [e0, some (.d (.str w)), some (.dct (encK (addA w ks a))), some (.d a.d), u, v, none]) :
    @WS (exe G b20_2b_1 [e0, some (.d (.str w)), some (.dct (encK ks)), some (.d a.d), none, none, none]) P := by
  have l1 : ∀ s, (addK ks s).length < 16777216 := fun s => by have := addK_len ks s; omega
  have l0 : ks.length < 16777216 := by omega
  rcases hw with rfl | rfl | rfl <;> cases a <;> (
    simp_arith [Act.d, Act.ds, b20_2b_1, cut, loN, hiN, zipD, for_cons, for_nil, b20_2b_1b_1, b20_2b_1b_1t_1, ofl_o, ofl_p, ofl_c, ofl_t, ofl_w, tl_opc, tl_pc, tl_ppc, tl_ptc, tl_tpc, tl_tw, List.drop_succ_cons, List.drop_zero, List.take_succ_cons, List.take_zero, putK_enc, encK_len, l0, l1]
    exact h _ _)
theorem named_ok (hp : Has pg [20]) (k : Nat) {w : String} (hw : w = "p" ∨ w = "t" ∨ w = "o") (as : List Act) (hl : as.length ≤ 400) (o1 : O) (ho : o1.toD = .lst (as.map Act.d)) :
    @WC (run glob pg (k + 1) 20 [o1, .d (.str w)]) ⟨fun o ts => o = .lst ((namesK w as).map .str) ∧ ts = [.d (.lst (as.map Act.d)), .d (.str w)]⟩ ⟨fun _ _ => False⟩ := by
  refine run_ok (hp.at 20 df20 rfl rfl) rfl rfl ?_
  simp_arith [b20, b20_1, b20_2, ho]
  refine for_inv (fun rest e => ∃ l1 l2, as = l1 ++ l2 ∧ rest = l2.map Act.d ∧ e = [some (.d (.lst (as.map Act.d))), some (.d (.str w)), some (.dct (encK (namesK w l1))), none, none, none, none]) ?_ ?_ ⟨[], as, rfl, rfl, rfl⟩
  · rintro d rest e ⟨l1, l2, hll, hr, rfl⟩
    match l2, hr with
    | a :: l2, hr =>
      cases hr
      simp_arith []
      have hn : (namesK w l1).length ≤ 1000 := by
        have := names_len (w := w) l1 []
        have : l1.length ≤ as.length := by rw [hll, List.length_append]; omega
        unfold namesK
        simp only [List.length_nil] at *
        omega
      refine named_turn hw a _ hn _ fun u v => ?_
      simp_arith []
      refine ⟨l1 ++ [a], l2, by rw [hll, List.append_assoc]; rfl, rfl, ?_⟩
      unfold namesK
      rw [List.foldl_append]; rfl
  · rintro e ⟨l1, l2, hll, hr, rfl⟩
    cases l2 with
    | cons x l2 => cases hr
    | nil =>
      rw [List.append_nil] at hll
      subst hll
      have hk : (encK (namesK w as)).map (·.1) = (namesK w as).map .str := by unfold encK; rw [List.map_map]; rfl
      simp_arith [b20_3, hk]
end Wx

set_option Elab.async false
set_option linter.all false
set_option maxRecDepth 100000
set_option maxHeartbeats 4000000
namespace Wx
open Vm
local macro_rules | `(tactic| simp_arith [$as,*]) => `(tactic| simp only [e_var, e_mv, e_fv, e_k, e_g, e_opw, e_mop, e_mopv, dfl_k, e_slcV, e_slcE, e_ch, e_and, e_or, e_not, e_ite, e_lst, e_tup, e_dic0, e_dic, q_dic, pairD_nil, pairD_cons, Wdc_some, Wky_int, Wky_str, WS_dput, e_lcw, e_callw, e_mut, m_app, m_ext, m_clr, Wli_some, evAnd_1, evAnd_2, evOr_1, evOr_2, evI_nil, evI_1, evL_nil, evL_var, evL_o, evV_nil, evV_cons, evA_nil, evA_var, evA_o, evTs_nil, evTs_1, Wi_int, q_var, slc_f, slc_t, q_k, q_g, q_op, q_mop, q_slc, q_ch, q_and, q_or, q_not, q_ite, q_lst, q_tup, q_lc, qs_nil, qs_cons, qcs_nil, qcs_cons, qI_nil, qI_cons, qTs_nil, qTs_cons, qAnd_1, qAnd_2, qOr_1, qOr_2, WbD_bl, Wch_bl, WiD_int, WS_seq, WS_ex, WS_setn, WS_sett, WS_par, WS_aug, Wint_some, WS_sput, WS_saug, WDint_int, WS_iff, WS_for, WS_whl, WS_ret, WS_retN, WS_bad, WS_brk, WS_cnt, WS_pass, W_evT, WS_forget, WO_some, WO_none, Wsl_some, Wb_bl, WO_if, WO_map, WO_bindo, W_slot, W_okr, if_F, F_if, if_and2, if_or2, opD, oAdd, oSub, oMul, oFdv, oMod, oPow, oNeg, oCmp, oEq, oIsN, oIn, inD, oLen, oAll, oAny, oSum, oMn1, oMx1, oMn2, oMx2, oLst, oTup, oDct, oInt, oIdx, oSl, oRev, oJoin, oGet1, oGet2, oIsi, oTab, oLrg, oStr, oInT, oSplit, tabOf, lkT, ofK, oUpper, oLower, oIsup, oIslo, String.reduceEq, Option.isSome_some, List.nodup_cons, isScr, isiB, bls, intsOf, strsOf, eqD_ii, eqD_ss, eqD_bb, eqD_nn, eqD_ni, eqD_ns, eqD_in, eqD_sn, eqD_is, eqD_si, eqD_ll, eqD_tt, eqD_lt, eqD_tl, eqDs_nn, eqDs_cc, eqDs_nc, eqDs_cn, shal_non, shal_bl, shal_int, shal_str, shal_nil, shal_cons, shal_lst, shal_tup, flat, inL, valD, keyD, big_eq, mk, ow_int, ow_str, ow_bl, ow_non, ow_tup, ow_lst, ow_dct, toD_d, toD_lst, toD_dct, quiet_var, quiet_k, quiet_g, quiet_nil, quiet_mv, quiet_fv, quiet_call, quiet_mut, quiet_op, quiet_mop, quiet_slc, quiet_ch, quiet_and, quiet_or, quiet_not, quiet_ite, quiet_lst, quiet_tup, quiet_dic, quiet_lc, quiet_cons, lentE, tyD, mutRule, itD, seqD, at0, at1, at2, at3, at4, at5, at6, at7, atm1, ix0, ix1, ix2, ix3, ix4, arOk, arIx_nil, arIx_sl, arIx_tm, arOs_nil, arOs_sl, arOs_tm, back_nil, back_sl, back_tm, isD, outs_nil, outs_cons, forget_nil, forget_cons, tgSet_n, tgSet_cons, tgSets_nil, tgSets_cons, tgSlots_n, tgSlots_nil, tgSlots_cons, List.set_cons_zero, List.set_cons_succ, List.getElem?_cons_zero, List.getElem?_cons_succ, List.length_cons, List.length_nil, List.length_map, List.map_cons, List.map_nil, List.cons_append, List.nil_append, List.append_nil, List.replicate_succ, List.replicate_zero, List.getLast?_cons_cons, List.getLast?_singleton, List.nodup_cons, List.nodup_nil, List.mem_cons, List.not_mem_nil, List.contains_cons, List.contains_nil, List.all_cons, List.all_nil, decide_true, decide_false, Bool.true_or, Bool.or_true, Bool.false_or, Bool.or_false, Bool.and_true, Bool.true_and, Bool.false_and, Bool.and_false, Bool.not_true, Bool.not_false, Bool.false_bne, Bool.xor_false, Bool.false_xor, Bool.true_xor, Bool.xor_true, beq_iff_eq, bne_iff_ne, decide_eq_true_eq, decide_not, Bool.not_eq_true', Bool.false_eq_true, Bool.true_eq_false, Bool.not_eq_true, decide_eq_false_iff_not, beq_self_eq_true, beq_eq_false_iff_ne, bne_self_eq_false, Bool.and_eq_true, Bool.or_eq_true, true_and, and_true, false_and, and_false, or_false, false_or, or_true, true_or, not_true_eq_false, not_false_eq_true, ne_eq, reduceCtorEq, implies_true, forall_const, Option.some.injEq, exists_eq_left', exists_eq_left, eq_self, if_true, if_false, ↓reduceIte, Nat.reduceAdd, Nat.reduceSub, Nat.reduceMul, Nat.reduceLT, Nat.reduceLeDiff, Nat.reduceEqDiff, Nat.reduceBEq, Nat.zero_add, Nat.succ_eq_add_one, Nat.lt_add_left_iff_pos, Nat.add_lt_add_iff_right, Nat.not_lt_zero, Nat.lt_irrefl, Nat.zero_lt_succ, Nat.one_ne_zero, Nat.add_one_ne_zero, Nat.succ_ne_zero, Nat.reduceSucc, Int.reducePow, Int.reduceMul, Int.reduceAdd, Int.reduceSub, Int.reduceNeg, Int.reduceLT, Int.reduceLE, Int.reduceToNat, Int.reduceNegSucc, Int.reduceEq, Int.reduceNe, Int.cast_ofNat_Int, Int.natCast_zero, Int.natCast_one, Int.reduceBEq, Int.reduceMod, Int.reduceDiv, nat10, cl_one, Option.getD_none, Option.getD_some, $as,*])
variable {glob : String → Option D} {pg : Nat → Option Df}
structure Gl2 (glob : String → Option D) : Prop extends Gl1 glob where
  ma : glob "MOST_ACTS" = some (.int 60)
theorem fits_good {ps gs fs : List String} {s : Int} {h : Hd} {a : Act} (H : HouseOk ps gs fs s) (f : Fits ps gs fs h a) : goodA a = true := by
  have i1 : ∀ y ∈ ps, isOf y SM = true := H.np.nm
  have i2 : ∀ y ∈ gs, isOf y GR = true := H.ng.nm
  have i3 : ∀ y ∈ fs, isOf y SM = true := H.nf.nm
  cases a with
  | inn o p c => obtain ⟨f1, f2, f3, f4⟩ := f; simp [goodA, coinOk, i3 o f1, i1 p f2, f3, f4]
  | own p c => obtain ⟨f1, f3, f4⟩ := f; simp [goodA, coinOk, i1 p f1, f3, f4]
  | pay p q c => obtain ⟨f1, f2, f3, f4, f5, f6⟩ := f; simp [goodA, coinOk, i1 p f1, i1 q f2, f4, f5, Ne.symm f3]
  | buy p t c => obtain ⟨f1, f2, f3, f4, f5⟩ := f; simp [goodA, coinOk, i1 p f1, i2 t f2, f3, f4]
  | sell t p c => obtain ⟨f1, f2, f3, f4, f5⟩ := f; simp [goodA, coinOk, i2 t f1, i1 p f2, f4, f5]
  | spend p c => obtain ⟨f1, f3, f4, f5⟩ := f; simp [goodA, coinOk, i1 p f1, f3, f4]
  | worth t c => obtain ⟨f1, f3, f4⟩ := f; simp [goodA, worthOk, i2 t f1, f3, f4]
theorem good_fit {a : Act} (h : goodA a = true) : a.Fit := by
  intro s hs
  have key : isOf s SM = true ∨ isOf s GR = true := by
    cases a <;> simp only [goodA, Bool.and_eq_true] at h <;> simp only [Act.strs, List.mem_cons, List.not_mem_nil, or_false] at hs
    · rcases hs with rfl | rfl
      · exact .inl h.1.1
      · exact .inl h.1.2
    · subst hs; exact .inl h.1
    · rcases hs with rfl | rfl
      · exact .inl h.1.1.1
      · exact .inl h.1.1.2
    · rcases hs with rfl | rfl
      · exact .inl h.1.1
      · exact .inr h.1.2
    · rcases hs with rfl | rfl
      · exact .inr h.1.1
      · exact .inl h.1.2
    · subst hs; exact .inl h.1
    · subst hs; exact .inr h.1
  rcases key with h | h <;> (have := isOf_len h; omega)
theorem fits_can {ps gs fs : List String} {h : Hd} {a : Act} (f : Fits ps gs fs h a) : canB h a = true := by
  cases a <;> simp only [Fits] at f <;> simp only [canB, decide_eq_true_eq] <;> omega
theorem sound_app {ps gs fs : List String} : ∀ {as bs : List Act} {h : Hd}, Sound ps gs fs h (as ++ bs) ↔ Sound ps gs fs h as ∧ Sound ps gs fs (as.foldl nextH h) bs
  | [], bs, h => by simp [Sound]
  | a :: as, bs, h => by
    rw [List.cons_append, List.foldl_cons]
    simp only [Sound, sound_app, and_assoc]
theorem sound_fit {ps gs fs : List String} : ∀ {as : List Act} {h : Hd}, Sound ps gs fs h as → ∀ a ∈ as, ∃ h, Fits ps gs fs h a
  | a :: as, h, s, b, hb => by
    rcases List.mem_cons.mp hb with rfl | hb
    · exact ⟨h, s.1⟩
    · exact sound_fit s.2 b hb
theorem kn_in {ps gs fs : List String} {h : Hd} {a : Act} (f : Fits ps gs fs h a) {w x : String} (hk : (w, x) ∈ a.kn) : (w = "p" → x ∈ ps) ∧ (w = "t" → x ∈ gs) ∧ (w = "o" → x ∈ fs) := by
  cases a <;> simp only [Fits] at f <;> simp only [Act.kn, List.mem_cons, List.not_mem_nil, or_false, Prod.mk.injEq] at hk
  · rcases hk with ⟨rfl, rfl⟩ | ⟨rfl, rfl⟩ <;> simp [f]
  · obtain ⟨rfl, rfl⟩ := hk; simp [f]
  · rcases hk with ⟨rfl, rfl⟩ | ⟨rfl, rfl⟩ <;> simp [f]
  · rcases hk with ⟨rfl, rfl⟩ | ⟨rfl, rfl⟩ <;> simp [f]
  · rcases hk with ⟨rfl, rfl⟩ | ⟨rfl, rfl⟩ <;> simp [f]
  · obtain ⟨rfl, rfl⟩ := hk; simp [f]
  · obtain ⟨rfl, rfl⟩ := hk; simp [f]
theorem few_names {ps gs fs : List String} {as : List Act} (s : Sound ps gs fs [] as) : (namesK "p" as).length ≤ ps.length ∧ (namesK "t" as).length ≤ gs.length ∧ (namesK "o" as).length ≤ fs.length := by
  have key : ∀ w x, x ∈ namesK w as → (w = "p" → x ∈ ps) ∧ (w = "t" → x ∈ gs) ∧ (w = "o" → x ∈ fs) := by
    intro w x hx
    rcases (names_mem as).mp hx with hx | ⟨a, ha, hk⟩
    · cases hx
    · obtain ⟨h, f⟩ := sound_fit s a ha
      exact kn_in f hk
  exact ⟨nodup_le _ _ (names_nd as List.nodup_nil) fun x hx => (key _ x hx).1 rfl, nodup_le _ _ (names_nd as List.nodup_nil) fun x hx => (key _ x hx).2.1 rfl, nodup_le _ _ (names_nd as List.nodup_nil) fun x hx => (key _ x hx).2.2 rfl⟩
def actsD (as : List Act) : D := .lst (as.map Act.d)
theorem bls_f : ∀ n : Nat, bls (List.replicate n (.bl false)) = some (List.replicate n false)
  | 0 => rfl
  | n + 1 => by rw [List.replicate_succ, bls, bls_f n]; rfl
theorem any_f : ∀ n : Nat, (List.replicate n false).any id = false
  | 0 => rfl
  | n + 1 => by rw [List.replicate_succ, List.any_cons, any_f n]; rfl
theorem look_ok (hp : Has pg [1, 2, 3, 10, 11, 18, 19, 20, 21, 22, 23, 24]) (hg : Gl2 glob) (k : Nat) {ps gs fs : List String} {s : Int} (H : HouseOk ps gs fs s) (as : List Act) (hs : Sound ps gs fs [] as) (hl : as.length ≤ 60) (o1 : O) (ho : o1.toD = actsD as) :
    @WC (run glob pg (k + 5) 24 [o1]) ⟨fun o ts => o = .d .non ∧ ts = [.d (actsD as)]⟩ ⟨fun _ _ => False⟩ := by
  refine run_ok (hp.at 24 df24 rfl rfl) rfl rfl ?_
  have hnm := few_names hs
  have hp1 := H.p1
  have hg1 := H.g1
  have hf1 := H.f1
  simp_arith [b24, b24_1, ho, actsD]
  refine for_inv (fun rest e => ∃ n l1 l2, as = l1 ++ l2 ∧ rest = enumD n (l2.map Act.d) ∧ e = [some (.d (.lst (as.map Act.d))), none, none, none, none, none]) ?_ ?_ ⟨0, [], as, rfl, rfl, rfl⟩
  · rintro d rest e ⟨n, l1, l2, hll, hr, rfl⟩
    match l2, hr with
    | [], hr => unfold enumD at hr; cases hr
    | a :: l2, hr =>
      rw [List.map_cons] at hr
      unfold enumD at hr
      cases hr
      have hga : goodA a = true := by
        obtain ⟨h, f⟩ := sound_fit hs a (by rw [hll]; simp)
        exact fits_good H f
      simp_arith [b24_1b_1]
      refine WC_of (good_act_ok (hp.sub rfl) hg.toGl1 k a (good_fit hga)) ?_
      rintro o ts ⟨rfl, rfl⟩
      simp_arith [hga]
      exact ⟨n + 1, l1 ++ [a], l2, by rw [hll, List.append_assoc]; rfl, rfl⟩
  · rintro e ⟨n, l1, l2, hll, hr, rfl⟩
    simp_arith [b24_2, hg.ma]
    rw [if_neg (by omega)]
    refine lc_inv (fun rest ys e => ∃ ws : List String, rest = ws.map .str ∧ (∀ w ∈ ws, w = "p" ∨ w = "t" ∨ w = "o") ∧ ys = List.replicate ys.length (.bl false) ∧ e = [some (.d (.lst (as.map Act.d))), none, none, none, none, none]) ?_ ?_ ⟨["p", "t", "o"], rfl, by simp, rfl, rfl⟩
    · rintro d rest ys e ⟨ws, hr, hw, hy, rfl⟩
      match ws, hr with
      | [], hr => cases hr
      | w :: ws, hr =>
        cases hr
        have hw1 := hw w List.mem_cons_self
        simp_arith []
        refine WC_of (named_ok (hp.sub rfl) (k + 3) hw1 as (by omega) _ rfl) ?_
        rintro o ts ⟨rfl, rfl⟩
        rcases hw1 with rfl | rfl | rfl
        · simp_arith []
          exact ⟨ws, rfl, fun w h => hw w (List.mem_cons_of_mem _ h), by rw [List.length_append, List.length_singleton, List.replicate_succ', ← hy, decide_eq_false (by omega)]⟩
        · simp_arith []
          exact ⟨ws, rfl, fun w h => hw w (List.mem_cons_of_mem _ h), by rw [List.length_append, List.length_singleton, List.replicate_succ', ← hy, decide_eq_false (by omega)]⟩
        · simp_arith []
          exact ⟨ws, rfl, fun w h => hw w (List.mem_cons_of_mem _ h), by rw [List.length_append, List.length_singleton, List.replicate_succ', ← hy, decide_eq_false (by omega)]⟩
    · rintro ys e ⟨ws, hr, hw, hy, rfl⟩
      generalize ys.length = m at hy
      subst hy
      simp_arith [bls_f, any_f, b24_3, b24_4]
      refine for_inv (fun rest e => ∃ n l1 l2 u v, as = l1 ++ l2 ∧ rest = enumD n (l2.map Act.d) ∧ e = [some (.d (.lst (as.map Act.d))), u, v, none, some (.dct (encH (heldH l1))), none]) ?_ ?_ ⟨0, [], as, none, none, rfl, rfl, rfl⟩
      · rintro d rest e ⟨n, l1, l2, u, v, hll, hr, rfl⟩
        match l2, hr with
        | [], hr => unfold enumD at hr; cases hr
        | a :: l2, hr =>
          rw [List.map_cons] at hr
          unfold enumD at hr
          cases hr
          have hsa := sound_app.mp (hll ▸ hs)
          have hca : canB (heldH l1) a = true := fits_can hsa.2.1
          have hln : (heldH l1).length ≤ 1000 := by
            have := held_len l1 []
            have : l1.length ≤ as.length := by rw [hll, List.length_append]; omega
            unfold heldH
            simp only [List.length_nil] at *
            omega
          simp_arith [b24_4b_1]
          refine WC_of (can_be_ok (hp.sub rfl) (k + 2) (heldH l1) _ rfl a) ?_
          rintro o ts ⟨rfl, rfl⟩
          simp_arith [hca, b24_4b_2]
          refine WC_of (behind_act_ok (hp.sub rfl) (k + 2) (heldH l1) hln _ rfl a) ?_
          rintro o ts ⟨rfl, rfl⟩
          simp_arith []
          have hh : nextH (heldH l1) a = heldH (l1 ++ [a]) := by unfold heldH; rw [List.foldl_append]; rfl
          rw [hh]
          exact ⟨n + 1, l1 ++ [a], l2, _, _, by rw [hll, List.append_assoc]; rfl, rfl, rfl⟩
      · rintro e ⟨n, l1, l2, u, v, hll, hr, rfl⟩
        simp_arith []
        rfl
/-! ### what vessels hold, along the acts -/
def along (h : Hd) : List Act → List Hd
  | [] => []
  | a :: r => nextH h a :: along (nextH h a) r
theorem along_len : ∀ (as : List Act) (h : Hd), (along h as).length = as.length
  | [], _ => rfl
  | a :: as, h => by unfold along; rw [List.length_cons, List.length_cons, along_len as]
theorem along_app : ∀ (as : List Act) (h : Hd) (a : Act), along h (as ++ [a]) = along h as ++ [nextH (as.foldl nextH h) a]
  | [], h, a => rfl
  | b :: as, h, a => by
    rw [List.cons_append, along, along_app as, along]; rfl
def rowD (h : Hd) : D := .dct (encH h)
theorem states_ok (hp : Has pg [18, 19, 21, 23, 53]) (k : Nat) (as : List Act) (hl : as.length ≤ 400) (o1 : O) (ho : o1.toD = actsD as) :
    @WC (run glob pg (k + 3) 53 [o1]) ⟨fun o ts => o = .lst ((along [] as).map rowD) ∧ ts = [.d (actsD as)]⟩ ⟨fun _ _ => False⟩ := by
  refine run_ok (hp.at 53 df53 rfl rfl) rfl rfl ?_
  simp_arith [b53, b53_1, b53_2, b53_3, ho, actsD]
  refine for_inv (fun rest e => ∃ l1 l2 oh, as = l1 ++ l2 ∧ rest = l2.map Act.d ∧ oh.toD = .dct (encH (heldH l1)) ∧ e = [some (.d (.lst (as.map Act.d))), some (.lst ((along [] l1).map rowD)), some oh, none]) ?_ ?_ ⟨[], as, .dct [], rfl, rfl, rfl, rfl⟩
  · rintro d rest e ⟨l1, l2, oh, hll, hr, hoh, rfl⟩
    match l2, hr with
    | a :: l2, hr =>
      cases hr
      have hll1 : l1.length < as.length := by rw [hll, List.length_append, List.length_cons]; omega
      have hln : (heldH l1).length ≤ 1000 := by
        have := held_len l1 []
        unfold heldH
        simp only [List.length_nil] at *
        omega
      simp_arith [b53_3b_1]
      refine WC_of (behind_act_ok (hp.sub rfl) k (heldH l1) hln _ hoh a) ?_
      rintro o ts ⟨rfl, rfl⟩
      simp_arith [b53_3b_2, along_len]
      have hh : nextH (heldH l1) a = heldH (l1 ++ [a]) := by unfold heldH; rw [List.foldl_append]; rfl
      exact ⟨by omega, l1 ++ [a], l2, .d (.dct (encH (nextH (heldH l1) a))), by rw [hll, List.append_assoc]; rfl, rfl, by rw [toD_d, hh], by rw [along_app, List.map_append]; rfl⟩
  · rintro e ⟨l1, l2, oh, hll, hr, hoh, rfl⟩
    cases l2 with
    | cons x l2 => cases hr
    | nil =>
      rw [List.append_nil] at hll
      subst hll
      simp_arith [b53_4]
      constructor <;> rfl
/-- what a vessel holds behind each act -/
def heldAlong (as : List Act) (v : String) : List Int := (along [] as).map fun h => getH h v
theorem held_along_ok (hp : Has pg [18, 19, 21, 23, 53, 54]) (k : Nat) (as : List Act) (hl : as.length ≤ 400) (v : String) (o1 : O) (ho : o1.toD = actsD as) :
    @WC (run glob pg (k + 4) 54 [o1, .d (.str v)]) ⟨fun o ts => o = .lst ((heldAlong as v).map .int) ∧ ts = [.d (actsD as), .d (.str v)]⟩ ⟨fun _ _ => False⟩ := by
  refine run_ok (hp.at 54 df54 rfl rfl) rfl rfl ?_
  simp_arith [b54, b54_1]
  refine WC_of (states_ok (hp.sub rfl) k as hl o1 ho) ?_
  rintro o ts ⟨rfl, rfl⟩
  simp_arith [along_len]
  refine ⟨by omega, lc_inv (fun rest ys e => ∃ l1 l2, along [] as = l1 ++ l2 ∧ rest = l2.map rowD ∧ ys = l1.map (fun h => .int (getH h v)) ∧ e = [some (.d (actsD as)), some (.d (.str v)), none]) ?_ ?_ ⟨[], _, rfl, rfl, rfl, rfl⟩⟩
  · rintro d rest ys e ⟨l1, l2, hll, hr, rfl, rfl⟩
    match l2, hr with
    | h :: l2, hr =>
      cases hr
      simp_arith [rowD, get_enc]
      exact ⟨l1 ++ [h], l2, by rw [hll, List.append_assoc]; rfl, rfl, by rw [List.map_append]; rfl⟩
  · rintro ys e ⟨l1, l2, hll, hr, rfl, rfl⟩
    cases l2 with
    | cons x l2 => cases hr
    | nil =>
      rw [List.append_nil] at hll
      simp_arith []
      unfold heldAlong
      rw [hll, List.map_map]
      rfl
end Wx

set_option Elab.async false
set_option linter.all false
set_option maxRecDepth 100000
set_option maxHeartbeats 4000000
namespace Wx
open Vm
local macro_rules | `(tactic| simp_arith [$as,*]) => `(tactic| simp only [e_var, e_mv, e_fv, e_k, e_g, e_opw, e_mop, e_mopv, dfl_k, e_slcV, e_slcE, e_ch, e_and, e_or, e_not, e_ite, e_lst, e_tup, e_dic0, e_dic, q_dic, pairD_nil, pairD_cons, Wdc_some, Wky_int, Wky_str, WS_dput, e_lcw, e_callw, e_mut, m_app, m_ext, m_clr, Wli_some, evAnd_1, evAnd_2, evOr_1, evOr_2, evI_nil, evI_1, evL_nil, evL_var, evL_o, evV_nil, evV_cons, evA_nil, evA_var, evA_o, evTs_nil, evTs_1, Wi_int, q_var, slc_f, slc_t, q_k, q_g, q_op, q_mop, q_slc, q_ch, q_and, q_or, q_not, q_ite, q_lst, q_tup, q_lc, qs_nil, qs_cons, qcs_nil, qcs_cons, qI_nil, qI_cons, qTs_nil, qTs_cons, qAnd_1, qAnd_2, qOr_1, qOr_2, WbD_bl, Wch_bl, WiD_int, WS_seq, WS_ex, WS_setn, WS_sett, WS_par, WS_aug, Wint_some, WS_sput, WS_saug, WDint_int, WS_iff, WS_for, WS_whl, WS_ret, WS_retN, WS_bad, WS_brk, WS_cnt, WS_pass, W_evT, WS_forget, WO_some, WO_none, Wsl_some, Wb_bl, WO_if, WO_map, WO_bindo, W_slot, W_okr, if_F, F_if, if_and2, if_or2, opD, oAdd, oSub, oMul, oFdv, oMod, oPow, oNeg, oCmp, oEq, oIsN, oIn, inD, oLen, oAll, oAny, oSum, oMn1, oMx1, oMn2, oMx2, oLst, oTup, oDct, oInt, oIdx, oSl, oRev, oJoin, oGet1, oGet2, oIsi, oTab, oLrg, oStr, oInT, oSplit, tabOf, lkT, ofK, oUpper, oLower, oIsup, oIslo, String.reduceEq, Option.isSome_some, List.nodup_cons, isScr, isiB, bls, intsOf, strsOf, eqD_ii, eqD_ss, eqD_bb, eqD_nn, eqD_ni, eqD_ns, eqD_in, eqD_sn, eqD_is, eqD_si, eqD_ll, eqD_tt, eqD_lt, eqD_tl, eqDs_nn, eqDs_cc, eqDs_nc, eqDs_cn, shal_non, shal_bl, shal_int, shal_str, shal_nil, shal_cons, shal_lst, shal_tup, flat, inL, valD, keyD, big_eq, mk, ow_int, ow_str, ow_bl, ow_non, ow_tup, ow_lst, ow_dct, toD_d, toD_lst, toD_dct, quiet_var, quiet_k, quiet_g, quiet_nil, quiet_mv, quiet_fv, quiet_call, quiet_mut, quiet_op, quiet_mop, quiet_slc, quiet_ch, quiet_and, quiet_or, quiet_not, quiet_ite, quiet_lst, quiet_tup, quiet_dic, quiet_lc, quiet_cons, lentE, tyD, mutRule, itD, seqD, at0, at1, at2, at3, at4, at5, at6, at7, atm1, ix0, ix1, ix2, ix3, ix4, arOk, arIx_nil, arIx_sl, arIx_tm, arOs_nil, arOs_sl, arOs_tm, back_nil, back_sl, back_tm, isD, outs_nil, outs_cons, forget_nil, forget_cons, tgSet_n, tgSet_cons, tgSets_nil, tgSets_cons, tgSlots_n, tgSlots_nil, tgSlots_cons, List.set_cons_zero, List.set_cons_succ, List.getElem?_cons_zero, List.getElem?_cons_succ, List.length_cons, List.length_nil, List.length_map, List.map_cons, List.map_nil, List.cons_append, List.nil_append, List.append_nil, List.replicate_succ, List.replicate_zero, List.getLast?_cons_cons, List.getLast?_singleton, List.nodup_cons, List.nodup_nil, List.mem_cons, List.not_mem_nil, List.contains_cons, List.contains_nil, List.all_cons, List.all_nil, decide_true, decide_false, Bool.true_or, Bool.or_true, Bool.false_or, Bool.or_false, Bool.and_true, Bool.true_and, Bool.false_and, Bool.and_false, Bool.not_true, Bool.not_false, Bool.false_bne, Bool.xor_false, Bool.false_xor, Bool.true_xor, Bool.xor_true, beq_iff_eq, bne_iff_ne, decide_eq_true_eq, decide_not, Bool.not_eq_true', Bool.false_eq_true, Bool.true_eq_false, Bool.not_eq_true, decide_eq_false_iff_not, beq_self_eq_true, beq_eq_false_iff_ne, bne_self_eq_false, Bool.and_eq_true, Bool.or_eq_true, true_and, and_true, false_and, and_false, or_false, false_or, or_true, true_or, not_true_eq_false, not_false_eq_true, ne_eq, reduceCtorEq, implies_true, forall_const, Option.some.injEq, exists_eq_left', exists_eq_left, eq_self, if_true, if_false, ↓reduceIte, Nat.reduceAdd, Nat.reduceSub, Nat.reduceMul, Nat.reduceLT, Nat.reduceLeDiff, Nat.reduceEqDiff, Nat.reduceBEq, Nat.zero_add, Nat.succ_eq_add_one, Nat.lt_add_left_iff_pos, Nat.add_lt_add_iff_right, Nat.not_lt_zero, Nat.lt_irrefl, Nat.zero_lt_succ, Nat.one_ne_zero, Nat.add_one_ne_zero, Nat.succ_ne_zero, Nat.reduceSucc, Int.reducePow, Int.reduceMul, Int.reduceAdd, Int.reduceSub, Int.reduceNeg, Int.reduceLT, Int.reduceLE, Int.reduceToNat, Int.reduceNegSucc, Int.reduceEq, Int.reduceNe, Int.cast_ofNat_Int, Int.natCast_zero, Int.natCast_one, Int.reduceBEq, Int.reduceMod, Int.reduceDiv, nat10, cl_one, Option.getD_none, Option.getD_some, $as,*])
variable {glob : String → Option D} {pg : Nat → Option Df}
theorem cut_tail {α : Type} (x : α) (xs : List α) (n : Nat) (h : n = xs.length) : cut (x :: xs) (loN (n + 1) (some 1)) (hiN (n + 1) none) = xs := by
  subst h
  unfold cut loN hiN
  dsimp only
  rw [cl_one, List.drop_succ_cons, List.drop_zero, List.take_of_length_le (by omega)]
theorem last_row (l1 : List Act) : (rowD [] :: (along [] l1).map rowD).getLast? = some (rowD (heldH l1)) := by
  have : ∀ (as : List Act) (h : Hd), ((h :: along h as).map rowD).getLast? = some (rowD (as.foldl nextH h)) := by
    intro as
    induction as with
    | nil => intro h; rfl
    | cons a as ih =>
      intro h
      rw [along, List.map_cons, List.map_cons, List.getLast?_cons_cons, ← List.map_cons, ih, List.foldl_cons]
  exact this l1 []
theorem l_along_ok (hp : Has pg [29, 30, 31, 32, 33]) (k : Nat) (as : List Act) (hl : as.length ≤ 400) (o1 : O) (ho : o1.toD = actsD as) :
    @WC (run glob pg (k + 3) 33 [o1]) ⟨fun o ts => o = .lst ((along [] as).map rowD) ∧ ts = [.d (actsD as)]⟩ ⟨fun _ _ => False⟩ := by
  refine run_ok (hp.at 33 df33 rfl rfl) rfl rfl ?_
  simp_arith [b33, b33_1, b33_2, ho, actsD]
  refine for_inv (fun rest e => ∃ l1 l2, as = l1 ++ l2 ∧ rest = l2.map Act.d ∧ e = [some (.d (.lst (as.map Act.d))), some (.lst ((([] : Hd) :: along [] l1).map rowD)), none]) ?_ ?_ ⟨[], as, rfl, rfl, rfl⟩
  · rintro d rest e ⟨l1, l2, hll, hr, rfl⟩
    match l2, hr with
    | a :: l2, hr =>
      cases hr
      have hll1 : l1.length < as.length := by rw [hll, List.length_append, List.length_cons]; omega
      have hln : (heldH l1).length ≤ 1000 := by
        have := held_len l1 []
        unfold heldH
        simp only [List.length_nil] at *
        omega
      have hlr := last_row l1
      have hh : nextH (heldH l1) a = heldH (l1 ++ [a]) := by unfold heldH; rw [List.foldl_append]; rfl
      simp_arith [b33_2b_1, hlr]
      refine WC_of (next_held_ok (hp.sub rfl) k (heldH l1) hln (.d (rowD (heldH l1))) rfl a) ?_
      rintro o ts ⟨rfl, rfl⟩
      simp_arith [along_len]
      exact ⟨by omega, l1 ++ [a], l2, by rw [hll, List.append_assoc]; rfl, rfl, by rw [along_app, List.map_append]; rfl⟩
  · rintro e ⟨l1, l2, hll, hr, rfl⟩
    cases l2 with
    | cons x l2 => cases hr
    | nil =>
      rw [List.append_nil] at hll
      subst hll
      simp_arith [b33_3]
      exact ⟨by rw [cut_tail _ _ _ (by rw [List.length_map])], rfl⟩
theorem minL_some : ∀ {xs : List Int}, xs ≠ [] → ∃ m, minL xs = some m
  | [], h => absurd rfl h
  | [x], _ => ⟨x, rfl⟩
  | x :: y :: r, _ => by
    obtain ⟨m, hm⟩ := minL_some (xs := y :: r) (by simp)
    have e : minL (x :: y :: r) = (minL (y :: r)).map (fun m => if m < x then m else x) := by
      rw [minL]
      intro h; cases h
    rw [hm] at e
    exact ⟨_, e⟩
theorem intsOf_map : ∀ xs : List Int, intsOf (xs.map .int) = some xs
  | [] => rfl
  | x :: xs => by rw [List.map_cons, intsOf, intsOf_map xs]; rfl
/-- a stretch of a row -/
def stretch (xs : List Int) (f l : Nat) : List Int := (xs.drop f).take (l + 1 - f)
theorem cut_stretch (xs : List Int) (f l : Nat) (hf : f ≤ l) (hl : l < xs.length) : cut (xs.map D.int) (loN xs.length (some (f : Int))) (hiN xs.length (some ((l : Int) + 1))) = (stretch xs f l).map .int := by
  have e1 : loN xs.length (some (f : Int)) = f := by
    show cl xs.length f = f
    unfold cl
    rw [if_neg (by omega)]; omega
  have e2 : hiN xs.length (some ((l : Int) + 1)) = l + 1 := by
    show cl xs.length ((l : Int) + 1) = l + 1
    unfold cl
    rw [if_neg (by omega)]; omega
  rw [e1, e2]
  unfold cut stretch
  rw [List.map_take, List.map_drop]
theorem stretch_ne {xs : List Int} {f l : Nat} (hf : f ≤ l) (hl : l < xs.length) : stretch xs f l ≠ [] := by
  intro h
  have := congrArg List.length h
  unfold stretch at this
  rw [List.length_take, List.length_drop, List.length_nil] at this
  omega
theorem heldAlong_len (as : List Act) (v : String) : (heldAlong as v).length = as.length := by unfold heldAlong; rw [List.length_map, along_len]
theorem ebb_ok (hp : Has pg [1, 2, 3, 10, 11, 18, 19, 20, 21, 22, 23, 24, 53, 54, 60]) (hg : Gl2 glob) (k : Nat) {ps gs fs : List String} {s : Int} (H : HouseOk ps gs fs s) (as : List Act) (hs : Sound ps gs fs [] as) (hl : as.length ≤ 60) (v : String) (f l : Nat) (hf : f ≤ l) (hla : l < as.length) (m : Int) (hm : minL (stretch (heldAlong as v) f l) = some m) (o1 : O) (ho : o1.toD = actsD as) :
    @WC (run glob pg (k + 6) 60 [o1, .d (.str v), .d (.int f), .d (.int l)]) ⟨fun o ts => o = .d (.int m) ∧ ts = [.d (actsD as), .d (.str v), .d (.int f), .d (.int l)]⟩ ⟨fun _ _ => False⟩ := by
  refine run_ok (hp.at 60 df60 rfl rfl) rfl rfl ?_
  simp_arith [b60, b60_1]
  refine WC_of (look_ok (hp.sub rfl) hg k H as hs hl o1 ho) ?_
  rintro o ts ⟨rfl, rfl⟩
  simp_arith [b60_2]
  refine WC_of (held_along_ok (hp.sub rfl) (k + 1) as (by omega) v _ rfl) ?_
  rintro o ts ⟨rfl, rfl⟩
  have hc := cut_stretch (heldAlong as v) f l hf (by rw [heldAlong_len]; exact hla)
  simp_arith [hc, intsOf_map, hm]
theorem row_lc {G : Gs} {e : Env} (rows : List Hd) (v : String) (he : e.length = 12) (h4 : e[4]? = some (some (.lst (rows.map rowD)))) (h6 : e[6]? = some (some (.d (.str v)))) (hr : rows.length ≤ 400) : ∀ (n f : Nat), f + n ≤ rows.length →
    qLp (lcQ G (.mop .get2 (.op .idx (.cons (.var 4) (.cons (.var 11) .nil))) (.cons (.var 6) (.cons (.k (.int 0)) .nil))) (.n 11) .nil e) (rangeD (f : Int) n) = some (((rows.drop f).take n).map fun h => .int (getH h v)) := by
  intro n
  induction n with
  | zero => intro f _; rfl
  | succ n ih =>
    intro f hf
    have hlt : f < rows.length := by omega
    have hone : lcQ G (.mop .get2 (.op .idx (.cons (.var 4) (.cons (.var 11) .nil))) (.cons (.var 6) (.cons (.k (.int 0)) .nil))) (.n 11) .nil e (.int f) = some (some (.int (getH rows[f] v))) := by
      refine WO_eq ?_
      match e, he with
      | [e0, e1, e2, e3, e4, e5, e6, e7, e8, e9, e10, e11], _ =>
      simp only [List.getElem?_cons_succ, List.getElem?_cons_zero, Option.some.injEq] at h4 h6
      subst h4 h6
      have hat : at? (rows.map rowD) (f : Int) = some (rowD rows[f]) := by rw [atN (by omega), List.getElem?_map, List.getElem?_eq_getElem hlt]; rfl
      simp_arith [WO_lcQ, hat, rowD, get_enc]
    have hn := ih (f + 1) (by omega)
    rw [Int.natCast_add] at hn
    unfold rangeD qLp
    rw [hone]
    dsimp only
    have hc : ((f : Int) + 1) = (f : Int) + ((1 : Nat) : Int) := rfl
    rw [hc, hn, List.drop_eq_getElem_cons hlt, List.take_succ_cons, List.map_cons]
theorem cln_acts (as : List Act) (h : as.length ≤ 400) : cln 2 (actsD as) = true := by
  have : ∀ as : List Act, clns 1 (as.map Act.d) = true := by
    intro as
    induction as with
    | nil => rfl
    | cons a as ih =>
      rw [List.map_cons, clns, ih]
      cases a <;> rfl
  unfold actsD
  simp only [cln, this, List.length_map, Bool.and_true, decide_eq_true_eq]
  omega
theorem law_k08_ok (hp : Has pg [1, 2, 3, 4, 5, 6, 10, 11, 12, 18, 19, 20, 21, 22, 23, 24, 26, 27, 28, 29, 30, 31, 32, 33, 34, 35, 36, 37, 38, 53, 54, 60, 100]) (hg : Gl2 glob) (ns : List Int) (hn : ns.length ≤ 63) :
    @WC (run glob pg 20 100 [.d (.scr ns)]) ⟨fun o ts => o = .d (.bl true)⟩ ⟨fun _ _ => False⟩ := by
  refine run_ok (hp.at 100 df100 rfl rfl) rfl rfl ?_
  simp_arith [b100, b100_1]
  refine WC_of (box_ok (hp.sub rfl) 18 ns hn) ?_
  rintro o ts ⟨x, hx, rfl, rfl⟩
  simp_arith [b100_2]
  refine WC_of (house_ok (hp.sub rfl) 16 x hx) ?_
  rintro o ts ⟨x, ps, gs, fs, s, hx, h1, h2, h3, h4, h5, h6, h7, h8, h9, h10, rfl, rfl⟩
  simp_arith []
  refine ws_cut (fun e => ∃ (x : Bx) (fs : List String), x.Ok ∧ HouseOk ps gs fs s ∧ e = [some (.d (.scr ns)), some x.o, some (.d (houseD ps gs fs s)), none, none, none, none, none, none, none, none, none]) ?_ ?_
  · simp_arith [b100_3, b100_3t_1]
    refine WC_of (take_ok (hp.sub rfl) 18 x hx 3 (by decide) (by decide)) ?_
    rintro o ts ⟨x, r, hx, r0, r1, rfl, rfl⟩
    simp_arith []
    split
    · have e1 : cut (ps.map D.str) (loN ps.length none) (hiN ps.length (some 6)) = (ps.take 6).map D.str := by
        show ((ps.map D.str).drop 0).take (cl ps.length 6 - 0) = _
        have e2 : cl ps.length 6 = min 6 ps.length := by unfold cl; rw [if_neg (by decide)]; rfl
        rw [e2, List.drop_zero, Nat.sub_zero, List.map_take]
        by_cases c : 6 ≤ ps.length
        · rw [Nat.min_eq_left c]
        · rw [Nat.min_eq_right (by omega), List.take_of_length_le (by rw [List.length_map]; omega), List.take_of_length_le (by rw [List.length_map]; omega)]
      rw [e1]
      exact ⟨x, ps.take 6, hx, ⟨h1, h2, ⟨h1.nd.sublist (List.take_sublist 6 ps), fun y hy => h1.nm y (List.mem_of_mem_take hy)⟩, h4, h5, h6, by rw [List.length_take]; omega, by rw [List.length_take]; omega, h9, h10⟩, rfl⟩
    · exact ⟨x, fs, hx, ⟨h1, h2, h3, h4, h5, h6, h7, h8, h9, h10⟩, rfl⟩
  · rintro e ⟨x, fs, hx, H, rfl⟩
    simp_arith [b100_4]
    refine WC_of (take_ok (hp.sub rfl) 18 x hx 2 (by decide) (by decide)) ?_
    rintro o ts ⟨x, r, hx, r0, r1, rfl, rfl⟩
    have hat : ∃ m : Int, 0 < m ∧ m ≤ 40 ∧ at? [D.int 9, .int 40] r = some (.int m) := by
      obtain rfl | rfl : r = 0 ∨ r = 1 := by omega
      · exact ⟨9, by decide, by decide, at0⟩
      · exact ⟨40, by decide, by decide, at1⟩
    obtain ⟨m, m0, m1, hat⟩ := hat
    simp_arith [hat]
    refine WC_of (take_ok (hp.sub rfl) 18 x hx m m0 (by omega)) ?_
    rintro o ts ⟨x, n, hx, n0, n1, rfl, rfl⟩
    obtain ⟨n, rfl⟩ := Int.eq_ofNat_of_zero_le n0
    simp_arith []
    refine WC_of (acts_ok (hp.sub rfl) 14 x hx H (1 + n) (by omega)) ?_
    rintro o ts ⟨x, as, hx, hal, hs, rfl, rfl⟩
    simp_arith [b100_5]
    refine WC_of (l_along_ok (hp.sub rfl) 16 as (by omega) _ rfl) ?_
    rintro o ts ⟨rfl, rfl⟩
    have e0 : as.map Act.d ++ [] = as.map Act.d := List.append_nil _
    have hsq : seqD (.lst (ps.map D.str ++ gs.map D.str ++ [.str "nobodys"])) = some ((ps ++ gs ++ ["nobodys"]).map D.str) := by
      rw [List.map_append, List.map_append]; rfl
    simp_arith [b100_6, b100_7, actsD, houseD, hsq]
    refine ⟨by omega, by rw [List.length_append, List.length_map, List.length_map]; omega, for_inv (fun rest e => ∃ (x : Bx) (vs : List String) (oh : O), x.Ok ∧ rest = vs.map .str ∧ oh.toD = actsD as ∧ e = [some (.d (.scr ns)), some x.o, some (.d (houseD ps gs fs s)), some (.d (actsD as)), some (.lst ((along [] as).map rowD)), some oh, none, none, none, none, none, none]) ?_ ?_ ⟨x, ps ++ gs ++ ["nobodys"], .lst (as.map Act.d), hx, by rw [List.map_append, List.map_append]; rfl, rfl, rfl⟩⟩
    · rintro d rest e ⟨x, vs, oh, hx, hr, hoh, rfl⟩
      match vs, hr with
      | v :: vs, hr =>
        cases hr
        simp_arith [b100_7b_1]
        refine for_inv (fun rest e => ∃ (x : Bx) (oh u7 u8 u9 u10 : _), x.Ok ∧ O.toD oh = actsD as ∧ e = [some (.d (.scr ns)), some x.o, some (.d (houseD ps gs fs s)), some (.d (actsD as)), some (.lst ((along [] as).map rowD)), some oh, some (.d (.str v)), u7, u8, u9, u10, none]) ?_ ?_ ⟨x, oh, none, none, none, none, hx, hoh, rfl⟩
        · rintro d rest e ⟨x, oh, u7, u8, u9, u10, hx, hoh, rfl⟩
          simp_arith [b100_7b_1b_1, actsD]
          refine WC_of (take_ok (hp.sub rfl) 18 x hx _ (by omega) (by omega)) ?_
          rintro o ts ⟨x, f, hx, f0, f1, rfl, rfl⟩
          obtain ⟨f, rfl⟩ := Int.eq_ofNat_of_zero_le f0
          simp_arith [b100_7b_1b_2]
          refine WC_of (take_ok (hp.sub rfl) 18 x hx _ (by omega) (by omega)) ?_
          rintro o ts ⟨x, g, hx, g0, g1, rfl, rfl⟩
          obtain ⟨g, rfl⟩ := Int.eq_ofNat_of_zero_le g0
          have hfl : f + g < as.length := by omega
          obtain ⟨m, hm⟩ := minL_some (stretch_ne (xs := heldAlong as v) (f := f) (l := f + g) (by omega) (by rw [heldAlong_len]; exact hfl))
          have hst : (((along [] as).drop f).take (g + 1)).map (fun h => D.int (getH h v)) = (stretch (heldAlong as v) f (f + g)).map .int := by
            unfold stretch heldAlong
            rw [show f + g + 1 - f = g + 1 by omega, List.map_take, List.map_drop, List.map_take, List.map_drop, List.map_map]; rfl
          have hrl : ∀ (G : Gs) (e : Env), e.length = 12 → e[4]? = some (some (.lst ((along [] as).map rowD))) → e[6]? = some (some (.d (.str v))) →
              qLp (lcQ G (.mop .get2 (.op .idx (.cons (.var 4) (.cons (.var 11) .nil))) (.cons (.var 6) (.cons (.k (.int 0)) .nil))) (.n 11) .nil e) (rangeD (f : Int) (g + 1)) = some ((stretch (heldAlong as v) f (f + g)).map .int) := by
            intro G e he h4 h6
            rw [row_lc (along [] as) v he h4 h6 (by rw [along_len]; omega) (g + 1) f (by rw [along_len]; omega), hst]
          have hnat : ((f : Int) + (g : Int) + 1 - (f : Int)).toNat = g + 1 := by omega
          simp_arith [b100_7b_1b_3, hnat, hrl, range_len, intsOf_map, hm, b100_7b_1b_4]
          refine ⟨by omega, by omega, ?_⟩
          refine WC_of (ebb_ok (hp.sub rfl) hg 13 H as hs (by omega) v f (f + g) (by omega) hfl m hm oh hoh) ?_
          rintro o ts ⟨rfl, rfl⟩
          simp_arith []
          refine WC_of (same_sc (hp.sub rfl) (.int m) rfl 18 _ _ rfl rfl) ?_
          rintro o ts ⟨rfl, t1, t2, rfl, _⟩
          simp_arith []
          exact ⟨x, .d (actsD as), _, _, _, _, hx, rfl, rfl⟩
        · rintro e ⟨x, oh, u7, u8, u9, u10, hx, hoh, rfl⟩
          simp_arith []
          exact ⟨x, vs, oh, hx, rfl, hoh, rfl⟩
    · rintro e ⟨x, vs, oh, hx, hr, hoh, rfl⟩
      have s1 : shal 60 (actsD as) = true := shal_cln 2 _ (cln_acts as (by omega)) 60 (by decide)
      have s2 : eqD (actsD as) (actsD as) = true := eqD_cln 2 _ (cln_acts as (by omega))
      simp_arith [b100_8, hoh, s1, s2]
end Wx

set_option Elab.async false
set_option linter.all false
set_option maxRecDepth 100000
set_option maxHeartbeats 4000000
namespace Wx
open Vm
local macro_rules | `(tactic| simp_arith [$as,*]) => `(tactic| simp only [e_var, e_mv, e_fv, e_k, e_g, e_opw, e_mop, e_mopv, dfl_k, e_slcV, e_slcE, e_ch, e_and, e_or, e_not, e_ite, e_lst, e_tup, e_dic0, e_dic, q_dic, pairD_nil, pairD_cons, Wdc_some, Wky_int, Wky_str, WS_dput, e_lcw, e_callw, e_mut, m_app, m_ext, m_clr, Wli_some, evAnd_1, evAnd_2, evOr_1, evOr_2, evI_nil, evI_1, evL_nil, evL_var, evL_o, evV_nil, evV_cons, evA_nil, evA_var, evA_o, evTs_nil, evTs_1, Wi_int, q_var, slc_f, slc_t, q_k, q_g, q_op, q_mop, q_slc, q_ch, q_and, q_or, q_not, q_ite, q_lst, q_tup, q_lc, qs_nil, qs_cons, qcs_nil, qcs_cons, qI_nil, qI_cons, qTs_nil, qTs_cons, qAnd_1, qAnd_2, qOr_1, qOr_2, WbD_bl, Wch_bl, WiD_int, WS_seq, WS_ex, WS_setn, WS_sett, WS_par, WS_aug, Wint_some, WS_sput, WS_saug, WDint_int, WS_iff, WS_for, WS_whl, WS_ret, WS_retN, WS_bad, WS_brk, WS_cnt, WS_pass, W_evT, WS_forget, WO_some, WO_none, Wsl_some, Wb_bl, WO_if, WO_map, WO_bindo, W_slot, W_okr, if_F, F_if, if_and2, if_or2, opD, oAdd, oSub, oMul, oFdv, oMod, oPow, oNeg, oCmp, oEq, oIsN, oIn, inD, oLen, oAll, oAny, oSum, oMn1, oMx1, oMn2, oMx2, oLst, oTup, oDct, oInt, oIdx, oSl, oRev, oJoin, oGet1, oGet2, oIsi, oTab, oLrg, oStr, oInT, oSplit, tabOf, lkT, ofK, oUpper, oLower, oIsup, oIslo, String.reduceEq, Option.isSome_some, List.nodup_cons, isScr, isiB, bls, intsOf, strsOf, eqD_ii, eqD_ss, eqD_bb, eqD_nn, eqD_ni, eqD_ns, eqD_in, eqD_sn, eqD_is, eqD_si, eqD_ll, eqD_tt, eqD_lt, eqD_tl, eqDs_nn, eqDs_cc, eqDs_nc, eqDs_cn, shal_non, shal_bl, shal_int, shal_str, shal_nil, shal_cons, shal_lst, shal_tup, flat, inL, valD, keyD, big_eq, mk, ow_int, ow_str, ow_bl, ow_non, ow_tup, ow_lst, ow_dct, toD_d, toD_lst, toD_dct, quiet_var, quiet_k, quiet_g, quiet_nil, quiet_mv, quiet_fv, quiet_call, quiet_mut, quiet_op, quiet_mop, quiet_slc, quiet_ch, quiet_and, quiet_or, quiet_not, quiet_ite, quiet_lst, quiet_tup, quiet_dic, quiet_lc, quiet_cons, lentE, tyD, mutRule, itD, seqD, at0, at1, at2, at3, at4, at5, at6, at7, atm1, ix0, ix1, ix2, ix3, ix4, arOk, arIx_nil, arIx_sl, arIx_tm, arOs_nil, arOs_sl, arOs_tm, back_nil, back_sl, back_tm, isD, outs_nil, outs_cons, forget_nil, forget_cons, tgSet_n, tgSet_cons, tgSets_nil, tgSets_cons, tgSlots_n, tgSlots_nil, tgSlots_cons, List.set_cons_zero, List.set_cons_succ, List.getElem?_cons_zero, List.getElem?_cons_succ, List.length_cons, List.length_nil, List.length_map, List.map_cons, List.map_nil, List.cons_append, List.nil_append, List.append_nil, List.replicate_succ, List.replicate_zero, List.getLast?_cons_cons, List.getLast?_singleton, List.nodup_cons, List.nodup_nil, List.mem_cons, List.not_mem_nil, List.contains_cons, List.contains_nil, List.all_cons, List.all_nil, decide_true, decide_false, Bool.true_or, Bool.or_true, Bool.false_or, Bool.or_false, Bool.and_true, Bool.true_and, Bool.false_and, Bool.and_false, Bool.not_true, Bool.not_false, Bool.false_bne, Bool.xor_false, Bool.false_xor, Bool.true_xor, Bool.xor_true, beq_iff_eq, bne_iff_ne, decide_eq_true_eq, decide_not, Bool.not_eq_true', Bool.false_eq_true, Bool.true_eq_false, Bool.not_eq_true, decide_eq_false_iff_not, beq_self_eq_true, beq_eq_false_iff_ne, bne_self_eq_false, Bool.and_eq_true, Bool.or_eq_true, true_and, and_true, false_and, and_false, or_false, false_or, or_true, true_or, not_true_eq_false, not_false_eq_true, ne_eq, reduceCtorEq, implies_true, forall_const, Option.some.injEq, exists_eq_left', exists_eq_left, eq_self, if_true, if_false, ↓reduceIte, Nat.reduceAdd, Nat.reduceSub, Nat.reduceMul, Nat.reduceLT, Nat.reduceLeDiff, Nat.reduceEqDiff, Nat.reduceBEq, Nat.zero_add, Nat.succ_eq_add_one, Nat.lt_add_left_iff_pos, Nat.add_lt_add_iff_right, Nat.not_lt_zero, Nat.lt_irrefl, Nat.zero_lt_succ, Nat.one_ne_zero, Nat.add_one_ne_zero, Nat.succ_ne_zero, Nat.reduceSucc, Int.reducePow, Int.reduceMul, Int.reduceAdd, Int.reduceSub, Int.reduceNeg, Int.reduceLT, Int.reduceLE, Int.reduceToNat, Int.reduceNegSucc, Int.reduceEq, Int.reduceNe, Int.cast_ofNat_Int, Int.natCast_zero, Int.natCast_one, Int.reduceBEq, Int.reduceMod, Int.reduceDiv, nat10, cl_one, Option.getD_none, Option.getD_some, $as,*])
variable {glob : String → Option D} {pg : Nat → Option Df}
/-! k06: what vessels hold, along the acts -/
theorem along_ok (hp : Has pg [1, 2, 3, 10, 11, 18, 19, 20, 21, 22, 23, 24, 53, 54, 55]) (hg : Gl2 glob) (k : Nat) {ps gs fs : List String} {s : Int} (H : HouseOk ps gs fs s) (as : List Act) (hs : Sound ps gs fs [] as) (hl : as.length ≤ 60) (v : String) (o1 : O) (ho : o1.toD = actsD as) :
    @WC (run glob pg (k + 6) 55 [o1, .d (.str v)]) ⟨fun o ts => o = .lst ((heldAlong as v).map .int) ∧ ts = [.d (actsD as), .d (.str v)]⟩ ⟨fun _ _ => False⟩ := by
  refine run_ok (hp.at 55 df55 rfl rfl) rfl rfl ?_
  simp_arith [b55, b55_1]
  refine WC_of (look_ok (hp.sub rfl) hg k H as hs hl o1 ho) ?_
  rintro o ts ⟨rfl, rfl⟩
  simp_arith [b55_2]
  refine WC_of (held_along_ok (hp.sub rfl) (k + 1) as (by omega) v _ rfl) ?_
  rintro o ts ⟨rfl, rfl⟩
  simp_arith []
theorem holding_ok (hp : Has pg [1, 2, 3, 10, 11, 18, 19, 20, 21, 22, 23, 24, 53, 54, 56]) (hg : Gl2 glob) (k : Nat) {ps gs fs : List String} {s : Int} (H : HouseOk ps gs fs s) (as : List Act) (hs : Sound ps gs fs [] as) (hl : as.length ≤ 60) (v : String) (m : Int) (hm : (D.int 0 :: (heldAlong as v).map .int).getLast? = some (.int m)) (o1 : O) (ho : o1.toD = actsD as) :
    @WC (run glob pg (k + 6) 56 [o1, .d (.str v)]) ⟨fun o ts => o = .d (.int m) ∧ ts = [.d (actsD as), .d (.str v)]⟩ ⟨fun _ _ => False⟩ := by
  have hln := heldAlong_len as v
  refine run_ok (hp.at 56 df56 rfl rfl) rfl rfl ?_
  simp_arith [b56, b56_1]
  refine WC_of (look_ok (hp.sub rfl) hg k H as hs hl o1 ho) ?_
  rintro o ts ⟨rfl, rfl⟩
  simp_arith [b56_2]
  refine WC_of (held_along_ok (hp.sub rfl) (k + 1) as (by omega) v _ rfl) ?_
  rintro o ts ⟨rfl, rfl⟩
  simp_arith [hm]
  omega
theorem minL_mem : ∀ {xs : List Int} {m : Int}, minL xs = some m → m ∈ xs
  | [], m, h => by cases h
  | [x], m, h => by cases h; exact List.mem_cons_self
  | x :: y :: r, m, h => by
    have e : minL (x :: y :: r) = (minL (y :: r)).map (fun m => if m < x then m else x) := by
      rw [minL]
      intro h; cases h
    rw [e] at h
    obtain ⟨n, hn, rfl⟩ := Option.map_eq_some_iff.mp h
    have := minL_mem hn
    split
    · exact List.mem_cons_of_mem _ this
    · exact List.mem_cons_self
theorem minL_zero {xs : List Int} (h : ∀ y ∈ xs, 0 ≤ y) : minL (0 :: xs) = some 0 := by
  cases xs with
  | nil => rfl
  | cons y r =>
    obtain ⟨n, hn⟩ := minL_some (xs := y :: r) (by simp)
    have e : minL (0 :: y :: r) = (minL (y :: r)).map (fun m => if m < 0 then m else 0) := by
      rw [minL]
      intro h; cases h
    rw [e, hn]
    have := h n (minL_mem hn)
    show some (if n < 0 then n else 0) = _
    rw [if_neg (by omega)]
theorem due_lc {G : Gs} {e : Env} (v : String) (he : e.length = 10) (h6 : e[6]? = some (some (.d (.str v)))) : ∀ (rows : List Hd),
    qLp (lcQ G (.mop .get2 (.var 9) (.cons (.var 6) (.cons (.k (.int 0)) .nil))) (.n 9) .nil e) (rows.map rowD) = some (rows.map fun h => .int (getH h v)) := by
  intro rows
  induction rows with
  | nil => rfl
  | cons h rows ih =>
    have hone : lcQ G (.mop .get2 (.var 9) (.cons (.var 6) (.cons (.k (.int 0)) .nil))) (.n 9) .nil e (rowD h) = some (some (.int (getH h v))) := by
      refine WO_eq ?_
      match e, he with
      | [e0, e1, e2, e3, e4, e5, e6, e7, e8, e9], _ =>
      simp only [List.getElem?_cons_succ, List.getElem?_cons_zero, Option.some.injEq] at h6
      subst h6
      simp_arith [WO_lcQ, rowD, get_enc]
    rw [List.map_cons]
    unfold qLp
    rw [hone, ih]
    rfl
theorem along_nn {ps gs fs : List String} : ∀ {as : List Act} {h : Hd}, (∀ u, 0 ≤ getH h u) → Sound ps gs fs h as → ∀ r ∈ along h as, ∀ u, 0 ≤ getH r u
  | [], _, _, _, r, hr => by cases hr
  | a :: as, h, h0, s, r, hr => by
    rcases List.mem_cons.mp hr with rfl | hr
    · exact next_nn h0 s.1
    · exact along_nn (next_nn h0 s.1) s.2 r hr
theorem heldAlong_nn {ps gs fs : List String} {as : List Act} (s : Sound ps gs fs [] as) (v : String) : ∀ y ∈ heldAlong as v, 0 ≤ y := by
  intro y hy
  unfold heldAlong at hy
  obtain ⟨r, hr, rfl⟩ := List.mem_map.mp hy
  exact along_nn nil_nn s r hr v
theorem last_int : ∀ (xs : List Int) (x : Int), ∃ m, (D.int x :: xs.map .int).getLast? = some (.int m)
  | [], x => ⟨x, rfl⟩
  | y :: ys, x => by
    obtain ⟨m, hm⟩ := last_int ys y
    exact ⟨m, by rw [List.map_cons, List.getLast?_cons_cons, hm]⟩
theorem clns_ints : ∀ (xs : List Int), clns 0 (xs.map .int) = true
  | [] => rfl
  | x :: xs => by rw [List.map_cons, clns, clns_ints xs]; rfl
theorem cln_ints (xs : List Int) (h : xs.length ≤ 400) : cln 1 (.lst (xs.map .int)) = true := by
  simp only [cln, clns_ints, List.length_map, Bool.and_true, decide_eq_true_eq]
  omega
theorem law_k06_ok (hp : Has pg [1, 2, 3, 4, 5, 6, 10, 11, 12, 18, 19, 20, 21, 22, 23, 24, 26, 27, 28, 29, 30, 31, 32, 33, 34, 35, 36, 37, 38, 53, 54, 55, 56, 92]) (hg : Gl2 glob) (ns : List Int) (hn : ns.length ≤ 63) :
    @WC (run glob pg 20 92 [.d (.scr ns)]) ⟨fun o ts => o = .d (.bl true)⟩ ⟨fun _ _ => False⟩ := by
  refine run_ok (hp.at 92 df92 rfl rfl) rfl rfl ?_
  simp_arith [b92, b92_1]
  refine WC_of (box_ok (hp.sub rfl) 18 ns hn) ?_
  rintro o ts ⟨x, hx, rfl, rfl⟩
  simp_arith [b92_2]
  refine WC_of (house_ok (hp.sub rfl) 16 x hx) ?_
  rintro o ts ⟨x, ps, gs, fs, s, hx, h1, h2, h3, h4, h5, h6, h7, h8, h9, h10, rfl, rfl⟩
  simp_arith []
  refine ws_cut (fun e => ∃ (x : Bx) (fs : List String), x.Ok ∧ HouseOk ps gs fs s ∧ e = [some (.d (.scr ns)), some x.o, some (.d (houseD ps gs fs s)), none, none, none, none, none, none, none]) ?_ ?_
  · simp_arith [b92_3, b92_3t_1]
    refine WC_of (take_ok (hp.sub rfl) 18 x hx 3 (by decide) (by decide)) ?_
    rintro o ts ⟨x, r, hx, r0, r1, rfl, rfl⟩
    simp_arith []
    split
    · have e1 : cut (ps.map D.str) (loN ps.length none) (hiN ps.length (some 6)) = (ps.take 6).map D.str := by
        show ((ps.map D.str).drop 0).take (cl ps.length 6 - 0) = _
        have e2 : cl ps.length 6 = min 6 ps.length := by unfold cl; rw [if_neg (by decide)]; rfl
        rw [e2, List.drop_zero, Nat.sub_zero, List.map_take]
        by_cases c : 6 ≤ ps.length
        · rw [Nat.min_eq_left c]
        · rw [Nat.min_eq_right (by omega), List.take_of_length_le (by rw [List.length_map]; omega), List.take_of_length_le (by rw [List.length_map]; omega)]
      rw [e1]
      exact ⟨x, ps.take 6, hx, ⟨h1, h2, ⟨h1.nd.sublist (List.take_sublist 6 ps), fun y hy => h1.nm y (List.mem_of_mem_take hy)⟩, h4, h5, h6, by rw [List.length_take]; omega, by rw [List.length_take]; omega, h9, h10⟩, rfl⟩
    · exact ⟨x, fs, hx, ⟨h1, h2, h3, h4, h5, h6, h7, h8, h9, h10⟩, rfl⟩
  · rintro e ⟨x, fs, hx, H, rfl⟩
    simp_arith [b92_4]
    refine WC_of (take_ok (hp.sub rfl) 18 x hx 2 (by decide) (by decide)) ?_
    rintro o ts ⟨x, r, hx, r0, r1, rfl, rfl⟩
    have hat : ∃ m : Int, 0 < m ∧ m ≤ 61 ∧ at? [D.int 12, .int 61] r = some (.int m) := by
      obtain rfl | rfl : r = 0 ∨ r = 1 := by omega
      · exact ⟨12, by decide, by decide, at0⟩
      · exact ⟨61, by decide, by decide, at1⟩
    obtain ⟨m, m0, m1, hat⟩ := hat
    simp_arith [hat]
    refine WC_of (take_ok (hp.sub rfl) 18 x hx m m0 (by omega)) ?_
    rintro o ts ⟨x, n, hx, n0, n1, rfl, rfl⟩
    obtain ⟨n, rfl⟩ := Int.eq_ofNat_of_zero_le n0
    simp_arith []
    refine WC_of (acts_ok (hp.sub rfl) 14 x hx H n (by omega)) ?_
    rintro o ts ⟨x, as, hx, hal, hs, rfl, rfl⟩
    simp_arith [b92_5]
    refine WC_of (l_along_ok (hp.sub rfl) 16 as (by omega) _ rfl) ?_
    rintro o ts ⟨rfl, rfl⟩
    have e0 : as.map Act.d ++ [] = as.map Act.d := List.append_nil _
    have hsq : seqD (.lst (ps.map D.str ++ gs.map D.str ++ [.str "nobodys", .str "NOTHING"])) = some ((ps ++ gs ++ ["nobodys", "NOTHING"]).map D.str) := by
      rw [List.map_append, List.map_append]; rfl
    have hal60 : as.length ≤ 60 := by omega
    simp_arith [b92_6, b92_7, actsD, houseD, hsq]
    refine ⟨by omega, by rw [List.length_append, List.length_map, List.length_map]; omega, for_inv (fun rest e => ∃ (vs : List String) (o4 oh : O) (u6 u7 u8 : _), rest = vs.map .str ∧ o4.toD = .lst ((along [] as).map rowD) ∧ oh.toD = actsD as ∧ e = [some (.d (.scr ns)), some x.o, some (.d (houseD ps gs fs s)), some (.d (actsD as)), some o4, some oh, u6, u7, u8, none]) ?_ ?_ ⟨ps ++ gs ++ ["nobodys", "NOTHING"], .lst ((along [] as).map rowD), .lst (as.map Act.d), none, none, none, by rw [List.map_append, List.map_append]; rfl, rfl, rfl, rfl⟩⟩
    · rintro d rest e ⟨vs, o4, oh, u6, u7, u8, hr, h4, hoh, rfl⟩
      match vs, hr with
      | v :: vs, hr =>
        cases hr
        have hln := heldAlong_len as v
        have hmn : minL (0 :: heldAlong as v) = some 0 := minL_zero (heldAlong_nn hs v)
        obtain ⟨m, hm⟩ := last_int (heldAlong as v) 0
        have hcl := cln_ints (heldAlong as v) (by omega)
        simp_arith [b92_7b_1, h4, along_len]
        refine ⟨by omega, lc_inv (fun rest ys e => ∃ l1 l2, along [] as = l1 ++ l2 ∧ rest = l2.map rowD ∧ ys = l1.map (fun h => .int (getH h v)) ∧ e = [some (.d (.scr ns)), some x.o, some (.d (houseD ps gs fs s)), some (.d (actsD as)), some (.d (.lst ((along [] as).map rowD))), some oh, some (.d (.str v)), u7, u8, none]) ?_ ?_ ⟨[], _, rfl, rfl, rfl, rfl⟩⟩
        · rintro d rest ys e ⟨l1, l2, hll, hr, rfl, rfl⟩
          match l2, hr with
          | h :: l2, hr =>
            cases hr
            simp_arith [rowD, get_enc]
            exact ⟨l1 ++ [h], l2, by rw [hll, List.append_assoc]; rfl, rfl, by rw [List.map_append]; rfl⟩
        · rintro ys e ⟨l1, l2, hll, hr, rfl, rfl⟩
          cases l2 with
          | cons x l2 => cases hr
          | nil =>
            rw [List.append_nil] at hll
            have hys : l1.map (fun h => D.int (getH h v)) = (heldAlong as v).map .int := by
              unfold heldAlong
              rw [hll, List.map_map]; rfl
            rw [hys]
            simp_arith [b92_7b_2]
            refine WC_of (along_ok (hp.sub rfl) hg 13 H as hs hal60 v oh hoh) ?_
            rintro o ts ⟨rfl, rfl⟩
            simp_arith [b92_7b_3]
            refine lend_ok ?_
            refine WC_of (same_ok (hp.sub rfl) 1 _ hcl 17 _ _ rfl rfl) ?_
            rintro o ts ⟨rfl, -⟩
            refine ⟨_, rfl, rfl, ?_⟩
            simp_arith [intsOf_map, hmn, b92_7b_4, b92_7b_5]
            refine ⟨by omega, by omega, ?_⟩
            refine WC_of (along_ok (hp.sub rfl) hg 13 H as hs hal60 v _ rfl) ?_
            rintro o ts ⟨rfl, rfl⟩
            simp_arith []
            refine lend_ok ?_
            refine WC_of (same_ok (hp.sub rfl) 1 _ hcl 17 _ _ rfl rfl) ?_
            rintro o ts ⟨rfl, -⟩
            refine ⟨_, rfl, rfl, ?_⟩
            simp_arith []
            refine WC_of (holding_ok (hp.sub rfl) hg 13 H as hs hal60 v m hm _ rfl) ?_
            rintro o ts ⟨rfl, rfl⟩
            simp_arith [hm]
            refine ⟨by omega, ?_⟩
            refine lend_ok ?_
            refine WC_of (same_sc (hp.sub rfl) (.int m) rfl 18 _ _ rfl rfl) ?_
            rintro o ts ⟨rfl, -⟩
            refine ⟨_, rfl, rfl, ?_⟩
            simp_arith []
            exact ⟨vs, _, _, _, _, _, rfl, rfl, rfl, rfl⟩
    · rintro e ⟨vs, o4, oh, u6, u7, u8, hr, h4, hoh, rfl⟩
      have s1 : shal 60 (actsD as) = true := shal_cln 2 _ (cln_acts as (by omega)) 60 (by decide)
      have s2 : eqD (actsD as) (actsD as) = true := eqD_cln 2 _ (cln_acts as (by omega))
      simp_arith [b92_8, hoh, s1, s2]
end Wx

set_option Elab.async false
set_option linter.all false
set_option maxRecDepth 100000
set_option maxHeartbeats 8000000
namespace Lw
open PySem PySem.Spec PyProof.Rows L2 Vm Wx
theorem tab_none {n s : String} {ks : List String} (h : lkT (tabOf n) s = none) (e : (tabOf n).map (·.1) = ks) : s ∉ ks := by
  subst e
  generalize tabOf n = l at h
  induction l with
  | nil => simp
  | cons p r ih =>
    unfold lkT at h
    split at h
    · cases h
    · rename_i hp
      simp only [List.map_cons, List.mem_cons, not_or]
      exact ⟨fun z => hp z.symm, ih h⟩
def top (i : Nat) : Stmt := PySem.Challenge.pw_ebbmark_k06_holding_along.main.body.getD i (.Pass ⟨0, 0, 0, 0⟩)
def p1 : Pd := ⟨1, "is_of", top 9, [Str.ofString "text", Str.ofString "letters", Str.ofString "sign"], [Str.ofString "text", Str.ofString "letters"], df1⟩
def p2 : Pd := ⟨2, "is_small", top 10, [Str.ofString "text"], [Str.ofString "text"], df2⟩
def p3 : Pd := ⟨3, "is_great", top 11, [Str.ofString "text"], [Str.ofString "text"], df3⟩
def p10 : Pd := ⟨10, "good_thing", top 17, [Str.ofString "kind", Str.ofString "thing"], [Str.ofString "kind", Str.ofString "thing"], df10⟩
def p11 : Pd := ⟨11, "good_act", top 18, [Str.ofString "act", Str.ofString "kind", Str.ofString "thing", Str.ofString "FORMS"], [Str.ofString "act"], df11⟩
def p18 : Pd := ⟨18, "source", top 19, [Str.ofString "act"], [Str.ofString "act"], df18⟩
def p19 : Pd := ⟨19, "goal", top 20, [Str.ofString "act"], [Str.ofString "act"], df19⟩
def p20 : Pd := ⟨20, "named", top 21, [Str.ofString "acts", Str.ofString "wanted", Str.ofString "found", Str.ofString "act", Str.ofString "kind", Str.ofString "thing", Str.ofString "FORMS"], [Str.ofString "acts", Str.ofString "wanted"], df20⟩
def p21 : Pd := ⟨21, "taken_by", top 22, [Str.ofString "held", Str.ofString "act"], [Str.ofString "held", Str.ofString "act"], df21⟩
def p22 : Pd := ⟨22, "can_be", top 23, [Str.ofString "held", Str.ofString "act"], [Str.ofString "held", Str.ofString "act"], df22⟩
def p23 : Pd := ⟨23, "behind_act", top 24, [Str.ofString "held", Str.ofString "act", Str.ofString "found", Str.ofString "here", Str.ofString "there"], [Str.ofString "held", Str.ofString "act"], df23⟩
def p53 : Pd := ⟨53, "states", top 25, [Str.ofString "acts", Str.ofString "found", Str.ofString "held", Str.ofString "act"], [Str.ofString "acts"], df53⟩
def p24 : Pd := ⟨24, "look", top 26, [Str.ofString "acts", Str.ofString "at", Str.ofString "act", Str.ofString "kind", Str.ofString "held", Str.ofString "MOST"], [Str.ofString "acts"], df24⟩
def p54 : Pd := ⟨54, "held_along", top 28, [Str.ofString "acts", Str.ofString "vessel", Str.ofString "held"], [Str.ofString "acts", Str.ofString "vessel"], df54⟩
def p55 : Pd := ⟨55, "along", top 29, [Str.ofString "acts", Str.ofString "vessel"], [Str.ofString "acts", Str.ofString "vessel"], df55⟩
def p56 : Pd := ⟨56, "holding", top 30, [Str.ofString "acts", Str.ofString "vessel"], [Str.ofString "acts", Str.ofString "vessel"], df56⟩
def p4 : Pd := ⟨4, "_law_box", top 32, [Str.ofString "_law_script"], [Str.ofString "_law_script"], df4⟩
def p5 : Pd := ⟨5, "_law_take", top 33, [Str.ofString "_law_box_here", Str.ofString "_law_many", Str.ofString "_law_cell", Str.ofString "_law_got", Str.ofString "_law_one"], [Str.ofString "_law_box_here", Str.ofString "_law_many"], df5⟩
def p6 : Pd := ⟨6, "_law_same", top 34, [Str.ofString "_law_found", Str.ofString "_law_due", Str.ofString "_law_one", Str.ofString "_law_other"], [Str.ofString "_law_found", Str.ofString "_law_due"], df6⟩
def p12 : Pd := ⟨12, "_law_names", top 35, [Str.ofString "_law_box_here", Str.ofString "_law_many", Str.ofString "_law_great", Str.ofString "_law_letters", Str.ofString "_law_size", Str.ofString "_law_place", Str.ofString "_law_first", Str.ofString "_law_k", Str.ofString "_law_alike", Str.ofString "_law_found", Str.ofString "_law_row", Str.ofString "_law_step", Str.ofString "_law_one"], [Str.ofString "_law_box_here", Str.ofString "_law_many", Str.ofString "_law_great"], df12⟩
def p26 : Pd := ⟨26, "_law_any", top 36, [Str.ofString "_law_box_here", Str.ofString "_law_some"], [Str.ofString "_law_box_here", Str.ofString "_law_some"], df26⟩
def p27 : Pd := ⟨27, "_law_amount", top 37, [Str.ofString "_law_box_here", Str.ofString "_law_most"], [Str.ofString "_law_box_here", Str.ofString "_law_most"], df27⟩
def p28 : Pd := ⟨28, "_law_coins", top 38, [Str.ofString "_law_box_here", Str.ofString "_law_scale"], [Str.ofString "_law_box_here", Str.ofString "_law_scale"], df28⟩
def p29 : Pd := ⟨29, "_law_from", top 39, [Str.ofString "_law_act"], [Str.ofString "_law_act"], df29⟩
def p30 : Pd := ⟨30, "_law_into", top 40, [Str.ofString "_law_act"], [Str.ofString "_law_act"], df30⟩
def p31 : Pd := ⟨31, "_law_gone", top 41, [Str.ofString "_law_held", Str.ofString "_law_act"], [Str.ofString "_law_held", Str.ofString "_law_act"], df31⟩
def p32 : Pd := ⟨32, "_law_next_held", top 42, [Str.ofString "_law_held", Str.ofString "_law_act", Str.ofString "_law_later", Str.ofString "_law_one", Str.ofString "_law_other"], [Str.ofString "_law_held", Str.ofString "_law_act"], df32⟩
def p33 : Pd := ⟨33, "_law_along", top 43, [Str.ofString "_law_acts_here", Str.ofString "_law_rows", Str.ofString "_law_act"], [Str.ofString "_law_acts_here"], df33⟩
def p34 : Pd := ⟨34, "_law_priced", top 44, [Str.ofString "_law_box_here", Str.ofString "_law_held", Str.ofString "_law_way", Str.ofString "_law_more"], [Str.ofString "_law_box_here", Str.ofString "_law_held"], df34⟩
def p35 : Pd := ⟨35, "_law_house", top 45, [Str.ofString "_law_box_here", Str.ofString "_law_pots", Str.ofString "_law_goods", Str.ofString "_law_folk"], [Str.ofString "_law_box_here"], df35⟩
def p36 : Pd := ⟨36, "_law_purse_act", top 46, [Str.ofString "_law_box_here", Str.ofString "_law_house_here", Str.ofString "_law_held", Str.ofString "_law_pots", Str.ofString "_law_goods", Str.ofString "_law_folk", Str.ofString "_law_scale", Str.ofString "_law_full", Str.ofString "_law_one", Str.ofString "_law_way", Str.ofString "_law_here", Str.ofString "_law_coins_here", Str.ofString "_law_others"], [Str.ofString "_law_box_here", Str.ofString "_law_house_here", Str.ofString "_law_held"], df36⟩
def p37 : Pd := ⟨37, "_law_good", top 47, [Str.ofString "_law_box_here", Str.ofString "_law_house_here", Str.ofString "_law_held", Str.ofString "_law_pots", Str.ofString "_law_goods", Str.ofString "_law_folk", Str.ofString "_law_scale", Str.ofString "_law_full", Str.ofString "_law_one", Str.ofString "_law_way", Str.ofString "_law_thing"], [Str.ofString "_law_box_here", Str.ofString "_law_house_here", Str.ofString "_law_held"], df37⟩
def p38 : Pd := ⟨38, "_law_acts", top 48, [Str.ofString "_law_box_here", Str.ofString "_law_house_here", Str.ofString "_law_size", Str.ofString "_law_acts_here", Str.ofString "_law_held", Str.ofString "_law_k"], [Str.ofString "_law_box_here", Str.ofString "_law_house_here", Str.ofString "_law_size"], df38⟩
def p92 : Pd := ⟨92, "law", top 49, [Str.ofString "_law_script", Str.ofString "_law_box_here", Str.ofString "_law_house_here", Str.ofString "_law_acts_here", Str.ofString "_law_rows", Str.ofString "_law_handed", Str.ofString "_law_vessel", Str.ofString "_law_due", Str.ofString "_law_found", Str.ofString "_law_row"], [Str.ofString "_law_script"], df92⟩
def tab : List Pd := [p1, p2, p3, p10, p11, p18, p19, p20, p21, p22, p23, p53, p24, p54, p55, p56, p4, p5, p6, p12, p26, p27, p28, p29, p30, p31, p32, p33, p34, p35, p36, p37, p38, p92]
def glob (x : String) : Option D := if x = "SMALL" then some (.str "abcdefghijklmnopqrstuvwxyz") else if x = "GREAT" then some (.str "ABCDEFGHIJKLMNOPQRSTUVWXYZ") else if x = "LONGEST" then some (.int 8) else if x = "MOST_COINS" then some (.int 1000000000000) else if x = "MOST_ACTS" then some (.int 60) else  none
theorem tab_ok : TabOk tab := ⟨fun p hp => List.all_eq_true.mp (show tab.all (okD (fnOf tab)) = true by decide +kernel) p hp⟩
theorem tab_has : Has (pgOf tab) [1, 2, 3, 4, 5, 6, 10, 11, 12, 18, 19, 20, 21, 22, 23, 24, 26, 27, 28, 29, 30, 31, 32, 33, 34, 35, 36, 37, 38, 53, 54, 55, 56, 92] := by
  intro i hi
  simp only [List.mem_cons, List.not_mem_nil, or_false] at hi
  rcases hi with rfl | rfl | rfl | rfl | rfl | rfl | rfl | rfl | rfl | rfl | rfl | rfl | rfl | rfl | rfl | rfl | rfl | rfl | rfl | rfl | rfl | rfl | rfl | rfl | rfl | rfl | rfl | rfl | rfl | rfl | rfl | rfl | rfl | rfl <;> rfl
theorem law_true : ∀ ns : List Int, ns.length ≤ 63 → ∃ ts', run glob (pgOf tab) 20 92 [.d (.scr ns)] = some (.ret (.d (.bl true)) ts') := fun ns hn => by
  have h := law_k06_ok (glob := glob) (pg := pgOf tab) tab_has ⟨⟨rfl, rfl, rfl, rfl⟩, rfl⟩ ns hn
  cases hr : run glob (pgOf tab) 20 92 [.d (.scr ns)] with
  | none => rw [hr] at h; exact h.elim
  | some x =>
    rw [hr] at h
    cases x with
    | ret o ts => exact ⟨ts, by rw [show o = .d (.bl true) from h]⟩
    | exc x ts => exact h.elim
abbrev EX0 : XR := fun _ _ _ _ _ => False
theorem all_mk {P : Program} {w : World} {K : PySem.W.Frag} {h : Heap} {mg : Str → Option Value} {fa : Addr} (X : K.In h) (G : h.Ns mainGlobals mg) (hfa : mg "law" = some (.ref fa))
    {f1 : Addr} {od1 an1 : Option Addr} {sl1 : Array (Option Value)} {oc1 kV1 dc1 pm1 cd1 ct1 : Value} (a1 : PySem.W.nsIn K mainGlobals "is_of" = some (some (.ref f1))) (l1 : K.lookup f1 = some ⟨oc1, od1, .func (PySem.W.fnOf "is_of" "is_of" (defArgs (top 9)) (defBody (top 9)) (defScope (top 9)) .none kV1 dc1 pm1 an1 cd1 ct1), sl1⟩) (c1 : PySem.W.codeIn K cd1 "is_of" = true) (k1 : PySem.W.keepIn K (.ref f1) = true)
    {f2 : Addr} {od2 an2 : Option Addr} {sl2 : Array (Option Value)} {oc2 kV2 dc2 pm2 cd2 ct2 : Value} (a2 : PySem.W.nsIn K mainGlobals "is_small" = some (some (.ref f2))) (l2 : K.lookup f2 = some ⟨oc2, od2, .func (PySem.W.fnOf "is_small" "is_small" (defArgs (top 10)) (defBody (top 10)) (defScope (top 10)) .none kV2 dc2 pm2 an2 cd2 ct2), sl2⟩) (c2 : PySem.W.codeIn K cd2 "is_small" = true) (k2 : PySem.W.keepIn K (.ref f2) = true)
    {f3 : Addr} {od3 an3 : Option Addr} {sl3 : Array (Option Value)} {oc3 kV3 dc3 pm3 cd3 ct3 : Value} (a3 : PySem.W.nsIn K mainGlobals "is_great" = some (some (.ref f3))) (l3 : K.lookup f3 = some ⟨oc3, od3, .func (PySem.W.fnOf "is_great" "is_great" (defArgs (top 11)) (defBody (top 11)) (defScope (top 11)) .none kV3 dc3 pm3 an3 cd3 ct3), sl3⟩) (c3 : PySem.W.codeIn K cd3 "is_great" = true) (k3 : PySem.W.keepIn K (.ref f3) = true)
    {f10 : Addr} {od10 an10 : Option Addr} {sl10 : Array (Option Value)} {oc10 kV10 dc10 pm10 cd10 ct10 : Value} (a10 : PySem.W.nsIn K mainGlobals "good_thing" = some (some (.ref f10))) (l10 : K.lookup f10 = some ⟨oc10, od10, .func (PySem.W.fnOf "good_thing" "good_thing" (defArgs (top 17)) (defBody (top 17)) (defScope (top 17)) .none kV10 dc10 pm10 an10 cd10 ct10), sl10⟩) (c10 : PySem.W.codeIn K cd10 "good_thing" = true) (k10 : PySem.W.keepIn K (.ref f10) = true)
    {f11 : Addr} {od11 an11 : Option Addr} {sl11 : Array (Option Value)} {oc11 kV11 dc11 pm11 cd11 ct11 : Value} (a11 : PySem.W.nsIn K mainGlobals "good_act" = some (some (.ref f11))) (l11 : K.lookup f11 = some ⟨oc11, od11, .func (PySem.W.fnOf "good_act" "good_act" (defArgs (top 18)) (defBody (top 18)) (defScope (top 18)) .none kV11 dc11 pm11 an11 cd11 ct11), sl11⟩) (c11 : PySem.W.codeIn K cd11 "good_act" = true) (k11 : PySem.W.keepIn K (.ref f11) = true)
    {f18 : Addr} {od18 an18 : Option Addr} {sl18 : Array (Option Value)} {oc18 kV18 dc18 pm18 cd18 ct18 : Value} (a18 : PySem.W.nsIn K mainGlobals "source" = some (some (.ref f18))) (l18 : K.lookup f18 = some ⟨oc18, od18, .func (PySem.W.fnOf "source" "source" (defArgs (top 19)) (defBody (top 19)) (defScope (top 19)) .none kV18 dc18 pm18 an18 cd18 ct18), sl18⟩) (c18 : PySem.W.codeIn K cd18 "source" = true) (k18 : PySem.W.keepIn K (.ref f18) = true)
    {f19 : Addr} {od19 an19 : Option Addr} {sl19 : Array (Option Value)} {oc19 kV19 dc19 pm19 cd19 ct19 : Value} (a19 : PySem.W.nsIn K mainGlobals "goal" = some (some (.ref f19))) (l19 : K.lookup f19 = some ⟨oc19, od19, .func (PySem.W.fnOf "goal" "goal" (defArgs (top 20)) (defBody (top 20)) (defScope (top 20)) .none kV19 dc19 pm19 an19 cd19 ct19), sl19⟩) (c19 : PySem.W.codeIn K cd19 "goal" = true) (k19 : PySem.W.keepIn K (.ref f19) = true)
    {f20 : Addr} {od20 an20 : Option Addr} {sl20 : Array (Option Value)} {oc20 kV20 dc20 pm20 cd20 ct20 : Value} (a20 : PySem.W.nsIn K mainGlobals "named" = some (some (.ref f20))) (l20 : K.lookup f20 = some ⟨oc20, od20, .func (PySem.W.fnOf "named" "named" (defArgs (top 21)) (defBody (top 21)) (defScope (top 21)) .none kV20 dc20 pm20 an20 cd20 ct20), sl20⟩) (c20 : PySem.W.codeIn K cd20 "named" = true) (k20 : PySem.W.keepIn K (.ref f20) = true)
    {f21 : Addr} {od21 an21 : Option Addr} {sl21 : Array (Option Value)} {oc21 kV21 dc21 pm21 cd21 ct21 : Value} (a21 : PySem.W.nsIn K mainGlobals "taken_by" = some (some (.ref f21))) (l21 : K.lookup f21 = some ⟨oc21, od21, .func (PySem.W.fnOf "taken_by" "taken_by" (defArgs (top 22)) (defBody (top 22)) (defScope (top 22)) .none kV21 dc21 pm21 an21 cd21 ct21), sl21⟩) (c21 : PySem.W.codeIn K cd21 "taken_by" = true) (k21 : PySem.W.keepIn K (.ref f21) = true)
    {f22 : Addr} {od22 an22 : Option Addr} {sl22 : Array (Option Value)} {oc22 kV22 dc22 pm22 cd22 ct22 : Value} (a22 : PySem.W.nsIn K mainGlobals "can_be" = some (some (.ref f22))) (l22 : K.lookup f22 = some ⟨oc22, od22, .func (PySem.W.fnOf "can_be" "can_be" (defArgs (top 23)) (defBody (top 23)) (defScope (top 23)) .none kV22 dc22 pm22 an22 cd22 ct22), sl22⟩) (c22 : PySem.W.codeIn K cd22 "can_be" = true) (k22 : PySem.W.keepIn K (.ref f22) = true)
    {f23 : Addr} {od23 an23 : Option Addr} {sl23 : Array (Option Value)} {oc23 kV23 dc23 pm23 cd23 ct23 : Value} (a23 : PySem.W.nsIn K mainGlobals "behind_act" = some (some (.ref f23))) (l23 : K.lookup f23 = some ⟨oc23, od23, .func (PySem.W.fnOf "behind_act" "behind_act" (defArgs (top 24)) (defBody (top 24)) (defScope (top 24)) .none kV23 dc23 pm23 an23 cd23 ct23), sl23⟩) (c23 : PySem.W.codeIn K cd23 "behind_act" = true) (k23 : PySem.W.keepIn K (.ref f23) = true)
    {f53 : Addr} {od53 an53 : Option Addr} {sl53 : Array (Option Value)} {oc53 kV53 dc53 pm53 cd53 ct53 : Value} (a53 : PySem.W.nsIn K mainGlobals "states" = some (some (.ref f53))) (l53 : K.lookup f53 = some ⟨oc53, od53, .func (PySem.W.fnOf "states" "states" (defArgs (top 25)) (defBody (top 25)) (defScope (top 25)) .none kV53 dc53 pm53 an53 cd53 ct53), sl53⟩) (c53 : PySem.W.codeIn K cd53 "states" = true) (k53 : PySem.W.keepIn K (.ref f53) = true)
    {f24 : Addr} {od24 an24 : Option Addr} {sl24 : Array (Option Value)} {oc24 kV24 dc24 pm24 cd24 ct24 : Value} (a24 : PySem.W.nsIn K mainGlobals "look" = some (some (.ref f24))) (l24 : K.lookup f24 = some ⟨oc24, od24, .func (PySem.W.fnOf "look" "look" (defArgs (top 26)) (defBody (top 26)) (defScope (top 26)) .none kV24 dc24 pm24 an24 cd24 ct24), sl24⟩) (c24 : PySem.W.codeIn K cd24 "look" = true) (k24 : PySem.W.keepIn K (.ref f24) = true)
    {f54 : Addr} {od54 an54 : Option Addr} {sl54 : Array (Option Value)} {oc54 kV54 dc54 pm54 cd54 ct54 : Value} (a54 : PySem.W.nsIn K mainGlobals "held_along" = some (some (.ref f54))) (l54 : K.lookup f54 = some ⟨oc54, od54, .func (PySem.W.fnOf "held_along" "held_along" (defArgs (top 28)) (defBody (top 28)) (defScope (top 28)) .none kV54 dc54 pm54 an54 cd54 ct54), sl54⟩) (c54 : PySem.W.codeIn K cd54 "held_along" = true) (k54 : PySem.W.keepIn K (.ref f54) = true)
    {f55 : Addr} {od55 an55 : Option Addr} {sl55 : Array (Option Value)} {oc55 kV55 dc55 pm55 cd55 ct55 : Value} (a55 : PySem.W.nsIn K mainGlobals "along" = some (some (.ref f55))) (l55 : K.lookup f55 = some ⟨oc55, od55, .func (PySem.W.fnOf "along" "along" (defArgs (top 29)) (defBody (top 29)) (defScope (top 29)) .none kV55 dc55 pm55 an55 cd55 ct55), sl55⟩) (c55 : PySem.W.codeIn K cd55 "along" = true) (k55 : PySem.W.keepIn K (.ref f55) = true)
    {f56 : Addr} {od56 an56 : Option Addr} {sl56 : Array (Option Value)} {oc56 kV56 dc56 pm56 cd56 ct56 : Value} (a56 : PySem.W.nsIn K mainGlobals "holding" = some (some (.ref f56))) (l56 : K.lookup f56 = some ⟨oc56, od56, .func (PySem.W.fnOf "holding" "holding" (defArgs (top 30)) (defBody (top 30)) (defScope (top 30)) .none kV56 dc56 pm56 an56 cd56 ct56), sl56⟩) (c56 : PySem.W.codeIn K cd56 "holding" = true) (k56 : PySem.W.keepIn K (.ref f56) = true)
    {f4 : Addr} {od4 an4 : Option Addr} {sl4 : Array (Option Value)} {oc4 kV4 dc4 pm4 cd4 ct4 : Value} (a4 : PySem.W.nsIn K mainGlobals "_law_box" = some (some (.ref f4))) (l4 : K.lookup f4 = some ⟨oc4, od4, .func (PySem.W.fnOf "_law_box" "_law_box" (defArgs (top 32)) (defBody (top 32)) (defScope (top 32)) .none kV4 dc4 pm4 an4 cd4 ct4), sl4⟩) (c4 : PySem.W.codeIn K cd4 "_law_box" = true) (k4 : PySem.W.keepIn K (.ref f4) = true)
    {f5 : Addr} {od5 an5 : Option Addr} {sl5 : Array (Option Value)} {oc5 kV5 dc5 pm5 cd5 ct5 : Value} (a5 : PySem.W.nsIn K mainGlobals "_law_take" = some (some (.ref f5))) (l5 : K.lookup f5 = some ⟨oc5, od5, .func (PySem.W.fnOf "_law_take" "_law_take" (defArgs (top 33)) (defBody (top 33)) (defScope (top 33)) .none kV5 dc5 pm5 an5 cd5 ct5), sl5⟩) (c5 : PySem.W.codeIn K cd5 "_law_take" = true) (k5 : PySem.W.keepIn K (.ref f5) = true)
    {f6 : Addr} {od6 an6 : Option Addr} {sl6 : Array (Option Value)} {oc6 kV6 dc6 pm6 cd6 ct6 : Value} (a6 : PySem.W.nsIn K mainGlobals "_law_same" = some (some (.ref f6))) (l6 : K.lookup f6 = some ⟨oc6, od6, .func (PySem.W.fnOf "_law_same" "_law_same" (defArgs (top 34)) (defBody (top 34)) (defScope (top 34)) .none kV6 dc6 pm6 an6 cd6 ct6), sl6⟩) (c6 : PySem.W.codeIn K cd6 "_law_same" = true) (k6 : PySem.W.keepIn K (.ref f6) = true)
    {f12 : Addr} {od12 an12 : Option Addr} {sl12 : Array (Option Value)} {oc12 kV12 dc12 pm12 cd12 ct12 : Value} (a12 : PySem.W.nsIn K mainGlobals "_law_names" = some (some (.ref f12))) (l12 : K.lookup f12 = some ⟨oc12, od12, .func (PySem.W.fnOf "_law_names" "_law_names" (defArgs (top 35)) (defBody (top 35)) (defScope (top 35)) .none kV12 dc12 pm12 an12 cd12 ct12), sl12⟩) (c12 : PySem.W.codeIn K cd12 "_law_names" = true) (k12 : PySem.W.keepIn K (.ref f12) = true)
    {f26 : Addr} {od26 an26 : Option Addr} {sl26 : Array (Option Value)} {oc26 kV26 dc26 pm26 cd26 ct26 : Value} (a26 : PySem.W.nsIn K mainGlobals "_law_any" = some (some (.ref f26))) (l26 : K.lookup f26 = some ⟨oc26, od26, .func (PySem.W.fnOf "_law_any" "_law_any" (defArgs (top 36)) (defBody (top 36)) (defScope (top 36)) .none kV26 dc26 pm26 an26 cd26 ct26), sl26⟩) (c26 : PySem.W.codeIn K cd26 "_law_any" = true) (k26 : PySem.W.keepIn K (.ref f26) = true)
    {f27 : Addr} {od27 an27 : Option Addr} {sl27 : Array (Option Value)} {oc27 kV27 dc27 pm27 cd27 ct27 : Value} (a27 : PySem.W.nsIn K mainGlobals "_law_amount" = some (some (.ref f27))) (l27 : K.lookup f27 = some ⟨oc27, od27, .func (PySem.W.fnOf "_law_amount" "_law_amount" (defArgs (top 37)) (defBody (top 37)) (defScope (top 37)) .none kV27 dc27 pm27 an27 cd27 ct27), sl27⟩) (c27 : PySem.W.codeIn K cd27 "_law_amount" = true) (k27 : PySem.W.keepIn K (.ref f27) = true)
    {f28 : Addr} {od28 an28 : Option Addr} {sl28 : Array (Option Value)} {oc28 kV28 dc28 pm28 cd28 ct28 : Value} (a28 : PySem.W.nsIn K mainGlobals "_law_coins" = some (some (.ref f28))) (l28 : K.lookup f28 = some ⟨oc28, od28, .func (PySem.W.fnOf "_law_coins" "_law_coins" (defArgs (top 38)) (defBody (top 38)) (defScope (top 38)) .none kV28 dc28 pm28 an28 cd28 ct28), sl28⟩) (c28 : PySem.W.codeIn K cd28 "_law_coins" = true) (k28 : PySem.W.keepIn K (.ref f28) = true)
    {f29 : Addr} {od29 an29 : Option Addr} {sl29 : Array (Option Value)} {oc29 kV29 dc29 pm29 cd29 ct29 : Value} (a29 : PySem.W.nsIn K mainGlobals "_law_from" = some (some (.ref f29))) (l29 : K.lookup f29 = some ⟨oc29, od29, .func (PySem.W.fnOf "_law_from" "_law_from" (defArgs (top 39)) (defBody (top 39)) (defScope (top 39)) .none kV29 dc29 pm29 an29 cd29 ct29), sl29⟩) (c29 : PySem.W.codeIn K cd29 "_law_from" = true) (k29 : PySem.W.keepIn K (.ref f29) = true)
    {f30 : Addr} {od30 an30 : Option Addr} {sl30 : Array (Option Value)} {oc30 kV30 dc30 pm30 cd30 ct30 : Value} (a30 : PySem.W.nsIn K mainGlobals "_law_into" = some (some (.ref f30))) (l30 : K.lookup f30 = some ⟨oc30, od30, .func (PySem.W.fnOf "_law_into" "_law_into" (defArgs (top 40)) (defBody (top 40)) (defScope (top 40)) .none kV30 dc30 pm30 an30 cd30 ct30), sl30⟩) (c30 : PySem.W.codeIn K cd30 "_law_into" = true) (k30 : PySem.W.keepIn K (.ref f30) = true)
    {f31 : Addr} {od31 an31 : Option Addr} {sl31 : Array (Option Value)} {oc31 kV31 dc31 pm31 cd31 ct31 : Value} (a31 : PySem.W.nsIn K mainGlobals "_law_gone" = some (some (.ref f31))) (l31 : K.lookup f31 = some ⟨oc31, od31, .func (PySem.W.fnOf "_law_gone" "_law_gone" (defArgs (top 41)) (defBody (top 41)) (defScope (top 41)) .none kV31 dc31 pm31 an31 cd31 ct31), sl31⟩) (c31 : PySem.W.codeIn K cd31 "_law_gone" = true) (k31 : PySem.W.keepIn K (.ref f31) = true)
    {f32 : Addr} {od32 an32 : Option Addr} {sl32 : Array (Option Value)} {oc32 kV32 dc32 pm32 cd32 ct32 : Value} (a32 : PySem.W.nsIn K mainGlobals "_law_next_held" = some (some (.ref f32))) (l32 : K.lookup f32 = some ⟨oc32, od32, .func (PySem.W.fnOf "_law_next_held" "_law_next_held" (defArgs (top 42)) (defBody (top 42)) (defScope (top 42)) .none kV32 dc32 pm32 an32 cd32 ct32), sl32⟩) (c32 : PySem.W.codeIn K cd32 "_law_next_held" = true) (k32 : PySem.W.keepIn K (.ref f32) = true)
    {f33 : Addr} {od33 an33 : Option Addr} {sl33 : Array (Option Value)} {oc33 kV33 dc33 pm33 cd33 ct33 : Value} (a33 : PySem.W.nsIn K mainGlobals "_law_along" = some (some (.ref f33))) (l33 : K.lookup f33 = some ⟨oc33, od33, .func (PySem.W.fnOf "_law_along" "_law_along" (defArgs (top 43)) (defBody (top 43)) (defScope (top 43)) .none kV33 dc33 pm33 an33 cd33 ct33), sl33⟩) (c33 : PySem.W.codeIn K cd33 "_law_along" = true) (k33 : PySem.W.keepIn K (.ref f33) = true)
    {f34 : Addr} {od34 an34 : Option Addr} {sl34 : Array (Option Value)} {oc34 kV34 dc34 pm34 cd34 ct34 : Value} (a34 : PySem.W.nsIn K mainGlobals "_law_priced" = some (some (.ref f34))) (l34 : K.lookup f34 = some ⟨oc34, od34, .func (PySem.W.fnOf "_law_priced" "_law_priced" (defArgs (top 44)) (defBody (top 44)) (defScope (top 44)) .none kV34 dc34 pm34 an34 cd34 ct34), sl34⟩) (c34 : PySem.W.codeIn K cd34 "_law_priced" = true) (k34 : PySem.W.keepIn K (.ref f34) = true)
    {f35 : Addr} {od35 an35 : Option Addr} {sl35 : Array (Option Value)} {oc35 kV35 dc35 pm35 cd35 ct35 : Value} (a35 : PySem.W.nsIn K mainGlobals "_law_house" = some (some (.ref f35))) (l35 : K.lookup f35 = some ⟨oc35, od35, .func (PySem.W.fnOf "_law_house" "_law_house" (defArgs (top 45)) (defBody (top 45)) (defScope (top 45)) .none kV35 dc35 pm35 an35 cd35 ct35), sl35⟩) (c35 : PySem.W.codeIn K cd35 "_law_house" = true) (k35 : PySem.W.keepIn K (.ref f35) = true)
    {f36 : Addr} {od36 an36 : Option Addr} {sl36 : Array (Option Value)} {oc36 kV36 dc36 pm36 cd36 ct36 : Value} (a36 : PySem.W.nsIn K mainGlobals "_law_purse_act" = some (some (.ref f36))) (l36 : K.lookup f36 = some ⟨oc36, od36, .func (PySem.W.fnOf "_law_purse_act" "_law_purse_act" (defArgs (top 46)) (defBody (top 46)) (defScope (top 46)) .none kV36 dc36 pm36 an36 cd36 ct36), sl36⟩) (c36 : PySem.W.codeIn K cd36 "_law_purse_act" = true) (k36 : PySem.W.keepIn K (.ref f36) = true)
    {f37 : Addr} {od37 an37 : Option Addr} {sl37 : Array (Option Value)} {oc37 kV37 dc37 pm37 cd37 ct37 : Value} (a37 : PySem.W.nsIn K mainGlobals "_law_good" = some (some (.ref f37))) (l37 : K.lookup f37 = some ⟨oc37, od37, .func (PySem.W.fnOf "_law_good" "_law_good" (defArgs (top 47)) (defBody (top 47)) (defScope (top 47)) .none kV37 dc37 pm37 an37 cd37 ct37), sl37⟩) (c37 : PySem.W.codeIn K cd37 "_law_good" = true) (k37 : PySem.W.keepIn K (.ref f37) = true)
    {f38 : Addr} {od38 an38 : Option Addr} {sl38 : Array (Option Value)} {oc38 kV38 dc38 pm38 cd38 ct38 : Value} (a38 : PySem.W.nsIn K mainGlobals "_law_acts" = some (some (.ref f38))) (l38 : K.lookup f38 = some ⟨oc38, od38, .func (PySem.W.fnOf "_law_acts" "_law_acts" (defArgs (top 48)) (defBody (top 48)) (defScope (top 48)) .none kV38 dc38 pm38 an38 cd38 ct38), sl38⟩) (c38 : PySem.W.codeIn K cd38 "_law_acts" = true) (k38 : PySem.W.keepIn K (.ref f38) = true)
    {f92 : Addr} {od92 an92 : Option Addr} {sl92 : Array (Option Value)} {oc92 kV92 dc92 pm92 cd92 ct92 : Value} (a92 : PySem.W.nsIn K mainGlobals "law" = some (some (.ref f92))) (l92 : K.lookup f92 = some ⟨oc92, od92, .func (PySem.W.fnOf "law" "law" (defArgs (top 49)) (defBody (top 49)) (defScope (top 49)) .none kV92 dc92 pm92 an92 cd92 ct92), sl92⟩) (c92 : PySem.W.codeIn K cd92 "law" = true) (k92 : PySem.W.keepIn K (.ref f92) = true)
    (z0 : PySem.W.nsIn K mainGlobals "len" = some none)
    (z1 : PySem.W.nsIn K mainGlobals "all" = some none)
    (z2 : PySem.W.nsIn K mainGlobals "any" = some none)
    (z3 : PySem.W.nsIn K mainGlobals "sum" = some none)
    (z4 : PySem.W.nsIn K mainGlobals "min" = some none)
    (z5 : PySem.W.nsIn K mainGlobals "max" = some none)
    (z6 : PySem.W.nsIn K mainGlobals "list" = some none)
    (z7 : PySem.W.nsIn K mainGlobals "tuple" = some none)
    (z8 : PySem.W.nsIn K mainGlobals "dict" = some none)
    (z9 : PySem.W.nsIn K mainGlobals "int" = some none)
    (z10 : PySem.W.nsIn K mainGlobals "str" = some none)
    (z11 : PySem.W.nsIn K mainGlobals "isinstance" = some none)
    (z12 : PySem.W.nsIn K mainGlobals "range" = some none)
    (z13 : PySem.W.nsIn K mainGlobals "enumerate" = some none)
    (z14 : PySem.W.nsIn K mainGlobals "zip" = some none)
    (z15 : PySem.W.nsIn K mainGlobals "sorted" = some none)
    (z16 : PySem.W.nsIn K mainGlobals "set" = some none)
    (z17 : PySem.W.nsIn K mainGlobals "bool" = some none)
    {u0 : Value} (cg0 : PySem.W.nsIn K mainGlobals "SMALL" = some (some u0)) (cr0 : RelV (.str (Str.ofString "abcdefghijklmnopqrstuvwxyz")) u0)
    {u1 : Value} (cg1 : PySem.W.nsIn K mainGlobals "GREAT" = some (some u1)) (cr1 : RelV (.str (Str.ofString "ABCDEFGHIJKLMNOPQRSTUVWXYZ")) u1)
    {u2 : Value} (cg2 : PySem.W.nsIn K mainGlobals "LONGEST" = some (some u2)) (cr2 : RelV (.int 8) u2)
    {u3 : Value} (cg3 : PySem.W.nsIn K mainGlobals "MOST_COINS" = some (some u3)) (cr3 : RelV (.int 1000000000000) u3)
    {u4 : Value} (cg4 : PySem.W.nsIn K mainGlobals "MOST_ACTS" = some (some u4)) (cr4 : RelV (.int 60) u4)
    {q0 : Addr} {es0 : Array DictEntry} {qn0 : Nat} {v0_0 v0_1 v0_2 v0_3 v0_4 v0_5 v0_6 : Value} (tg0 : PySem.W.nsIn K mainGlobals "FORMS" = some (some (.ref q0))) (tl0 : K.lookup q0 = some ⟨.type "dict", none, .dict es0 qn0, #[]⟩) (kl0 : PySem.W.KeysLit w.params es0.toList) (ka0 : KeysAre es0.toList ["in", "own", "pay", "buy", "sell", "spend", "worth"]) (lw0 : (q0 == sysModules) = false) (ck0_0 : PySem.W.nsIn K q0 "in" = some (some v0_0)) (rv0_0 : RelV (.str (Str.ofString "opc")) v0_0) (ck0_1 : PySem.W.nsIn K q0 "own" = some (some v0_1)) (rv0_1 : RelV (.str (Str.ofString "pc")) v0_1) (ck0_2 : PySem.W.nsIn K q0 "pay" = some (some v0_2)) (rv0_2 : RelV (.str (Str.ofString "ppc")) v0_2) (ck0_3 : PySem.W.nsIn K q0 "buy" = some (some v0_3)) (rv0_3 : RelV (.str (Str.ofString "ptc")) v0_3) (ck0_4 : PySem.W.nsIn K q0 "sell" = some (some v0_4)) (rv0_4 : RelV (.str (Str.ofString "tpc")) v0_4) (ck0_5 : PySem.W.nsIn K q0 "spend" = some (some v0_5)) (rv0_5 : RelV (.str (Str.ofString "pc")) v0_5) (ck0_6 : PySem.W.nsIn K q0 "worth" = some (some v0_6)) (rv0_6 : RelV (.str (Str.ofString "tw")) v0_6)
    {q1 : Addr} {es1 : Array DictEntry} {qn1 : Nat} {v1_0 v1_1 v1_2 : Value} (tg1 : PySem.W.nsIn K mainGlobals "MOST" = some (some (.ref q1))) (tl1 : K.lookup q1 = some ⟨.type "dict", none, .dict es1 qn1, #[]⟩) (kl1 : PySem.W.KeysLit w.params es1.toList) (ka1 : KeysAre es1.toList ["p", "t", "o"]) (lw1 : (q1 == sysModules) = false) (ck1_0 : PySem.W.nsIn K q1 "p" = some (some v1_0)) (rv1_0 : RelV (.int 8) v1_0) (ck1_1 : PySem.W.nsIn K q1 "t" = some (some v1_1)) (rv1_1 : RelV (.int 12) v1_1) (ck1_2 : PySem.W.nsIn K q1 "o" = some (some v1_2)) (rv1_2 : RelV (.int 6) v1_2)
    : ∃ fd : FuncData, (∀ (s : Shared) (v : Value), BindsTo s fd ⟨[v], []⟩ [("_law_script", v)]) ∧ ∀ base : Heap, K.In base → base.Ns mainGlobals mg → FnOk P w K mg base CX0 20 fa fd ["_law_script"] (spI K EX0 (run glob (pgOf tab) 20 92)) := by
  have e := hfa.symm.trans (PySem.W.mg_of X G a92)
  cases e
  have F1 := fun_mk (st := top 9) l1 c1 k1
  have B1 := F1.binds (ps := [Str.ofString "text", Str.ofString "letters"]) fun _ _ _ _ _ _ us hl => match us, hl with | [_, _], _ => rfl
  have F2 := fun_mk (st := top 10) l2 c2 k2
  have B2 := F2.binds (ps := [Str.ofString "text"]) fun _ _ _ _ _ _ us hl => match us, hl with | [_], _ => rfl
  have F3 := fun_mk (st := top 11) l3 c3 k3
  have B3 := F3.binds (ps := [Str.ofString "text"]) fun _ _ _ _ _ _ us hl => match us, hl with | [_], _ => rfl
  have F10 := fun_mk (st := top 17) l10 c10 k10
  have B10 := F10.binds (ps := [Str.ofString "kind", Str.ofString "thing"]) fun _ _ _ _ _ _ us hl => match us, hl with | [_, _], _ => rfl
  have F11 := fun_mk (st := top 18) l11 c11 k11
  have B11 := F11.binds (ps := [Str.ofString "act"]) fun _ _ _ _ _ _ us hl => match us, hl with | [_], _ => rfl
  have F18 := fun_mk (st := top 19) l18 c18 k18
  have B18 := F18.binds (ps := [Str.ofString "act"]) fun _ _ _ _ _ _ us hl => match us, hl with | [_], _ => rfl
  have F19 := fun_mk (st := top 20) l19 c19 k19
  have B19 := F19.binds (ps := [Str.ofString "act"]) fun _ _ _ _ _ _ us hl => match us, hl with | [_], _ => rfl
  have F20 := fun_mk (st := top 21) l20 c20 k20
  have B20 := F20.binds (ps := [Str.ofString "acts", Str.ofString "wanted"]) fun _ _ _ _ _ _ us hl => match us, hl with | [_, _], _ => rfl
  have F21 := fun_mk (st := top 22) l21 c21 k21
  have B21 := F21.binds (ps := [Str.ofString "held", Str.ofString "act"]) fun _ _ _ _ _ _ us hl => match us, hl with | [_, _], _ => rfl
  have F22 := fun_mk (st := top 23) l22 c22 k22
  have B22 := F22.binds (ps := [Str.ofString "held", Str.ofString "act"]) fun _ _ _ _ _ _ us hl => match us, hl with | [_, _], _ => rfl
  have F23 := fun_mk (st := top 24) l23 c23 k23
  have B23 := F23.binds (ps := [Str.ofString "held", Str.ofString "act"]) fun _ _ _ _ _ _ us hl => match us, hl with | [_, _], _ => rfl
  have F53 := fun_mk (st := top 25) l53 c53 k53
  have B53 := F53.binds (ps := [Str.ofString "acts"]) fun _ _ _ _ _ _ us hl => match us, hl with | [_], _ => rfl
  have F24 := fun_mk (st := top 26) l24 c24 k24
  have B24 := F24.binds (ps := [Str.ofString "acts"]) fun _ _ _ _ _ _ us hl => match us, hl with | [_], _ => rfl
  have F54 := fun_mk (st := top 28) l54 c54 k54
  have B54 := F54.binds (ps := [Str.ofString "acts", Str.ofString "vessel"]) fun _ _ _ _ _ _ us hl => match us, hl with | [_, _], _ => rfl
  have F55 := fun_mk (st := top 29) l55 c55 k55
  have B55 := F55.binds (ps := [Str.ofString "acts", Str.ofString "vessel"]) fun _ _ _ _ _ _ us hl => match us, hl with | [_, _], _ => rfl
  have F56 := fun_mk (st := top 30) l56 c56 k56
  have B56 := F56.binds (ps := [Str.ofString "acts", Str.ofString "vessel"]) fun _ _ _ _ _ _ us hl => match us, hl with | [_, _], _ => rfl
  have F4 := fun_mk (st := top 32) l4 c4 k4
  have B4 := F4.binds (ps := [Str.ofString "_law_script"]) fun _ _ _ _ _ _ us hl => match us, hl with | [_], _ => rfl
  have F5 := fun_mk (st := top 33) l5 c5 k5
  have B5 := F5.binds (ps := [Str.ofString "_law_box_here", Str.ofString "_law_many"]) fun _ _ _ _ _ _ us hl => match us, hl with | [_, _], _ => rfl
  have F6 := fun_mk (st := top 34) l6 c6 k6
  have B6 := F6.binds (ps := [Str.ofString "_law_found", Str.ofString "_law_due"]) fun _ _ _ _ _ _ us hl => match us, hl with | [_, _], _ => rfl
  have F12 := fun_mk (st := top 35) l12 c12 k12
  have B12 := F12.binds (ps := [Str.ofString "_law_box_here", Str.ofString "_law_many", Str.ofString "_law_great"]) fun _ _ _ _ _ _ us hl => match us, hl with | [_, _, _], _ => rfl
  have F26 := fun_mk (st := top 36) l26 c26 k26
  have B26 := F26.binds (ps := [Str.ofString "_law_box_here", Str.ofString "_law_some"]) fun _ _ _ _ _ _ us hl => match us, hl with | [_, _], _ => rfl
  have F27 := fun_mk (st := top 37) l27 c27 k27
  have B27 := F27.binds (ps := [Str.ofString "_law_box_here", Str.ofString "_law_most"]) fun _ _ _ _ _ _ us hl => match us, hl with | [_, _], _ => rfl
  have F28 := fun_mk (st := top 38) l28 c28 k28
  have B28 := F28.binds (ps := [Str.ofString "_law_box_here", Str.ofString "_law_scale"]) fun _ _ _ _ _ _ us hl => match us, hl with | [_, _], _ => rfl
  have F29 := fun_mk (st := top 39) l29 c29 k29
  have B29 := F29.binds (ps := [Str.ofString "_law_act"]) fun _ _ _ _ _ _ us hl => match us, hl with | [_], _ => rfl
  have F30 := fun_mk (st := top 40) l30 c30 k30
  have B30 := F30.binds (ps := [Str.ofString "_law_act"]) fun _ _ _ _ _ _ us hl => match us, hl with | [_], _ => rfl
  have F31 := fun_mk (st := top 41) l31 c31 k31
  have B31 := F31.binds (ps := [Str.ofString "_law_held", Str.ofString "_law_act"]) fun _ _ _ _ _ _ us hl => match us, hl with | [_, _], _ => rfl
  have F32 := fun_mk (st := top 42) l32 c32 k32
  have B32 := F32.binds (ps := [Str.ofString "_law_held", Str.ofString "_law_act"]) fun _ _ _ _ _ _ us hl => match us, hl with | [_, _], _ => rfl
  have F33 := fun_mk (st := top 43) l33 c33 k33
  have B33 := F33.binds (ps := [Str.ofString "_law_acts_here"]) fun _ _ _ _ _ _ us hl => match us, hl with | [_], _ => rfl
  have F34 := fun_mk (st := top 44) l34 c34 k34
  have B34 := F34.binds (ps := [Str.ofString "_law_box_here", Str.ofString "_law_held"]) fun _ _ _ _ _ _ us hl => match us, hl with | [_, _], _ => rfl
  have F35 := fun_mk (st := top 45) l35 c35 k35
  have B35 := F35.binds (ps := [Str.ofString "_law_box_here"]) fun _ _ _ _ _ _ us hl => match us, hl with | [_], _ => rfl
  have F36 := fun_mk (st := top 46) l36 c36 k36
  have B36 := F36.binds (ps := [Str.ofString "_law_box_here", Str.ofString "_law_house_here", Str.ofString "_law_held"]) fun _ _ _ _ _ _ us hl => match us, hl with | [_, _, _], _ => rfl
  have F37 := fun_mk (st := top 47) l37 c37 k37
  have B37 := F37.binds (ps := [Str.ofString "_law_box_here", Str.ofString "_law_house_here", Str.ofString "_law_held"]) fun _ _ _ _ _ _ us hl => match us, hl with | [_, _, _], _ => rfl
  have F38 := fun_mk (st := top 48) l38 c38 k38
  have B38 := F38.binds (ps := [Str.ofString "_law_box_here", Str.ofString "_law_house_here", Str.ofString "_law_size"]) fun _ _ _ _ _ _ us hl => match us, hl with | [_, _, _], _ => rfl
  have F92 := fun_mk (st := top 49) l92 c92 k92
  have B92 := F92.binds (ps := [Str.ofString "_law_script"]) fun _ _ _ _ _ _ us hl => match us, hl with | [_], _ => rfl
  have T : TopOk tab glob K w mg := by
    refine ⟨fun d p hd => ?_, fun y hy => ?_, fun y d hd => ?_, fun p hp n hn hc => ?_⟩
    · have hm := List.mem_of_find?_eq_some hd
      simp only [tab, List.mem_cons, List.not_mem_nil, or_false] at hm
      rcases hm with rfl | rfl | rfl | rfl | rfl | rfl | rfl | rfl | rfl | rfl | rfl | rfl | rfl | rfl | rfl | rfl | rfl | rfl | rfl | rfl | rfl | rfl | rfl | rfl | rfl | rfl | rfl | rfl | rfl | rfl | rfl | rfl | rfl | rfl
      · exact ⟨f1, _, F1, PySem.W.mg_of X G a1, B1⟩
      · exact ⟨f2, _, F2, PySem.W.mg_of X G a2, B2⟩
      · exact ⟨f3, _, F3, PySem.W.mg_of X G a3, B3⟩
      · exact ⟨f10, _, F10, PySem.W.mg_of X G a10, B10⟩
      · exact ⟨f11, _, F11, PySem.W.mg_of X G a11, B11⟩
      · exact ⟨f18, _, F18, PySem.W.mg_of X G a18, B18⟩
      · exact ⟨f19, _, F19, PySem.W.mg_of X G a19, B19⟩
      · exact ⟨f20, _, F20, PySem.W.mg_of X G a20, B20⟩
      · exact ⟨f21, _, F21, PySem.W.mg_of X G a21, B21⟩
      · exact ⟨f22, _, F22, PySem.W.mg_of X G a22, B22⟩
      · exact ⟨f23, _, F23, PySem.W.mg_of X G a23, B23⟩
      · exact ⟨f53, _, F53, PySem.W.mg_of X G a53, B53⟩
      · exact ⟨f24, _, F24, PySem.W.mg_of X G a24, B24⟩
      · exact ⟨f54, _, F54, PySem.W.mg_of X G a54, B54⟩
      · exact ⟨f55, _, F55, PySem.W.mg_of X G a55, B55⟩
      · exact ⟨f56, _, F56, PySem.W.mg_of X G a56, B56⟩
      · exact ⟨f4, _, F4, PySem.W.mg_of X G a4, B4⟩
      · exact ⟨f5, _, F5, PySem.W.mg_of X G a5, B5⟩
      · exact ⟨f6, _, F6, PySem.W.mg_of X G a6, B6⟩
      · exact ⟨f12, _, F12, PySem.W.mg_of X G a12, B12⟩
      · exact ⟨f26, _, F26, PySem.W.mg_of X G a26, B26⟩
      · exact ⟨f27, _, F27, PySem.W.mg_of X G a27, B27⟩
      · exact ⟨f28, _, F28, PySem.W.mg_of X G a28, B28⟩
      · exact ⟨f29, _, F29, PySem.W.mg_of X G a29, B29⟩
      · exact ⟨f30, _, F30, PySem.W.mg_of X G a30, B30⟩
      · exact ⟨f31, _, F31, PySem.W.mg_of X G a31, B31⟩
      · exact ⟨f32, _, F32, PySem.W.mg_of X G a32, B32⟩
      · exact ⟨f33, _, F33, PySem.W.mg_of X G a33, B33⟩
      · exact ⟨f34, _, F34, PySem.W.mg_of X G a34, B34⟩
      · exact ⟨f35, _, F35, PySem.W.mg_of X G a35, B35⟩
      · exact ⟨f36, _, F36, PySem.W.mg_of X G a36, B36⟩
      · exact ⟨f37, _, F37, PySem.W.mg_of X G a37, B37⟩
      · exact ⟨f38, _, F38, PySem.W.mg_of X G a38, B38⟩
      · exact ⟨fa, _, F92, PySem.W.mg_of X G a92, B92⟩
    · simp only [bnames, List.mem_cons, List.not_mem_nil, or_false] at hy
      rcases hy with rfl | rfl | rfl | rfl | rfl | rfl | rfl | rfl | rfl | rfl | rfl | rfl | rfl | rfl | rfl | rfl | rfl | rfl
      · exact PySem.W.mg_none_of X G z0
      · exact PySem.W.mg_none_of X G z1
      · exact PySem.W.mg_none_of X G z2
      · exact PySem.W.mg_none_of X G z3
      · exact PySem.W.mg_none_of X G z4
      · exact PySem.W.mg_none_of X G z5
      · exact PySem.W.mg_none_of X G z6
      · exact PySem.W.mg_none_of X G z7
      · exact PySem.W.mg_none_of X G z8
      · exact PySem.W.mg_none_of X G z9
      · exact PySem.W.mg_none_of X G z10
      · exact PySem.W.mg_none_of X G z11
      · exact PySem.W.mg_none_of X G z12
      · exact PySem.W.mg_none_of X G z13
      · exact PySem.W.mg_none_of X G z14
      · exact PySem.W.mg_none_of X G z15
      · exact PySem.W.mg_none_of X G z16
      · exact PySem.W.mg_none_of X G z17
    · unfold glob at hd
      split at hd
      · rename_i hq; subst hq; cases hd; exact ⟨_, _, PySem.W.mg_of X G cg0, cr0, fun _ _ => rd_str.mpr rfl⟩
      split at hd
      · rename_i hq; subst hq; cases hd; exact ⟨_, _, PySem.W.mg_of X G cg1, cr1, fun _ _ => rd_str.mpr rfl⟩
      split at hd
      · rename_i hq; subst hq; cases hd; exact ⟨_, _, PySem.W.mg_of X G cg2, cr2, fun _ _ => rd_int.mpr rfl⟩
      split at hd
      · rename_i hq; subst hq; cases hd; exact ⟨_, _, PySem.W.mg_of X G cg3, cr3, fun _ _ => rd_int.mpr rfl⟩
      split at hd
      · rename_i hq; subst hq; cases hd; exact ⟨_, _, PySem.W.mg_of X G cg4, cr4, fun _ _ => rd_int.mpr rfl⟩
      cases hd
    · have hn3 : (n = "FORMS" ∨ n = "MOST") ∨ n = "ASKED" := by simpa [isTab] using hn
      rcases hn3 with (rfl | rfl) | rfl
      · refine ⟨q0, PySem.W.mg_of X G tg0, fun s k h => ?_, fun s h => ⟨_, _, tl0, kl0, lw0, ns_miss tl0 ka0 (tab_none h (by decide))⟩⟩
        simp only [tabOf, if_true, String.reduceEq, if_false, lkT] at h
        split at h
        · rename_i e; subst e; cases h; exact ⟨_, _, _, tl0, kl0, ck0_0, rv0_0⟩
        split at h
        · rename_i e; subst e; cases h; exact ⟨_, _, _, tl0, kl0, ck0_1, rv0_1⟩
        split at h
        · rename_i e; subst e; cases h; exact ⟨_, _, _, tl0, kl0, ck0_2, rv0_2⟩
        split at h
        · rename_i e; subst e; cases h; exact ⟨_, _, _, tl0, kl0, ck0_3, rv0_3⟩
        split at h
        · rename_i e; subst e; cases h; exact ⟨_, _, _, tl0, kl0, ck0_4, rv0_4⟩
        split at h
        · rename_i e; subst e; cases h; exact ⟨_, _, _, tl0, kl0, ck0_5, rv0_5⟩
        split at h
        · rename_i e; subst e; cases h; exact ⟨_, _, _, tl0, kl0, ck0_6, rv0_6⟩
        cases h
      · refine ⟨q1, PySem.W.mg_of X G tg1, fun s k h => ?_, fun s h => ⟨_, _, tl1, kl1, lw1, ns_miss tl1 ka1 (tab_none h (by decide))⟩⟩
        simp only [tabOf, if_true, String.reduceEq, if_false, lkT] at h
        split at h
        · rename_i e; subst e; cases h; exact ⟨_, _, _, tl1, kl1, ck1_0, rv1_0⟩
        split at h
        · rename_i e; subst e; cases h; exact ⟨_, _, _, tl1, kl1, ck1_1, rv1_1⟩
        split at h
        · rename_i e; subst e; cases h; exact ⟨_, _, _, tl1, kl1, ck1_2, rv1_2⟩
        cases h
      · exfalso
        simp only [tab, List.mem_cons, List.not_mem_nil, or_false] at hp
        rcases hp with rfl | rfl | rfl | rfl | rfl | rfl | rfl | rfl | rfl | rfl | rfl | rfl | rfl | rfl | rfl | rfl | rfl | rfl | rfl | rfl | rfl | rfl | rfl | rfl | rfl | rfl | rfl | rfl | rfl | rfl | rfl | rfl | rfl | rfl <;> exact absurd hc (by decide +kernel)
  exact ⟨_, fun s v => .of_eq rfl, fun base _ _ => all_ok (CX := CX0) (EX := EX0) tab_ok T (fun _ _ _ _ _ _ _ _ _ _ => fun _ _ _ _ _ _ _ h => False.elim h) (fun _ => fun _ _ _ _ _ _ _ h => False.elim h) 20 92 p92 fa _ rfl F92⟩
theorem scr_sq {K : PySem.W.Frag} {H : Hp} {a : Addr} {xs : List V} (O : Only H) (h : SqL K H a xs) : SqF K H a xs := by
  rcases h with (h | h) | h
  · rcases O a with q | ⟨o, ys, q⟩
    · rw [q] at h; cases h
    · rw [q] at h; cases h
  · exact .inl h
  · exact .inr h
theorem sp_true {K : PySem.W.Frag} {H : Hp} {a : Addr} {ns : List Int} {cal : List O → Option Out} {ts' : List O} (hl : cal [.d (.scr ns)] = some (.ret (.d (.bl true)) ts')) (O : Only H) (h : SqL K H a (ns.map V.int)) :
    spI K EX0 cal [.ref a] H (fun v _ => v = .bl true) fun _ _ _ => False := by
  refine ⟨fun _ => False, [.d (.scr ns)], fun _ => noA, ⟨rfl, fun i o hi => ?_, fun _ _ _ z => z, fun _ _ _ z _ => False.elim z, fun _ _ z _ => z, fun _ z => False.elim z⟩, ?_⟩
  · match i, hi with
    | 0, hi =>
      cases hi
      exact ⟨_, rfl, rd_scr.mpr ⟨a, rfl, scr_sq O h⟩, fun _ z => z⟩
    | i + 1, hi => simp at hi
  · rw [hl]
    intro v H' Z' A' B _ _ ro _ _
    exact rd_bl.mp ro.1
theorem walk {l : PySem.W.OpenLaw} {q : Program} {loose : List Str} {XP : (Str → Option Value) → Heap → Prop} {YP : World → Heap → Prop} {d : DefRec} {K : Params → PySem.W.Frag} (hn : l.most = some 63) (hdf : d.params.defaults = [])
    (hY : ∀ (w : World) (h : Heap), YP w h → (K w.params).In h)
    (hlaw : ∀ ns : List Int, ns.length ≤ 63 → ∃ ts', run glob (pgOf tab) 20 92 [.d (.scr ns)] = some (.ret (.d (.bl true)) ts'))
    (F : ∀ (w : World) (mg : Str → Option Value) (fa : Addr) (h : Heap), (K w.params).In h → h.Ns mainGlobals mg → mg d.name = some (.ref fa) →
      ∃ fd : FuncData, (∀ (s : Shared) (u : Value), BindsTo s fd ⟨[u], []⟩ [("_law_script", u)]) ∧ ∀ base : Heap, (K w.params).In base → base.Ns mainGlobals mg → FnOk l.prog w (K w.params) mg base CX0 20 fa fd ["_law_script"] (spI (K w.params) EX0 (run glob (pgOf tab) 20 92))) :
    PySem.W.WalkO q loose XP YP l.row.toRowW d [] (fun f vs => PySem.call f vs) :=
  L2.walk_of (n := 63) (k := 20) (x := "_law_script") (CX := fun _ => CX0) (sp := fun w => spI (K w.params) EX0 (run glob (pgOf tab) 20 92)) hn (by decide) hdf ⟨rfl, by decide, by decide⟩ hY F (fun _ _ a ns hl O hS => let ⟨_, e⟩ := hlaw ns hl; sp_true e O hS) fun _ _ _ _ _ z => z
end Lw
open PySem PySem.W PyProof.Rows
set_option maxRecDepth 100000 in
set_option maxHeartbeats 0 in
theorem PySem.Challenge.cw_ebbmark_k06_holding_along_holds : PySem.Challenge.rw_ebbmark_k06_holding_along.Holds := by
  w_on; o_law; k_head; (case hw => w_witness2)
  k_fill
  refine Lw.walk (l := PySem.Challenge.rw_ebbmark_k06_holding_along) rfl rfl (fun w h Y => PySem.W.kIn_of Y) Lw.law_true ?F
  case F =>
    intro w mg fa h KX G hmg
    refine' Lw.all_mk KX G hmg ?a1 ?l1 ?c1 ?k1 ?a2 ?l2 ?c2 ?k2 ?a3 ?l3 ?c3 ?k3 ?a10 ?l10 ?c10 ?k10 ?a11 ?l11 ?c11 ?k11 ?a18 ?l18 ?c18 ?k18 ?a19 ?l19 ?c19 ?k19 ?a20 ?l20 ?c20 ?k20 ?a21 ?l21 ?c21 ?k21 ?a22 ?l22 ?c22 ?k22 ?a23 ?l23 ?c23 ?k23 ?a53 ?l53 ?c53 ?k53 ?a24 ?l24 ?c24 ?k24 ?a54 ?l54 ?c54 ?k54 ?a55 ?l55 ?c55 ?k55 ?a56 ?l56 ?c56 ?k56 ?a4 ?l4 ?c4 ?k4 ?a5 ?l5 ?c5 ?k5 ?a6 ?l6 ?c6 ?k6 ?a12 ?l12 ?c12 ?k12 ?a26 ?l26 ?c26 ?k26 ?a27 ?l27 ?c27 ?k27 ?a28 ?l28 ?c28 ?k28 ?a29 ?l29 ?c29 ?k29 ?a30 ?l30 ?c30 ?k30 ?a31 ?l31 ?c31 ?k31 ?a32 ?l32 ?c32 ?k32 ?a33 ?l33 ?c33 ?k33 ?a34 ?l34 ?c34 ?k34 ?a35 ?l35 ?c35 ?k35 ?a36 ?l36 ?c36 ?k36 ?a37 ?l37 ?c37 ?k37 ?a38 ?l38 ?c38 ?k38 ?a92 ?l92 ?c92 ?k92 ?z0 ?z1 ?z2 ?z3 ?z4 ?z5 ?z6 ?z7 ?z8 ?z9 ?z10 ?z11 ?z12 ?z13 ?z14 ?z15 ?z16 ?z17 ?cg0 ?cr0 ?cg1 ?cr1 ?cg2 ?cr2 ?cg3 ?cr3 ?cg4 ?cr4 ?tg0 ?tl0 ?kl0 ?ka0 ?lw0 ?ck0_0 ?rv0_0 ?ck0_1 ?rv0_1 ?ck0_2 ?rv0_2 ?ck0_3 ?rv0_3 ?ck0_4 ?rv0_4 ?ck0_5 ?rv0_5 ?ck0_6 ?rv0_6 ?tg1 ?tl1 ?kl1 ?ka1 ?lw1 ?ck1_0 ?rv1_0 ?ck1_1 ?rv1_1 ?ck1_2 ?rv1_2
    (case a1 => k_is)
    (case l1 => k_is)
    (case c1 => k_is)
    (case k1 => k_is)
    (case a2 => k_is)
    (case l2 => k_is)
    (case c2 => k_is)
    (case k2 => k_is)
    (case a3 => k_is)
    (case l3 => k_is)
    (case c3 => k_is)
    (case k3 => k_is)
    (case a10 => k_is)
    (case l10 => k_is)
    (case c10 => k_is)
    (case k10 => k_is)
    (case a11 => k_is)
    (case l11 => k_is)
    (case c11 => k_is)
    (case k11 => k_is)
    (case a18 => k_is)
    (case l18 => k_is)
    (case c18 => k_is)
    (case k18 => k_is)
    (case a19 => k_is)
    (case l19 => k_is)
    (case c19 => k_is)
    (case k19 => k_is)
    (case a20 => k_is)
    (case l20 => k_is)
    (case c20 => k_is)
    (case k20 => k_is)
    (case a21 => k_is)
    (case l21 => k_is)
    (case c21 => k_is)
    (case k21 => k_is)
    (case a22 => k_is)
    (case l22 => k_is)
    (case c22 => k_is)
    (case k22 => k_is)
    (case a23 => k_is)
    (case l23 => k_is)
    (case c23 => k_is)
    (case k23 => k_is)
    (case a53 => k_is)
    (case l53 => k_is)
    (case c53 => k_is)
    (case k53 => k_is)
    (case a24 => k_is)
    (case l24 => k_is)
    (case c24 => k_is)
    (case k24 => k_is)
    (case a54 => k_is)
    (case l54 => k_is)
    (case c54 => k_is)
    (case k54 => k_is)
    (case a55 => k_is)
    (case l55 => k_is)
    (case c55 => k_is)
    (case k55 => k_is)
    (case a56 => k_is)
    (case l56 => k_is)
    (case c56 => k_is)
    (case k56 => k_is)
    (case a4 => k_is)
    (case l4 => k_is)
    (case c4 => k_is)
    (case k4 => k_is)
    (case a5 => k_is)
    (case l5 => k_is)
    (case c5 => k_is)
    (case k5 => k_is)
    (case a6 => k_is)
    (case l6 => k_is)
    (case c6 => k_is)
    (case k6 => k_is)
    (case a12 => k_is)
    (case l12 => k_is)
    (case c12 => k_is)
    (case k12 => k_is)
    (case a26 => k_is)
    (case l26 => k_is)
    (case c26 => k_is)
    (case k26 => k_is)
    (case a27 => k_is)
    (case l27 => k_is)
    (case c27 => k_is)
    (case k27 => k_is)
    (case a28 => k_is)
    (case l28 => k_is)
    (case c28 => k_is)
    (case k28 => k_is)
    (case a29 => k_is)
    (case l29 => k_is)
    (case c29 => k_is)
    (case k29 => k_is)
    (case a30 => k_is)
    (case l30 => k_is)
    (case c30 => k_is)
    (case k30 => k_is)
    (case a31 => k_is)
    (case l31 => k_is)
    (case c31 => k_is)
    (case k31 => k_is)
    (case a32 => k_is)
    (case l32 => k_is)
    (case c32 => k_is)
    (case k32 => k_is)
    (case a33 => k_is)
    (case l33 => k_is)
    (case c33 => k_is)
    (case k33 => k_is)
    (case a34 => k_is)
    (case l34 => k_is)
    (case c34 => k_is)
    (case k34 => k_is)
    (case a35 => k_is)
    (case l35 => k_is)
    (case c35 => k_is)
    (case k35 => k_is)
    (case a36 => k_is)
    (case l36 => k_is)
    (case c36 => k_is)
    (case k36 => k_is)
    (case a37 => k_is)
    (case l37 => k_is)
    (case c37 => k_is)
    (case k37 => k_is)
    (case a38 => k_is)
    (case l38 => k_is)
    (case c38 => k_is)
    (case k38 => k_is)
    (case a92 => k_is)
    (case l92 => k_is)
    (case c92 => k_is)
    (case k92 => k_is)
    (case z0 => k_is)
    (case z1 => k_is)
    (case z2 => k_is)
    (case z3 => k_is)
    (case z4 => k_is)
    (case z5 => k_is)
    (case z6 => k_is)
    (case z7 => k_is)
    (case z8 => k_is)
    (case z9 => k_is)
    (case z10 => k_is)
    (case z11 => k_is)
    (case z12 => k_is)
    (case z13 => k_is)
    (case z14 => k_is)
    (case z15 => k_is)
    (case z16 => k_is)
    (case z17 => k_is)
    (case cg0 => k_is)
    (case cr0 => first | exact ⟨_, rfl⟩ | rfl)
    (case cg1 => k_is)
    (case cr1 => first | exact ⟨_, rfl⟩ | rfl)
    (case cg2 => k_is)
    (case cr2 => first | exact ⟨_, rfl⟩ | rfl)
    (case cg3 => k_is)
    (case cr3 => first | exact ⟨_, rfl⟩ | rfl)
    (case cg4 => k_is)
    (case cr4 => first | exact ⟨_, rfl⟩ | rfl)
    (case tg0 => k_is)
    (case tl0 => k_is)
    (case kl0 => exact ⟨⟨_, _, rfl, rfl⟩, ⟨_, _, rfl, rfl⟩, ⟨_, _, rfl, rfl⟩, ⟨_, _, rfl, rfl⟩, ⟨_, _, rfl, rfl⟩, ⟨_, _, rfl, rfl⟩, ⟨_, _, rfl, rfl⟩, True.intro⟩)
    (case ka0 => exact ⟨⟨_, rfl⟩, ⟨_, rfl⟩, ⟨_, rfl⟩, ⟨_, rfl⟩, ⟨_, rfl⟩, ⟨_, rfl⟩, ⟨_, rfl⟩, True.intro⟩)
    (case lw0 => rfl)
    (case ck0_0 => k_is)
    (case rv0_0 => first | exact ⟨_, rfl⟩ | rfl)
    (case ck0_1 => k_is)
    (case rv0_1 => first | exact ⟨_, rfl⟩ | rfl)
    (case ck0_2 => k_is)
    (case rv0_2 => first | exact ⟨_, rfl⟩ | rfl)
    (case ck0_3 => k_is)
    (case rv0_3 => first | exact ⟨_, rfl⟩ | rfl)
    (case ck0_4 => k_is)
    (case rv0_4 => first | exact ⟨_, rfl⟩ | rfl)
    (case ck0_5 => k_is)
    (case rv0_5 => first | exact ⟨_, rfl⟩ | rfl)
    (case ck0_6 => k_is)
    (case rv0_6 => first | exact ⟨_, rfl⟩ | rfl)
    (case tg1 => k_is)
    (case tl1 => k_is)
    (case kl1 => exact ⟨⟨_, _, rfl, rfl⟩, ⟨_, _, rfl, rfl⟩, ⟨_, _, rfl, rfl⟩, True.intro⟩)
    (case ka1 => exact ⟨⟨_, rfl⟩, ⟨_, rfl⟩, ⟨_, rfl⟩, True.intro⟩)
    (case lw1 => rfl)
    (case ck1_0 => k_is)
    (case rv1_0 => first | exact ⟨_, rfl⟩ | rfl)
    (case ck1_1 => k_is)
    (case rv1_1 => first | exact ⟨_, rfl⟩ | rfl)
    (case ck1_2 => k_is)
    (case rv1_2 => first | exact ⟨_, rfl⟩ | rfl)
