import PyProof.Rows.All
import Wide.All
import OpenK.AllK
import Wide.FinOn
import KE.KStateDown
import KE.SortKeyHeap
import KE.KLam
import HandS.ForMost
import HandS.ForExc
import HandS.Defaults
import HandS.IsInst
import HandS.Wide
import HandS.Style
import HandS.SetFor
import HandS.Lambda
import HandS.More
import HandS.HeadHook1
import HandS.HeadHook2
import HandS.HeadHook4
import HandS.Evl
import HandS.HeadWalk
import HandS.Head0
import HandS.Head1
import HandS.Head2
import HandS.HeadEnd
import PySem.Challenge.RW_fewpegs_k01_the_order
import KE.KNestM
import HandS.NestedK
set_option Elab.async false
set_option linter.all false
set_option maxRecDepth 100000
set_option maxHeartbeats 4000000
namespace Fp
open PySem PySem.Spec PyProof.Rows L2 LamX

/-! ### how the heap moves -/
/-- what is data: all but code tables and things known by a fact -/
def dat : HO → Bool
  | .tbl _ => false
  | .ext _ => false
  | _ => true
/-- no data at p -/
def nod (H : Hp) (p : Addr) : Prop := ∀ o, H p = some o → dat o = false
theorem nod.of {H : Hp} {p : Addr} (h : H p = none) : nod H p := fun o e => by rw [h] at e; cases e
theorem nod.ne {H : Hp} {p b : Addr} {o : HO} (n : nod H p) (h : H b = some o) (d : dat o = true := by rfl) : b ≠ p := fun z => by
  subst z
  rw [n o h] at d
  cases d
/-- from H to H': data outside of S stays, no data is forgotten, the tables stay tables -/
structure Mv (T : List (Addr × Str)) (S : Addr → Prop) (H H' : Hp) : Prop where
  kp : ∀ b o, H b = some o → dat o = true → ¬ S b → H' b = some o
  dm : ∀ b, nod H' b → nod H b
  tb : Tabs T H → Tabs T H'
abbrev no : Addr → Prop := fun _ => False
abbrev Ex (T : List (Addr × Str)) (H H' : Hp) : Prop := Mv T no H H'
section
variable {T : List (Addr × Str)} {S S' : Addr → Prop} {H H' H1 H2 : Hp} {p : Addr} {o u : HO}
theorem Mv.refl : Mv T S H H := ⟨fun _ _ h _ _ => h, fun _ h => h, fun h => h⟩
theorem Mv.of (T : List (Addr × Str)) (H : Hp) : Ex T H H := Mv.refl
theorem Mv.trans (a : Mv T S H H1) (b : Mv T S H1 H2) : Mv T S H H2 :=
  ⟨fun c o h d s => b.kp c o (a.kp c o h d s) d s, fun c h => a.dm c (b.dm c h), fun t => b.tb (a.tb t)⟩
theorem Mv.wk (a : Mv T S H H1) (h : ∀ b, S b → S' b) : Mv T S' H H1 := ⟨fun c o e d s => a.kp c o e d fun z => s (h c z), a.dm, a.tb⟩
theorem Mv.mv (a : Mv T no H H1) : Mv T S H H1 := a.wk fun _ z => z.elim
theorem Mv.new (hp : H p = none) : Mv T S H (upd H p o) := by
  have k : ∀ b u, H b = some u → upd H p o b = some u := fun b u e => by rw [upd_ne (ne_of_none e hp)]; exact e
  exact ⟨fun b u e _ _ => k b u e, fun b e w q => e w (k b w q), fun t => t.ext k⟩
/-- a thing of S, or a new one, is changed -/
theorem Mv.set (m : Mv T S H H') (hs : S p ∨ nod H p) (hp : H' p = some u) (du : dat u = true := by rfl) (dn : dat o = true := by rfl) : Mv T S H (upd H' p o) := by
  refine ⟨fun b w e d s => ?_, fun b e => ?_, fun t q hq => ?_⟩
  · have n : b ≠ p := by
      rintro rfl
      rcases hs with z | z
      · exact s z
      · rw [z w e] at d; cases d
    rw [upd_ne n]
    exact m.kp b w e d s
  · by_cases z : b = p
    · subst z
      have q := e o upd_same
      rw [dn] at q
      cases q
    · exact m.dm b fun w q => e w (by rw [upd_ne z]; exact q)
  · obtain ⟨ps, h1, h2, h3⟩ := m.tb t q hq
    have n : ∀ b w, H' b = some w → dat w = false → upd H' p o b = some w := fun b w e d => by
      rw [upd_ne]
      · exact e
      · rintro rfl
        rw [hp] at e
        cases e
        rw [du] at d
        cases d
    exact ⟨ps, n _ _ h1 rfl, h2, fun pos cv e => by
      obtain ⟨c, e1, e2⟩ := h3 pos cv e
      exact ⟨c, e1, n _ _ e2 rfl⟩⟩
theorem Mv.set1 (hp : H p = some u) (du : dat u = true := by rfl) (dn : dat o = true := by rfl) : Mv T (fun b => b = p) H (upd H p o) := Mv.refl.set (.inl rfl) hp du dn
theorem Mv.nod (m : Mv T S H H') (h : H' p = none) : nod H p := m.dm p (.of h)
theorem Mv.rd {a : Addr} (m : Mv T S H H') (h : Rd H a u) (d : dat u = true) (s : ¬ S a) : Rd H' a u := by
  rcases h with h | ⟨w, h⟩
  · exact .inl (m.kp a _ h d s)
  · exact .inr ⟨w, m.kp a _ h rfl s⟩
variable {K : PySem.W.Frag} {a : Addr} {xs : List V}
theorem Mv.lS (m : Mv T S H H') (h : SqL K H a xs) (s : ¬ S a) : SqL K H' a xs := by
  rcases h with h | h
  · exact .inl (m.rd h rfl s)
  · exact .inr h
theorem Mv.tS (m : Mv T S H H') (h : SqT K H a xs) (s : ¬ S a) : SqT K H' a xs := by
  rcases h with h | h
  · exact .inl (m.rd h rfl s)
  · exact .inr h
theorem Mv.l (m : Mv T no H H') (h : SqL K H a xs) : SqL K H' a xs := m.lS h id
theorem Mv.t (m : Mv T no H H') (h : SqT K H a xs) : SqT K H' a xs := m.tS h id
theorem Mv.at (m : Mv T no H H') (h : H a = some o) (d : dat o = true := by rfl) : H' a = some o := m.kp a o h d id
end
theorem sz {n : Nat} (h : n ≤ 100000) : n ≤ sizeLine := Nat.le_trans h (by decide)
theorem szl {n : Nat} (h : n < 100000) : n < sizeLine := Nat.lt_of_lt_of_le h (by decide)

/-! ### kinds of things -/
/-- the kind of a value, by its name; "" where it is not told -/
def kd (H : Hp) : V → String
  | .non => "NoneType"
  | .bl _ => "bool"
  | .int _ => "int"
  | .str _ => "str"
  | .ref a => match H a with
    | some (.lst _) => "list"
    | some (.tup _) => "tuple"
    | some (.dK _) => "dict"
    | some (.frz _ (.lst _)) => "list"
    | _ => ""
  | _ => ""
theorem kd_mono {T : List (Addr × Str)} {S : Addr → Prop} {H H' : Hp} {x : V} (m : Mv T S H H') (s : ∀ a, x = .ref a → ¬ S a) (h : kd H x ≠ "") : kd H' x = kd H x := by
  cases x with
  | ref a =>
    cases e : H a with
    | none => exact absurd (show kd H (.ref a) = "" by simp only [kd, e]) h
    | some o =>
      cases d : dat o with
      | true => simp only [kd, e, m.kp a o e d (s a rfl)]
      | false => cases o <;> first | (cases d; done) | exact absurd (show kd H (.ref a) = "" by simp only [kd, e]) h
  | _ => rfl
theorem kd_ex {T : List (Addr × Str)} {H H' : Hp} {x : V} {k : String} (m : Ex T H H') (h : kd H x = k) (hk : k ≠ "") : kd H' x = k := by
  subst h
  exact kd_mono m (fun _ _ z => z) hk
/-- isinstance of a thing of the kind k, of a built-in class c -/
def isK (k c : String) : Bool := k == c || (k == "bool" && c == "int")
theorem kd_ty {K : PySem.W.Frag} {H : Hp} {x : V} (h : kd H x ≠ "") : TyX K H x (.type (kd H x)) ∧ (kd H x = "NoneType" ∨ kd H x = "bool" ∨ kd H x = "int" ∨ kd H x = "str" ∨ kd H x = "list" ∨ kd H x = "tuple" ∨ kd H x = "dict") := by
  cases x with
  | non => exact ⟨.base .non, by simp [kd]⟩
  | bl b => exact ⟨.base (.bl b), by simp [kd]⟩
  | int i => exact ⟨.base (.int i), by simp [kd]⟩
  | str z => exact ⟨.base (.str z), by simp [kd]⟩
  | ref a =>
    cases e : H a with
    | none => exact absurd (show kd H (.ref a) = "" by simp only [kd, e]) h
    | some o =>
      cases o with
      | lst xs => have q : kd H (.ref a) = "list" := by simp only [kd, e]
                  rw [q]; exact ⟨.base (.lst e), by simp⟩
      | tup xs => have q : kd H (.ref a) = "tuple" := by simp only [kd, e]
                  rw [q]; exact ⟨.base (.tup e), by simp⟩
      | dK xs => have q : kd H (.ref a) = "dict" := by simp only [kd, e]
                 rw [q]; exact ⟨.base (.dK e), by simp⟩
      | frz ob u =>
        cases u with
        | lst xs => have q : kd H (.ref a) = "list" := by simp only [kd, e]
                    rw [q]; exact ⟨.base (.frz e), by simp⟩
        | _ => exact absurd (show kd H (.ref a) = "" by simp only [kd, e]) h
      | _ => exact absurd (show kd H (.ref a) = "" by simp only [kd, e]) h
  | _ => exact absurd rfl h
/-- isinstance(x, c), c one of five built-in classes -/
def rIs : List V → Hp → VK → Prop := fun xs H Q => ∃ (x : V) (c : String), xs = [x, .ty c] ∧ kd H x ≠ "" ∧ (c = "int" ∨ c = "bool" ∨ c = "list" ∨ c = "tuple" ∨ c = "str") ∧ Q (.bl (isK (kd H x) c)) H
theorem call_is {X : Cx} : CallR X (.builtin "isinstance") rIs := by
  intro pins s σ H xs us Q I r h
  obtain ⟨x, c, rfl, hk, hc, q⟩ := h
  obtain ⟨ty, hn⟩ := kd_ty (K := X.K) hk
  refine call_isi pins s σ H [x, .ty c] us Q I r ⟨x, .ty c, _, _, isK (kd H x) c, rfl, ClsV.ty c, ty, kit_ty ?_, q⟩
  rcases hn with e | e | e | e | e | e | e <;> rw [e] <;> rcases hc with z | z | z | z | z <;> subst z <;> decide +kernel

/-! ### what gives what -/
/-- te gives v, from every heap behind H -/
def Ev (T : List (Addr × Str)) (te : TE) (σ : L2.St) (H : Hp) (v : V) : Prop := ∀ H1, Ex T H H1 → ∀ Q : VK, (∀ H2, Ex T H1 H2 → Q v H2) → te σ H1 Q
/-- te gives what R says, of the heap ahead, the value, the heap behind -/
def EvR (T : List (Addr × Str)) (te : TE) (σ : L2.St) (H : Hp) (R : Hp → V → Hp → Prop) : Prop := ∀ H1, Ex T H H1 → ∀ Q : VK, (∀ v H2, Ex T H1 H2 → R H1 v H2 → Q v H2) → te σ H1 Q
def newL (xs : List V) : Hp → V → Hp → Prop := fun H v H' => ∃ p, v = .ref p ∧ nod H p ∧ H' p = some (.lst xs)
def newU (xs : List V) : Hp → V → Hp → Prop := fun H v H' => ∃ p, v = .ref p ∧ nod H p ∧ H' p = some (.tup xs)
abbrev EvL (T : List (Addr × Str)) (te : TE) (σ : L2.St) (H : Hp) (xs : List V) : Prop := EvR T te σ H (newL xs)
abbrev EvU (T : List (Addr × Str)) (te : TE) (σ : L2.St) (H : Hp) (xs : List V) : Prop := EvR T te σ H (newU xs)
def EvT (T : List (Addr × Str)) (tt : TT) (σ : L2.St) (H : Hp) (b : Bool) : Prop := ∀ H1, Ex T H H1 → ∀ Q : Bool → Hp → Prop, (∀ H2, Ex T H1 H2 → Q b H2) → tt σ H1 Q
def EvA (T : List (Addr × Str)) (ta : TA) (σ : L2.St) (H : Hp) (vs : List V) : Prop := ∀ H1, Ex T H H1 → ∀ Q : List V → Hp → Prop, (∀ H2, Ex T H1 H2 → Q vs H2) → ta σ H1 Q
def EvAR (T : List (Addr × Str)) (ta : TA) (σ : L2.St) (H : Hp) (R : Hp → List V → Hp → Prop) : Prop := ∀ H1, Ex T H H1 → ∀ Q : List V → Hp → Prop, (∀ vs H2, Ex T H1 H2 → R H1 vs H2 → Q vs H2) → ta σ H1 Q
def EvO (T : List (Addr × Str)) (to : TO) (σ : L2.St) (H : Hp) (o : Option Int) : Prop := ∀ H1, Ex T H H1 → ∀ Q : Option Int → Hp → Prop, (∀ H2, Ex T H1 H2 → Q o H2) → to σ H1 Q
def RV (T : List (Addr × Str)) (r : R2) (x y : V) (H : Hp) (z : V) : Prop := ∀ H1, Ex T H H1 → ∀ Q : VK, (∀ H2, Ex T H1 H2 → Q z H2) → r x y H1 Q
def RVR (T : List (Addr × Str)) (r : R2) (x y : V) (H : Hp) (R : Hp → V → Hp → Prop) : Prop := ∀ H1, Ex T H H1 → ∀ Q : VK, (∀ v H2, Ex T H1 H2 → R H1 v H2 → Q v H2) → r x y H1 Q
def RC (T : List (Addr × Str)) (r : List V → Hp → VK → Prop) (vs : List V) (H : Hp) (z : V) : Prop := ∀ H1, Ex T H H1 → ∀ Q : VK, (∀ H2, Ex T H1 H2 → Q z H2) → r vs H1 Q
def RCR (T : List (Addr × Str)) (r : List V → Hp → VK → Prop) (vs : List V) (H : Hp) (R : Hp → V → Hp → Prop) : Prop := ∀ H1, Ex T H H1 → ∀ Q : VK, (∀ v H2, Ex T H1 H2 → R H1 v H2 → Q v H2) → r vs H1 Q
def SpV (T : List (Addr × Str)) (sp : Sp) (vs : List V) (H : Hp) (z : V) : Prop := ∀ H1, Ex T H H1 → ∀ Q : VK, (∀ H2, Ex T H1 H2 → Q z H2) → ∀ E : XK, sp vs H1 Q E
def SpR (T : List (Addr × Str)) (sp : Sp) (vs : List V) (H : Hp) (R : Hp → V → Hp → Prop) : Prop := ∀ H1, Ex T H H1 → ∀ Q : VK, (∀ v H2, Ex T H1 H2 → R H1 v H2 → Q v H2) → ∀ E : XK, sp vs H1 Q E

section
variable {T : List (Addr × Str)} {K : PySem.W.Frag} {σ : L2.St} {H H' : Hp} {ta tb te tx : TE} {t u : TT} {x y z v : V} {r : R2} {R R' R1 : Hp → V → Hp → Prop}
theorem Ev.mono (e : Ex T H H') (h : Ev T te σ H v) : Ev T te σ H' v := fun H1 a Q q => h H1 (e.trans a) Q q
theorem EvR.mono (e : Ex T H H') (h : EvR T te σ H R) : EvR T te σ H' R := fun H1 a Q q => h H1 (e.trans a) Q q
theorem EvT.mono {b : Bool} (e : Ex T H H') (h : EvT T t σ H b) : EvT T t σ H' b := fun H1 a Q q => h H1 (e.trans a) Q q
theorem EvA.mono {ta : TA} {vs : List V} (e : Ex T H H') (h : EvA T ta σ H vs) : EvA T ta σ H' vs := fun H1 a Q q => h H1 (e.trans a) Q q
theorem EvR.imp (h : EvR T te σ H R) (i : ∀ H1 v H2, Ex T H H1 → Ex T H1 H2 → R H1 v H2 → R' H1 v H2) : EvR T te σ H R' := fun H1 a Q q => h H1 a Q fun v H2 e r => q v H2 e (i H1 v H2 a e r)
theorem Ev.toR (h : Ev T te σ H v) : EvR T te σ H (fun _ w _ => w = v) := fun H1 a Q q => h H1 a Q fun H2 e => q v H2 e rfl
theorem EvR.toV (h : EvR T te σ H (fun _ w _ => w = v)) : Ev T te σ H v := fun H1 a Q q => h H1 a Q fun w H2 e z => by rw [z]; exact q H2 e
theorem ev_is {w : V} (h : Ev T te σ H v) (e : v = w) : Ev T te σ H w := e ▸ h
theorem et_is {a b : Bool} (h : EvT T t σ H a) (e : a = b) : EvT T t σ H b := e ▸ h
theorem ev_var {i : Nat} (h : σ[i]? = some (some v)) : Ev T (tVar i) σ H v := fun H1 _ _ q => ⟨v, h, q H1 Mv.refl⟩
theorem ev_c : Ev T (tC v) σ H v := fun H1 _ _ q => q H1 Mv.refl
theorem ev_op (ha : Ev T ta σ H x) (hb : Ev T tb σ H y) (hr : RV T r x y H z) : Ev T (tOp r ta tb) σ H z := fun H1 e Q q =>
  ha H1 e _ fun H2 e2 => hb H2 (e.trans e2) _ fun H3 e3 => hr H3 ((e.trans e2).trans e3) Q fun H4 e4 => q H4 ((e2.trans e3).trans e4)
/-- both, one, or none of the two is told by a relation; what is made of them as well -/
theorem er_op (ha : EvR T ta σ H R) (hb : ∀ H1 x H2, Ex T H H1 → Ex T H1 H2 → R H1 x H2 → EvR T tb σ H2 R') (hr : ∀ H1 x H2 y H3, Ex T H H1 → Ex T H1 H2 → R H1 x H2 → Ex T H2 H3 → R' H2 y H3 → RVR T r x y H3 fun _ v H4 => Ex T H3 H4 → R1 H1 v H4) :
    EvR T (tOp r ta tb) σ H R1 := fun H1 e Q q =>
  ha H1 e _ fun x H2 e2 r2 => hb H1 x H2 e e2 r2 H2 Mv.refl _ fun y H3 e3 r3 => hr H1 x H2 y H3 e e2 r2 e3 r3 H3 Mv.refl Q fun w H4 e4 r4 => q w H4 ((e2.trans e3).trans e4) (r4 e4)
theorem ev_opLL {xs ys : List V} (ha : EvL T ta σ H xs) (hb : ∀ H1, Ex T H H1 → EvL T tb σ H1 ys) (hr : ∀ p q H1, H1 p = some (.lst xs) → H1 q = some (.lst ys) → Ex T H H1 → RV T r (.ref p) (.ref q) H1 z) : Ev T (tOp r ta tb) σ H z := fun H1 e Q k =>
  ha H1 e _ fun _ H2 e2 ⟨p, ep, _, hp⟩ => hb H2 (e.trans e2) H2 Mv.refl _ fun _ H3 e3 ⟨q, eq, _, hq⟩ => by
    subst ep eq
    exact hr p q H3 (e3.at hp) hq ((e.trans e2).trans e3) H3 Mv.refl Q fun H4 e4 => k H4 ((e2.trans e3).trans e4)
theorem ev_opVL {ys : List V} (ha : Ev T ta σ H x) (hb : EvL T tb σ H ys) (hr : ∀ q H1, H1 q = some (.lst ys) → Ex T H H1 → RV T r x (.ref q) H1 z) : Ev T (tOp r ta tb) σ H z := fun H1 e Q k =>
  ha H1 e _ fun H2 e2 => hb H2 (e.trans e2) _ fun _ H3 e3 ⟨q, eq, _, hq⟩ => by
    subst eq
    exact hr q H3 hq ((e.trans e2).trans e3) H3 Mv.refl Q fun H4 e4 => k H4 ((e2.trans e3).trans e4)
theorem ev_opVU {ys : List V} (ha : Ev T ta σ H x) (hb : EvU T tb σ H ys) (hr : ∀ q H1, H1 q = some (.tup ys) → Ex T H H1 → RV T r x (.ref q) H1 z) : Ev T (tOp r ta tb) σ H z := fun H1 e Q k =>
  ha H1 e _ fun H2 e2 => hb H2 (e.trans e2) _ fun _ H3 e3 ⟨q, eq, _, hq⟩ => by
    subst eq
    exact hr q H3 hq ((e.trans e2).trans e3) H3 Mv.refl Q fun H4 e4 => k H4 ((e2.trans e3).trans e4)
theorem ev_opLV {xs : List V} (ha : EvL T ta σ H xs) (hb : Ev T tb σ H y) (hr : ∀ q H1, H1 q = some (.lst xs) → Ex T H H1 → RV T r (.ref q) y H1 z) : Ev T (tOp r ta tb) σ H z := fun H1 e Q k =>
  ha H1 e _ fun _ H2 e2 ⟨q, eq, _, hq⟩ => hb H2 (e.trans e2) _ fun H3 e3 => by
    subst eq
    exact hr q H3 (e3.at hq) ((e.trans e2).trans e3) H3 Mv.refl Q fun H4 e4 => k H4 ((e2.trans e3).trans e4)
theorem ev_opUU {xs ys : List V} (ha : EvU T ta σ H xs) (hb : ∀ H1, Ex T H H1 → EvU T tb σ H1 ys) (hr : ∀ p q H1, H1 p = some (.tup xs) → H1 q = some (.tup ys) → Ex T H H1 → RV T r (.ref p) (.ref q) H1 z) : Ev T (tOp r ta tb) σ H z := fun H1 e Q k =>
  ha H1 e _ fun _ H2 e2 ⟨p, ep, _, hp⟩ => hb H2 (e.trans e2) H2 Mv.refl _ fun _ H3 e3 ⟨q, eq, _, hq⟩ => by
    subst ep eq
    exact hr p q H3 (e3.at hp) hq ((e.trans e2).trans e3) H3 Mv.refl Q fun H4 e4 => k H4 ((e2.trans e3).trans e4)
theorem ev_un {f : V → Hp → VK → Prop} (ha : Ev T ta σ H x) (hr : ∀ H1, Ex T H H1 → ∀ Q : VK, (∀ H2, Ex T H1 H2 → Q z H2) → f x H1 Q) : Ev T (tUn f ta) σ H z := fun H1 e Q q =>
  ha H1 e _ fun H2 e2 => hr H2 (e.trans e2) Q fun H3 e3 => q H3 (e2.trans e3)
theorem ev_neg {i : Int} (ha : Ev T ta σ H (.int i)) : Ev T (tUn (rU fun i => .int (-i)) ta) σ H (.int (-i)) := ev_un ha fun H1 _ _ q => ⟨i, rfl, q H1 Mv.refl⟩
theorem ev_rep {k : Int} {xs ys : List V} (ha : EvL T ta σ H xs) (hb : Ev T tb σ H (.int k)) (h1 : 0 ≤ k ∧ k ≤ 1000) (h2 : xs.length ≤ 100) (h3 : (List.replicate k.toNat xs).flatten = ys) : EvL T (tOp rRep ta tb) σ H ys := fun H1 e Q q =>
  ha H1 e _ fun _ H2 e2 ⟨p, ep, np, hp⟩ => hb H2 (e.trans e2) _ fun H3 e3 => by
    subst ep
    have hz : xs.length * k.toNat ≤ 100 * 1000 := Nat.mul_le_mul h2 (by omega)
    have hb := e3.at hp
    refine ⟨p, k, xs, rfl, rfl, hb, by omega, by omega, sz hz, fun q' hq' => ?_⟩
    exact q _ _ ((e2.trans e3).trans (Mv.new hq')) ⟨q', rfl, e2.dm _ (e3.nod hq'), by rw [upd_same, ← h3]⟩
/-! operators on values -/
theorem rv_i0 {g : Int → Int → V} {i j : Int} : RV T (rI0 g) (.int i) (.int j) H (g i j) := fun H1 _ _ q => ⟨i, j, rfl, rfl, q H1 Mv.refl⟩
theorem rv_i {C : Int → Int → Prop} {g : Int → Int → V} {i j : Int} (hc : C i j) : RV T (rI C g) (.int i) (.int j) H (g i j) := fun H1 _ _ q => ⟨i, j, rfl, rfl, hc, q H1 Mv.refl⟩
theorem rv_eq (h : scal x y = true) : RV T rEq x y H (.bl (decide (x = y))) := fun H1 _ _ q => ⟨h, q H1 Mv.refl⟩
theorem rv_ne (h : scal x y = true) : RV T rNe x y H (.bl (!decide (x = y))) := fun H1 _ _ q => ⟨h, q H1 Mv.refl⟩
theorem rv_eqI {i j : Int} : RV T rEq (.int i) (.int j) H (.bl (decide (i = j))) := fun H1 e Q q => rv_eq rfl H1 e Q fun H2 e2 => by
  rw [show decide (V.int i = V.int j) = decide (i = j) by simp]
  exact q H2 e2
theorem rv_neI {i j : Int} : RV T rNe (.int i) (.int j) H (.bl (!decide (i = j))) := fun H1 e Q q => rv_ne rfl H1 e Q fun H2 e2 => by
  rw [show decide (V.int i = V.int j) = decide (i = j) by simp]
  exact q H2 e2
theorem rv_eqB {i j : Bool} : RV T rEq (.bl i) (.bl j) H (.bl (i == j)) := fun H1 e Q q => rv_eq rfl H1 e Q fun H2 e2 => by
  rw [show decide (V.bl i = V.bl j) = (i == j) by cases i <;> cases j <;> rfl]
  exact q H2 e2
theorem rv_neB {i j : Bool} : RV T rNe (.bl i) (.bl j) H (.bl (i != j)) := fun H1 e Q q => rv_ne rfl H1 e Q fun H2 e2 => by
  rw [show (!decide (V.bl i = V.bl j)) = (i != j) by cases i <;> cases j <;> rfl]
  exact q H2 e2
theorem rv_eqS {i j : Str} : RV T rEq (.str i) (.str j) H (.bl (decide (i = j))) := fun H1 e Q q => rv_eq rfl H1 e Q fun H2 e2 => by
  rw [show decide (V.str i = V.str j) = decide (i = j) by simp]
  exact q H2 e2
theorem rv_isN : RV T (fun x y H Q => y = .non ∧ Q (.bl (decide (x = .non))) H) x .non H (.bl (decide (x = .non))) := fun H1 _ _ q => ⟨rfl, q H1 Mv.refl⟩
theorem rv_notN : RV T (fun x y H Q => y = .non ∧ Q (.bl (!decide (x = .non))) H) x .non H (.bl (!decide (x = .non))) := fun H1 _ _ q => ⟨rfl, q H1 Mv.refl⟩
theorem rv_ixL {p : Addr} {xs : List V} {i : Int} (h : SqL K H p xs) (ha : atI xs i = some v) : RV T (rIxL K) (.ref p) (.int i) H v := fun H1 e _ q => ⟨p, xs, i, v, rfl, rfl, e.l h, ha, q H1 Mv.refl⟩
theorem rv_ixT {p : Addr} {xs : List V} {i : Int} (h : SqT K H p xs) (ha : atI xs i = some v) : RV T (rIxT K) (.ref p) (.int i) H v := fun H1 e _ q => ⟨p, xs, i, v, rfl, rfl, e.t h, ha, q H1 Mv.refl⟩
theorem rv_in {neg : Bool} {p : Addr} {xs : List V} (h : SqL K H p xs ∨ SqT K H p xs) (hx : flatV x = true) (ha : xs.all flatV = true) : RV T (rIn K neg) x (.ref p) H (.bl (if neg then !inV x xs else inV x xs)) :=
  fun H1 e _ q => ⟨p, xs, rfl, h.imp e.l e.t, hx, ha, q H1 Mv.refl⟩
theorem inV_int {i : Int} {ns : List Int} : inV (.int i) (ns.map V.int) = decide (i ∈ ns) := by
  unfold inV
  rw [List.any_map, Bool.eq_iff_iff]
  simp [List.any_eq_true, eqV]
theorem flat_ints : ∀ ns : List Int, (ns.map V.int).all flatV = true := fun ns => by simp [List.all_eq_true, flatV]
theorem rv_inI {i : Int} {p : Addr} {ns : List Int} (h : SqL K H p (ns.map V.int)) : RV T (rIn K false) (.int i) (.ref p) H (.bl (decide (i ∈ ns))) := by
  have q := rv_in (T := T) (neg := false) (x := .int i) (.inl h) rfl (flat_ints ns)
  rw [inV_int] at q
  exact q
theorem rv_niI {i : Int} {p : Addr} {ns : List Int} (h : SqL K H p (ns.map V.int)) : RV T (rIn K true) (.int i) (.ref p) H (.bl (!decide (i ∈ ns))) := by
  have q := rv_in (T := T) (neg := true) (x := .int i) (.inl h) rfl (flat_ints ns)
  rw [inV_int] at q
  exact q
theorem rv_isB {a b : Bool} : RV T rIsB (.bl a) (.bl b) H (.bl (decide (a = b))) := fun H1 _ _ q => ⟨a, b, rfl, rfl, q H1 Mv.refl⟩
/-! tests, and, or, not -/
theorem et_test {b : Bool} (h : Ev T te σ H (.bl b)) : EvT T (tTest te) σ H b := fun H1 e _ q => h H1 e _ fun H2 e2 => ⟨b, rfl, q H2 e2⟩
theorem et_B {b : Bool} (h : Ev T te σ H (.bl b)) : EvT T (tB te) σ H b := fun H1 e _ q => h H1 e _ fun H2 e2 => ⟨b, rfl, q H2 e2⟩
theorem et_and {a b : Bool} (h1 : EvT T t σ H a) (h2 : a = true → EvT T u σ H b) : EvT T (tAnd t u) σ H (a && b) := fun H1 e Q q => h1 H1 e _ fun H2 e2 => by
  cases a with
  | true => exact h2 rfl H2 (e.trans e2) Q fun H3 e3 => q H3 (e2.trans e3)
  | false => exact q H2 e2
theorem et_or {a b : Bool} (h1 : EvT T t σ H a) (h2 : a = false → EvT T u σ H b) : EvT T (tOr t u) σ H (a || b) := fun H1 e Q q => h1 H1 e _ fun H2 e2 => by
  cases a with
  | true => exact q H2 e2
  | false => exact h2 rfl H2 (e.trans e2) Q fun H3 e3 => q H3 (e2.trans e3)
theorem et_not {a : Bool} (h1 : EvT T t σ H a) : EvT T (tNot t) σ H (!a) := fun H1 e _ q => h1 H1 e _ fun H2 e2 => q H2 e2
theorem ev_and {a b : Bool} (h1 : Ev T ta σ H (.bl a)) (h2 : a = true → Ev T tb σ H (.bl b)) : Ev T (tAndV ta tb) σ H (.bl (a && b)) := fun H1 e Q q => h1 H1 e _ fun H2 e2 => ⟨a, rfl, by
  cases a with
  | true => exact h2 rfl H2 (e.trans e2) Q fun H3 e3 => q H3 (e2.trans e3)
  | false => exact q H2 e2⟩
theorem ev_or {a b : Bool} (h1 : Ev T ta σ H (.bl a)) (h2 : a = false → Ev T tb σ H (.bl b)) : Ev T (tOrV ta tb) σ H (.bl (a || b)) := fun H1 e Q q => h1 H1 e _ fun H2 e2 => ⟨a, rfl, by
  cases a with
  | true => exact q H2 e2
  | false => exact h2 rfl H2 (e.trans e2) Q fun H3 e3 => q H3 (e2.trans e3)⟩
theorem ev_not {a : Bool} (h1 : Ev T ta σ H (.bl a)) : Ev T (tNotV ta) σ H (.bl (!a)) := fun H1 e _ q => h1 H1 e _ fun H2 e2 => ⟨a, rfl, q H2 e2⟩
/-- a op b op' c, on whole numbers -/
theorem ev_chain {tc : TE} {g g' : Int → Int → Bool} {i j k : Int} (ha : Ev T ta σ H (.int i)) (hb : Ev T tb σ H (.int j)) (hc : g i j = true → Ev T tc σ H (.int k)) :
    Ev T (tChain (rI0 fun i j => .bl (g i j)) (rI0 fun i j => .bl (g' i j)) ta tb tc) σ H (.bl (g i j && g' j k)) := fun H1 e Q q =>
  ha H1 e _ fun H2 e2 => hb H2 (e.trans e2) _ fun H3 e3 => ⟨i, j, rfl, rfl, g i j, rfl, by
    cases h : g i j with
    | true =>
      rw [h] at q
      show tc σ H3 _
      exact hc h H3 ((e.trans e2).trans e3) _ fun H4 e4 => ⟨j, k, rfl, rfl, q H4 ((e2.trans e3).trans e4)⟩
    | false =>
      rw [h] at q
      exact q H3 (e2.trans e3)⟩
theorem ev_if {b : Bool} (h : EvT T t σ H b) (h1 : b = true → Ev T ta σ H v) (h2 : b = false → Ev T tb σ H v) : Ev T (tIf t ta tb) σ H v := fun H1 e Q q => h H1 e _ fun H2 e2 => by
  cases b with
  | true => exact h1 rfl H2 (e.trans e2) Q fun H3 e3 => q H3 (e2.trans e3)
  | false => exact h2 rfl H2 (e.trans e2) Q fun H3 e3 => q H3 (e2.trans e3)
/-! arguments, displays, calls -/
theorem ea_nil : EvA T tNil σ H [] := fun H1 _ _ q => q H1 Mv.refl
theorem ea_cons {tr : TA} {vs : List V} (h : Ev T ta σ H x) (hr : EvA T tr σ H vs) : EvA T (tCons ta tr) σ H (x :: vs) := fun H1 e _ q =>
  h H1 e _ fun H2 e2 => hr H2 (e.trans e2) _ fun H3 e3 => q H3 (e2.trans e3)
theorem EvA.toR {ta : TA} {vs : List V} (h : EvA T ta σ H vs) : EvAR T ta σ H (fun _ w _ => w = vs) := fun H1 a Q q => h H1 a Q fun H2 e => q vs H2 e rfl
theorem ear_nil : EvAR T tNil σ H (fun _ w _ => w = []) := ea_nil.toR
/-- arguments, each told by a relation that later extensions keep -/
theorem ear_cons {tr : TA} {RA RB : Hp → List V → Hp → Prop} (h : EvR T te σ H R) (hr : ∀ H1 x H2, Ex T H H1 → Ex T H1 H2 → R H1 x H2 → EvAR T tr σ H2 RA) (hm : ∀ H1 x H2 xs H3, Ex T H H1 → Ex T H1 H2 → R H1 x H2 → Ex T H2 H3 → RA H2 xs H3 → RB H1 (x :: xs) H3) : EvAR T (tCons te tr) σ H RB := fun H1 e Q q =>
  h H1 e _ fun x H2 e2 r2 => hr H1 x H2 e e2 r2 H2 Mv.refl _ fun xs H3 e3 r3 => q _ H3 (e2.trans e3) (hm H1 x H2 xs H3 e e2 r2 e3 r3)
theorem eu_tup {ta : TA} {vs : List V} (h : EvA T ta σ H vs) (hl : vs.length ≤ 100000) : EvU T (tTup ta) σ H vs := fun H1 e _ q =>
  h H1 e _ fun H2 e2 => ⟨sz hl, fun p hp => q _ _ (e2.trans (Mv.new hp)) ⟨p, rfl, e2.nod hp, upd_same⟩⟩
theorem el_lst {ta : TA} {vs : List V} (h : EvA T ta σ H vs) (hl : vs.length ≤ 100000) : EvL T (tLst ta) σ H vs := fun H1 e _ q =>
  h H1 e _ fun H2 e2 => ⟨sz hl, fun p hp => q _ _ (e2.trans (Mv.new hp)) ⟨p, rfl, e2.nod hp, upd_same⟩⟩
theorem er_tup {ta : TA} {RA : Hp → List V → Hp → Prop} (h : EvAR T ta σ H RA) (hl : ∀ H1 vs H2, Ex T H H1 → Ex T H1 H2 → RA H1 vs H2 → vs.length ≤ 100000 ∧ ∀ p, H2 p = none → R H1 (.ref p) (upd H2 p (.tup vs))) : EvR T (tTup ta) σ H R := fun H1 e _ q =>
  h H1 e _ fun vs H2 e2 r2 => ⟨sz (hl H1 vs H2 e e2 r2).1, fun p hp => q _ _ (e2.trans (Mv.new hp)) ((hl H1 vs H2 e e2 r2).2 p hp)⟩
theorem er_lst {ta : TA} {RA : Hp → List V → Hp → Prop} (h : EvAR T ta σ H RA) (hl : ∀ H1 vs H2, Ex T H H1 → Ex T H1 H2 → RA H1 vs H2 → vs.length ≤ 100000 ∧ ∀ p, H2 p = none → R H1 (.ref p) (upd H2 p (.lst vs))) : EvR T (tLst ta) σ H R := fun H1 e _ q =>
  h H1 e _ fun vs H2 e2 r2 => ⟨sz (hl H1 vs H2 e e2 r2).1, fun p hp => q _ _ (e2.trans (Mv.new hp)) ((hl H1 vs H2 e e2 r2).2 p hp)⟩
theorem ev_cb {rc : List V → Hp → VK → Prop} {ta : TA} {vs : List V} (h : EvA T ta σ H vs) (hr : RC T rc vs H z) : Ev T (tCB rc ta) σ H z := fun H1 e Q q =>
  h H1 e _ fun H2 e2 => hr H2 (e.trans e2) Q fun H3 e3 => q H3 (e2.trans e3)
theorem er_cb {rc : List V → Hp → VK → Prop} {ta : TA} {RA : Hp → List V → Hp → Prop} (h : EvAR T ta σ H RA) (hr : ∀ H1 vs H2, Ex T H H1 → Ex T H1 H2 → RA H1 vs H2 → RCR T rc vs H2 fun _ v H3 => Ex T H2 H3 → R H1 v H3) : EvR T (tCB rc ta) σ H R := fun H1 e Q q =>
  h H1 e _ fun vs H2 e2 r2 => hr H1 vs H2 e e2 r2 H2 Mv.refl Q fun v H3 e3 r3 => q v H3 (e2.trans e3) (r3 e3)
theorem ev_call {sp : Sp} {dvs vs ws : List V} {E : XK} {ta : TA} (h : EvA T ta σ H vs) (hw : vs ++ dvs = ws) (hs : SpV T sp ws H z) : Ev T (tCall sp dvs E ta) σ H z := fun H1 e Q q =>
  h H1 e _ fun H2 e2 => by
    rw [hw]
    exact hs H2 (e.trans e2) Q (fun H3 e3 => q H3 (e2.trans e3)) E
theorem er_call {sp : Sp} {dvs vs ws : List V} {E : XK} {ta : TA} (h : EvA T ta σ H vs) (hw : vs ++ dvs = ws) (hs : SpR T sp ws H R) (hm : ∀ H1 H2 v H3, Ex T H H1 → Ex T H1 H2 → Ex T H2 H3 → R H2 v H3 → R H1 v H3) : EvR T (tCall sp dvs E ta) σ H R := fun H1 e Q q =>
  h H1 e _ fun H2 e2 => by
    rw [hw]
    exact hs H2 (e.trans e2) Q (fun v H3 e3 r => q v H3 (e2.trans e3) (hm H1 H2 v H3 e e2 e3 r)) E
theorem newL_back {xs : List V} : ∀ H1 H2 v H3, Ex T H H1 → Ex T H1 H2 → Ex T H2 H3 → newL xs H2 v H3 → newL xs H1 v H3 := fun _ _ _ _ _ e _ ⟨p, h1, h2, h3⟩ => ⟨p, h1, e.dm p h2, h3⟩
theorem newU_back {xs : List V} : ∀ H1 H2 v H3, Ex T H H1 → Ex T H1 H2 → Ex T H2 H3 → newU xs H2 v H3 → newU xs H1 v H3 := fun _ _ _ _ _ e _ ⟨p, h1, h2, h3⟩ => ⟨p, h1, e.dm p h2, h3⟩
/-- a call whose arguments are told by a relation -/
theorem er_callR {sp : Sp} {E : XK} {ta : TA} {RA : Hp → List V → Hp → Prop} (h : EvAR T ta σ H RA) (hs : ∀ H1 vs H2, Ex T H H1 → Ex T H1 H2 → RA H1 vs H2 → SpR T sp vs H2 fun _ v H3 => Ex T H2 H3 → R H1 v H3) : EvR T (tCall sp [] E ta) σ H R := fun H1 e Q q =>
  h H1 e _ fun vs H2 e2 r2 => by
    rw [List.append_nil]
    exact hs H1 vs H2 e e2 r2 H2 Mv.refl Q (fun v H3 e3 r3 => q v H3 (e2.trans e3) (r3 e3)) E
/-! built-ins -/
def rLen (K : PySem.W.Frag) : List V → Hp → VK → Prop := fun xs H Q => ∃ p ys, xs = [.ref p] ∧ (SqL K H p ys ∨ SqT K H p ys) ∧ Q (.int ys.length) H
def rLst (K : PySem.W.Frag) : List V → Hp → VK → Prop := fun xs H Q => ∃ p ys, xs = [.ref p] ∧ (SqL K H p ys ∨ SqT K H p ys) ∧ ∀ l, H l = none → Q (.ref l) (upd H l (.lst ys))
theorem rc_is {c : String} {k : String} (h : kd H x = k) (hk : k ≠ "") (hc : c = "int" ∨ c = "bool" ∨ c = "list" ∨ c = "tuple" ∨ c = "str") : RC T rIs [x, .ty c] H (.bl (isK k c)) := fun H1 e _ q => by
  have h1 := kd_ex e h hk
  exact ⟨x, c, rfl, by rw [h1]; exact hk, hc, by rw [h1]; exact q H1 Mv.refl⟩
theorem rc_len {p : Addr} {xs : List V} (h : SqL K H p xs ∨ SqT K H p xs) : RC T (rLen K) [.ref p] H (.int xs.length) := fun H1 e _ q => ⟨p, xs, rfl, h.imp e.l e.t, q H1 Mv.refl⟩
theorem rc_lenI {p : Addr} {ns : List Int} (h : SqL K H p (ns.map V.int)) : RC T (rLen K) [.ref p] H (.int ns.length) := fun H1 e Q q => rc_len (.inl h) H1 e Q fun H2 e2 => by
  rw [List.length_map]
  exact q H2 e2
theorem el_list {p : Addr} {xs : List V} (ha : Ev T ta σ H (.ref p)) (h : SqL K H p xs ∨ SqT K H p xs) : EvL T (tCB (rLst K) (tCons ta tNil)) σ H xs := fun H1 e Q q =>
  ha H1 e _ fun H2 e2 => ⟨p, xs, rfl, h.imp (e.trans e2).l (e.trans e2).t, fun l hl => q _ _ (e2.trans (Mv.new hl)) ⟨l, rfl, e2.nod hl, upd_same⟩⟩
/-! slices of lists -/
theorem eo_no : EvO T tNoPart σ H none := fun H1 _ _ q => q H1 Mv.refl
theorem eo_part {i : Int} (h : Ev T te σ H (.int i)) : EvO T (tPart te) σ H (some i) := fun H1 e _ q => h H1 e _ fun H2 e2 => ⟨i, rfl, q H2 e2⟩
theorem el_sl {p : Addr} {xs : List V} {tl th : TO} {lo hi : Option Int} (ha : Ev T ta σ H (.ref p)) (hl : EvO T tl σ H lo) (hh : EvO T th σ H hi) (h : SqL K H p xs) : EvL T (tSl (rSlL K) ta tl th) σ H (cutV xs lo hi) := fun H1 e Q q =>
  ha H1 e _ fun H2 e2 => hl H2 (e.trans e2) _ fun H3 e3 => hh H3 ((e.trans e2).trans e3) _ fun H4 e4 =>
    ⟨p, xs, rfl, (((e.trans e2).trans e3).trans e4).l h, fun l hn => q _ _ (((e2.trans e3).trans e4).trans (Mv.new hn)) ⟨l, rfl, e2.dm l (e3.dm l (e4.nod hn)), upd_same⟩⟩
/-! ### statements; H0 is the heap in which all is known -/
variable {D : Ends} {tu tw : TS} {g : TG} {H0 : Hp}
theorem s_asg {i : Nat} (e : Ex T H0 H) (h : Ev T te σ H0 v) (k : ∀ H1, Ex T H0 H1 → Ex T H H1 → D.nx (σ.set i (some v)) H1) : tAsg te (gName i) D σ H := h H e _ fun H1 e1 => k H1 (e.trans e1) e1
theorem s_asgR {i : Nat} (e : Ex T H0 H) (h : EvR T te σ H0 R) (k : ∀ w H1, Ex T H0 H1 → Ex T H H1 → R H w H1 → D.nx (σ.set i (some w)) H1) : tAsg te (gName i) D σ H := h H e _ fun w H1 e1 r => k w H1 (e.trans e1) e1 r
theorem s_ret (e : Ex T H0 H) (h : Ev T te σ H0 v) (k : ∀ H1, Ex T H0 H1 → D.rt v H1) : tRet te D σ H := h H e _ fun H1 e1 => k H1 (e.trans e1)
theorem s_retR (e : Ex T H0 H) (h : EvR T te σ H0 R) (k : ∀ w H1, Ex T H0 H1 → Ex T H H1 → R H w H1 → D.rt w H1) : tRet te D σ H := h H e _ fun w H1 e1 r => k w H1 (e.trans e1) e1 r
theorem s_if {b : Bool} (e : Ex T H0 H) (h : EvT T t σ H0 b) (h1 : b = true → ∀ H1, Ex T H0 H1 → Ex T H H1 → tu D σ H1) (h2 : b = false → ∀ H1, Ex T H0 H1 → Ex T H H1 → tw D σ H1) : tIfS t tu tw D σ H := h H e _ fun H1 e1 => by
  cases b with
  | true => exact h1 rfl H1 (e.trans e1) e1
  | false => exact h2 rfl H1 (e.trans e1) e1
theorem s_drop (e : Ex T H0 H) (h : Ev T te σ H0 v) (k : ∀ H1, Ex T H0 H1 → Ex T H H1 → D.nx σ H1) : tDrop te D σ H := h H e _ fun H1 e1 => k H1 (e.trans e1) e1
/-- a cut: what follows is shown once, from Mid -/
theorem s_cut (Mid : L2.St → Hp → Prop) (h1 : tu { D with nx := Mid } σ H) (h2 : ∀ σ' H', Mid σ' H' → tw D σ' H') (hm : ∀ {D1 D2 : Ends}, (∀ σ H, D1.nx σ H → D2.nx σ H) → D1.rt = D2.rt → D1.bk = D2.bk → D1.ct = D2.ct → ∀ σ H, tu D1 σ H → tu D2 σ H) : tSeq tu tw D σ H :=
  hm (D1 := { D with nx := Mid }) (D2 := { D with nx := tw D }) (fun σ' H' => h2 σ' H') rfl rfl rfl σ H h1
/-- xs.append(e), xs known at l -/
theorem s_app {l : Addr} {xs : List V} (e : Ex T H0 H) (hl : H l = some (.lst xs)) (ha : Ev T ta σ H0 (.ref l)) (h : Ev T te σ H0 v) (hz : xs.length < 100000) (k : ∀ H1, Ex T H0 H1 → Ex T H H1 → D.nx σ (upd H1 l (.lst (xs ++ [v])))) :
    tDrop (tBM K "list" rAppend ta (tCons te tNil)) D σ H := ha H e _ fun H1 e1 =>
  ⟨.inl ⟨rfl, xs, .inl (.inl (e1.at hl))⟩, h H1 (e.trans e1) _ fun H2 e2 => ⟨l, xs, v, rfl, rfl, e2.at (e1.at hl), szl hz, k H2 ((e.trans e1).trans e2) (e1.trans e2)⟩⟩
theorem s_appR {l : Addr} {xs : List V} (e : Ex T H0 H) (hl : H l = some (.lst xs)) (ha : Ev T ta σ H0 (.ref l)) (h : EvR T te σ H0 R) (hz : xs.length < 100000) (k : ∀ w H1 H2, Ex T H0 H1 → Ex T H H1 → Ex T H1 H2 → R H1 w H2 → D.nx σ (upd H2 l (.lst (xs ++ [w])))) :
    tDrop (tBM K "list" rAppend ta (tCons te tNil)) D σ H := ha H e _ fun H1 e1 =>
  ⟨.inl ⟨rfl, xs, .inl (.inl (e1.at hl))⟩, h H1 (e.trans e1) _ fun w H2 e2 r => ⟨l, xs, w, rfl, rfl, e2.at (e1.at hl), szl hz, k w H1 H2 (e.trans e1) e1 e2 r⟩⟩
/-- xs[i] = e -/
theorem s_setL {l : Addr} {xs : List V} {i : Int} {j : Nat} (e : Ex T H0 H) (hl : H l = some (.lst xs)) (h : Ev T te σ H0 v) (ho : Ev T ta σ H0 (.ref l)) (hi : Ev T tb σ H0 (.int i)) (hj : ixN xs.length i = some j) (k : ∀ H1, Ex T H0 H1 → Ex T H H1 → D.nx σ (upd H1 l (.lst (xs.set j v)))) :
    tAsg te (gSub ta tb rSetL) D σ H := h H e _ fun H1 e1 => ho H1 (e.trans e1) _ fun H2 e2 => hi H2 ((e.trans e1).trans e2) _ fun H3 e3 =>
  ⟨l, xs, i, j, rfl, rfl, e3.at (e2.at (e1.at hl)), hj, k H3 (((e.trans e1).trans e2).trans e3) ((e1.trans e2).trans e3)⟩
/-! loops -/
theorem s_forR {ta : TA} {j : Nat} {n : Int} (e : Ex T H0 H) (h : EvA T ta σ H0 [.int n]) (hn : -100000 ≤ n ∧ n ≤ 100000) (Pv : Nat → L2.St → Hp → Prop) (h0 : ∀ H1, Ex T H0 H1 → Ex T H H1 → Pv 0 σ H1)
    (hs : ∀ (i : Nat) σ' H', (i : Int) < n → Pv i σ' H' → tu { D with nx := Pv (i + 1), ct := Pv (i + 1), bk := D.nx } (σ'.set j (some (.int (i : Int)))) H') (hd : ∀ σ' H', Pv n.toNat σ' H' → D.nx σ' H') : tFor (iRng1 ta) (gName j) tu D σ H :=
  h H e _ fun H1 e1 => ⟨n, rfl, by omega, by omega, for_range (lo := 0) (n := n.toNat) Pv (h0 H1 (e.trans e1) e1) (fun i σ' H' hi p => by
    have z : (0 : Int) + (i : Int) = (i : Int) := Int.zero_add _
    show tu { D with nx := Pv (i + 1), ct := Pv (i + 1), bk := D.nx } (σ'.set j (some (.int ((0 : Int) + (i : Int))))) H'
    rw [z]
    exact hs i σ' H' (by omega) p) hd⟩
theorem s_forL {a : Addr} {xs : List V} {tl : TE} (e : Ex T H0 H) (h : Ev T tl σ H0 (.ref a)) (hx : SqL K H0 a xs) (Pv : Nat → L2.St → Hp → Prop) (h0 : ∀ H1, Ex T H0 H1 → Ex T H H1 → Pv 0 σ H1) (hl : ∀ i σ' H', i ≤ xs.length → Pv i σ' H' → SqL K H' a xs)
    (hs : ∀ i x σ' H', xs[i]? = some x → Pv i σ' H' → g x σ' H' fun σ2 H2 => tu { D with nx := Pv (i + 1), ct := Pv (i + 1), bk := D.nx } σ2 H2) (hd : ∀ σ' H', Pv xs.length σ' H' → D.nx σ' H') : tFor (iList K tl) g tu D σ H :=
  h H e _ fun H1 e1 => ⟨a, rfl, ⟨xs, (e.trans e1).l hx⟩, for_list Pv (h0 H1 (e.trans e1) e1) hl hs hd⟩
theorem s_forNL {xs : List V} {tl : TE} (e : Ex T H0 H) (h : EvL T tl σ H0 xs) (Pv : Addr → Nat → L2.St → Hp → Prop) (h0 : ∀ p H1, nod H p → Ex T H0 H1 → Ex T H H1 → H1 p = some (.lst xs) → Pv p 0 σ H1) (hl : ∀ p i σ' H', i ≤ xs.length → Pv p i σ' H' → SqL K H' p xs)
    (hs : ∀ p i x σ' H', xs[i]? = some x → Pv p i σ' H' → g x σ' H' fun σ2 H2 => tu { D with nx := Pv p (i + 1), ct := Pv p (i + 1), bk := D.nx } σ2 H2) (hd : ∀ p σ' H', Pv p xs.length σ' H' → D.nx σ' H') : tFor (iList K tl) g tu D σ H :=
  h H e _ fun _ H1 e1 ⟨p, ep, np, hp⟩ => by
    subst ep
    exact ⟨p, rfl, ⟨xs, .inl (.inl hp)⟩, for_list (Pv p) (h0 p H1 np (e.trans e1) e1 hp) (hl p) (hs p) (hd p)⟩
theorem s_forT {a : Addr} {xs : List V} {tl : TE} (e : Ex T H0 H) (h : Ev T tl σ H0 (.ref a)) (hx : SqT K H0 a xs) (Pv : Nat → L2.St → Hp → Prop) (h0 : ∀ H1, Ex T H0 H1 → Ex T H H1 → Pv 0 σ H1) (hl : ∀ i σ' H', i ≤ xs.length → Pv i σ' H' → SqT K H' a xs)
    (hs : ∀ i x σ' H', xs[i]? = some x → Pv i σ' H' → g x σ' H' fun σ2 H2 => tu { D with nx := Pv (i + 1), ct := Pv (i + 1), bk := D.nx } σ2 H2) (hd : ∀ σ' H', Pv xs.length σ' H' → D.nx σ' H') : tFor (iTup K tl) g tu D σ H :=
  h H e _ fun H1 e1 => ⟨a, rfl, ⟨xs, (e.trans e1).t hx⟩, for_tup Pv (h0 H1 (e.trans e1) e1) hl hs hd⟩
end
end Fp

namespace Fp
open PySem PySem.Spec PyProof.Rows L2 LamX
open PySem.W (EachIs KeyPure)

/-! ### the order -/
/-- the rank of a line -/
def rk (rs : List Int) (i : Int) : Int := rs.getD i.toNat 0
/-- comes ahead, or is the same -/
def ordLe (rs : List Int) (p q : Int) : Bool := decide (rk rs p < rk rs q ∨ (rk rs p = rk rs q ∧ p ≤ q))
def inOrd (rs ls : List Int) : List Int := ls.mergeSort (ordLe rs)

/-! ### sorted(lines, key=lambda line: (ranks[line], line)) -/
abbrev lamB (a1 a2 a3 a4 a5 : Pos) : Expr := .Tuple [.Subscript (.Name "ranks" a1) (.Name "line" a2) a3, .Name "line" a4] 0 a5
abbrev lamSc : Scope := { kind := .function, names := [("line", .local), ("ranks", .free)], isGenerator := false, isCoroutine := false, more := [] }
theorem lk1 {α : Type} {k : Str} {v : α} : List.lookup k [(k, v)] = some v := by simp [List.lookup]
theorem lam_line : lamSc.names.lookup ("line" : Str) = some NameKind.local := by decide +kernel
theorem lam_ranks : lamSc.names.lookup ("ranks" : Str) = some NameKind.free := by decide +kernel
section
variable {prog : Program} {w : World} {A : Around} {s : Shared}
/-- one call of the key -/
theorem key_turn {f c' cr r : Addr} {q : Str} {params : Arguments} {a1 a2 a3 a4 a5 : Pos} {pm ctv : Value} {its : List Value} {rs : List Int} {orr oc occ : Obj} {vs : Array Value} {tq t : Tok} {n : Nat} {i : Int}
    (hroom : A.depth < recursionLimit) (hlim : s.heap.NoLimit) (hf : s.heap.get? f = some (PySem.W.kla_obj "<lambda>" q params (lamB a1 a2 a3 a4 a5) lamSc [("ranks", cr)] pm c' ctv))
    (hoc : s.heap.get? c' = some oc) (hdc : oc.data = .fields vs) (hvc : vs[1]? = some (.str q tq))
    (hbind : ∀ v, bindArgs (PySem.W.kla_fn "<lambda>" q params (lamB a1 a2 a3 a4 a5) lamSc [("ranks", cr)] pm (.ref c') ctv) ⟨[v], []⟩ = pure [(("line" : Str), v)])
    (hcc : s.heap.get? cr = some occ) (hcd : occ.data = .cell (some (.ref r))) (hr : s.heap.get? r = some orr) (hrc : orr.cls = .type "list") (hrd : orr.data = .seq its.toArray n) (hv : Vals (rs.map V.int) its)
    (h0 : 0 ≤ i) (h1 : i < rs.length) (hz : rs.length ≤ sizeLine) :
    wpAny (model prog w) A (call (.ref f) [.int i t]) (KeyPure (.tuple [.int (rk rs i), .int i]) s) (fun _ _ => False) s := by
  refine wpAny_call (PySem.W.kla_callFunE hroom hf rfl rfl rfl rfl ⟨c', oc, vs, tq, rfl, hoc, hdc, hvc⟩ ?_)
  rw [hbind]
  refine wpAny_pure (wpAny_newFunctionEnv (show ∀ x ∈ lamSc.names, x.2 ≠ .cell by decide) (fun x hx => by rw [List.mem_singleton] at hx; rw [hx]; exact lam_line) (fun h₁ hns hsb => ⟨hlim.fresh _ hsb, ?_⟩) rfl)
  show codeAny _ _ (.expr (lamB a1 a2 a3 a4 a5) (PySem.W.envX q lamSc s.heap.objs.size f (.ref c') [("ranks", cr)])) _ _
  have kp : ∀ b o, s.heap.get? b = some o → h₁.get? b = some o := fun b o e => hsb.extBut b o (Nat.ne_of_lt (Heap.lt_size e)) (Heap.get?_push_of_some _ e)
  obtain ⟨u, hu, ru⟩ := hv.get (i := i.toNat) (x := .int (rk rs i)) (by
    rw [List.getElem?_map, List.getElem?_eq_getElem (by omega)]
    simp [rk, List.getD_eq_getElem?_getD, List.getElem?_eq_getElem (show i.toNat < rs.length by omega)])
  obtain ⟨t2, rfl⟩ := ru
  have hn := line63
  have fin : ∀ (tk : Nat), KeyPure (.tuple [.int (rk rs i), .int i]) s (.ref h₁.objs.size) { s with heap := h₁.push { cls := .type "tuple", data := .seq #[.int (rk rs i) t2, .int i t] }, toks := tk } := fun tk =>
    ⟨_, _, rfl, fun b o e => Heap.get?_push_of_some _ (kp b o e), Reads.tuple (Heap.get?_push_size _ rfl) rfl rfl (ReadsAll.cons (Reads.int _ _) (ReadsAll.cons (Reads.int _ _) ReadsAll.nil))⟩
  refine PySem.W.kla_codeExpr (wpAny_mono (E := fun _ _ => False) (Q := fun v s' => KeyPure (.tuple [.int (rk rs i), .int i]) s v s') ?_ (fun v s' z => z) fun _ _ z => z.elim)
  refine wpAny_Tuple_spliced ?_
  show wpAny _ _ (spliced ((false, eval (.Subscript (.Name "ranks" a1) (.Name "line" a2) a3) _) :: (false, eval (.Name "line" a4) _) :: [])) _ _ _
  refine Calls.spliced_cons (Subscript_ (wpAny_Name (wpAny_loadName_free rfl lam_ranks (c := cr) lk1 ⟨_, kp _ _ hcc, hcd⟩ ?_) (by decide)))
  refine wpAny_Name (wpAny_loadName_local rfl lam_line hns (v := .int i t) lk1 ?_) (by decide)
  refine item_listR (x := .int (rk rs i) t2) ⟨orr, kp _ _ hr, hrc, n, hrd⟩ h0 (by omega) (by simpa using hu) ?_ (by intros; rfl)
  refine Calls.spliced_cons (wpAny_Name (wpAny_loadName_local rfl lam_line hns (v := .int i t) lk1 ?_) (by decide))
  exact Calls.spliced_nil ⟨by show 2 ≤ sizeLine; decide, fin _⟩
end
theorem Mv.ofN {T : List (Addr × Str)} {H H1 : Hp} (e : ExtN H H1) (t : Tabs T H1) : Ex T H H1 :=
  have k : ∀ b o, H b = some o → dat o = true → H1 b = some o := fun b o h d => e b o h fun ps z => by subst z; cases d
  ⟨fun b o h d _ => k b o h d, fun b n o h => by
    cases d : dat o with
    | false => rfl
    | true => exact d.symm.trans (n o (k b o h d)), fun _ => t⟩
theorem clo_ranks {cells : List (Str × Addr)} {c : Addr} (h : cells.lookup ("ranks" : Str) = some c) : cloFrom cells lamSc.names [] = [(("ranks" : Str), c)] := by
  simp [cloFrom, h]
/-- what the two handed things are -/
structure Kys (K : PySem.W.Frag) (H : Hp) (l r : Addr) (rs ls : List Int) : Prop where
  l : SqL K H l (ls.map V.int)
  r : SqL K H r (rs.map V.int)
  lo : ∀ i ∈ ls, 0 ≤ i ∧ i < rs.length
def rSortK (K : PySem.W.Frag) (T : List (Addr × Str)) (σ : L2.St) (ir : Nat) (Q : VK) : List V → Hp → Prop := fun vs H1 => ∃ (l r : Addr) (rs ls : List Int), vs = [.ref l] ∧ σ[ir]? = some (some (.ref r)) ∧ Kys K H1 l r rs ls ∧ Tabs T H1 ∧
  ∀ v H2, Ex T H1 H2 → newL ((inOrd rs ls).map V.int) H1 v H2 → Q v H2
def tSortK (K : PySem.W.Frag) (T : List (Addr × Str)) (ir : Nat) (ta : TA) : TE := fun σ H Q => ta σ H (rSortK K T σ ir Q)
section
variable {X : Cx} {T : List (Addr × Str)} {e : Expr} {ta : TA} {c P : Addr} {ir k : Nat} {p a1 a2 a3 a4 a5 lpos kpos pos : Pos} {params : Arguments}
theorem vals_each : ∀ {ls : List Int} {its : List Value}, Vals (ls.map V.int) its → EachIs (fun v i => ∃ t, v = Value.int i t) its ls
  | [], [], _ => .nil
  | _ :: _, _ :: _, .cons r t => .cons r (vals_each t)
theorem each_vals : ∀ {ls : List Int} {its : List Value}, EachIs (fun v i => ∃ t, v = Value.int i t) its ls → Vals (ls.map V.int) its
  | [], [], _ => .nil
  | _ :: _, _ :: _, .cons r t => .cons r (each_vals t)
/-- sorted(e, key=lambda line: (ranks[line], line)) -/
theorem pe_sortK (ha : PA X [e] ta) (hr : Room k X.A) (hg : Gl X "sorted") (hm : X.mg "sorted" = none) (TB : TabB X.base X.mg c P) (hcode : X.env.code = .ref c) (hmT : (P, X.env.qual ++ "<lambda>") ∈ T) (hu : ∀ p ∈ T, p.1 = P → p.2 = X.env.qual ++ "<lambda>")
    (hN : X.N[ir]? = some ("ranks" : Str)) (hk : X.env.scope.names.lookup ("ranks" : Str) = some NameKind.cell) (hdef : defaultsOf params X.env = ([], []))
    (hbind : ∀ (q : Str) (cl : List (Str × Addr)) (pm cv ctv v : Value), bindArgs (PySem.W.kla_fn "<lambda>" q params (lamB a1 a2 a3 a4 a5) lamSc cl pm cv ctv) ⟨[v], []⟩ = pure [(("line" : Str), v)])
    (h1 : backTo pos (starEach [e] X.env) = (false, eval e X.env) :: backTo pos (starEach [] X.env) := by rfl) (h2 : (backTo pos (starEach [e] X.env)).any (·.1) = false := by rfl)
    (h3 : (backToKw pos (keywordEach [⟨some "key", .Lambda params (lamB a1 a2 a3 a4 a5) lamSc lpos, kpos⟩] X.env)).all (·.1.isSome) = true := by rfl) (h4 : (backToKw pos (keywordEach [⟨some "key", .Lambda params (lamB a1 a2 a3 a4 a5) lamSc lpos, kpos⟩] X.env)).any (·.1.isNone) = false := by rfl)
    (h5 : (backToKw pos (keywordEach [⟨some "key", .Lambda params (lamB a1 a2 a3 a4 a5) lamSc lpos, kpos⟩] X.env)).filterMap (·.1) = [("key" : Str)] := by rfl) :
    PE X (.Call (.Name "sorted" p) [e] [⟨some "key", .Lambda params (lamB a1 a2 a3 a4 a5) lamSc lpos, kpos⟩] pos) (tSortK X.K T ir ta) := by
  refine ⟨fun pins s σ H Q I h => wpAny_Call_Name_kw (ld_blt (u := .builtin "sorted") I hg hm (by decide +kernel) (PyProof.Rows.callWith_kw (thn (ha.run pos pins s σ H (rSortK X.K T σ ir Q) I h) fun us s1 hh => ?_) h1 h2 h3 h4))⟩
  obtain ⟨vs, H1, I1, rv, l, r, rs, ls, rfl, er, ky, tb, q⟩ := hh
  obtain ⟨v1, rfl, rfl⟩ := vals1 rv
  have hfree : ∀ y ∈ lamSc.names, y.2 = .free → ∃ c, X.env.cells.lookup y.1 = some c := fun y hy e => I1.ok.has y.1 (.inl (by
    have e2 : y = (("ranks" : Str), NameKind.free) := by
      rcases List.mem_cons.mp hy with z | z
      · rw [z] at e; cases e
      · exact List.mem_singleton.mp z
    rw [e2]
    exact hk))
  show wpAny _ _ (evalAll ((do let v ← eval (.Lambda params (lamB a1 a2 a3 a4 a5) lamSc lpos) X.env; standAt pos; pure v) :: [])) _ _ s1
  refine wpAny_evalAll_cons (wpAny_bind (lam_make2 I1 TB hcode hmT hu tb hdef hfree fun f c' pm ctv H2 s2 I2 eN t2 hf hfn hfr hco => ?_))
  refine wpAny_bind (wpAny_standAt (wpAny_pure (wpAny_evalAll_nil ?_)))
  rw [h5]
  show wpAny _ _ (call (.builtin "sorted") [.ref l] [(("key" : Str), .ref f)]) _ _ s2
  have e2 : Ex T H1 H2 := Mv.ofN eN t2
  obtain ⟨itl, rl, pl, zl⟩ := I2.list (e2.l ky.l)
  obtain ⟨itr, rr, ⟨orr, nr, hr1, hr2, hr3, hr4⟩, zr⟩ := I2.list (e2.l ky.r)
  obtain ⟨m, hn, hl⟩ := I2.loc
  obtain ⟨u, ru, lk⟩ := hl ir ("ranks" : Str) (.ref r) hN er (.inr (.inl hk))
  obtain rfl : u = Value.ref r := ru
  obtain ⟨cr, hcr, occ, hoc1, hoc2⟩ : ∃ cr, X.env.cells.lookup ("ranks" : Str) = some cr ∧ s2.heap.IsCell cr (some (.ref r)) := by
    rcases lk with ⟨z, _⟩ | ⟨_, c, z1, z2⟩
    · rw [show X.env.kindOf ("ranks" : Str) = X.env.scope.names.lookup ("ranks" : Str) from rfl, hk] at z; cases z
    · exact ⟨c, z1, z2⟩
  rw [clo_ranks hcr] at hf
  obtain ⟨⟨oc, vc, tc, k1, k2, k3⟩, _, _⟩ := I2.hok c' _ hco
  have zl2 : ls.length ≤ sizeLine := by rw [List.length_map] at zl; exact zl
  have zr2 : rs.length ≤ sizeLine := by rw [List.length_map] at zr; exact zr
  refine PySem.W.sorted_key_data (s := s2) (vs := itl) (bs := ls) (R := fun v i => ∃ t, v = Value.int i t) (b := false) (fun i => .tuple [.int (rk rs i), .int i]) pl.isList (vals_each rl) (PySem.W.AllAlike.of fun _ _ => rfl) (PySem.W.Sortable.tuples fun _ => ⟨_, _, rfl⟩) zl2
    (fun x _ => by have z := hr.un; show X.A.units + 2 + 1 < cLine; omega) (PyProof.Rows.ksk_s1 _ _) (fun _ => PyProof.Rows.ksk_l1 _ _) (fun x => PyProof.Rows.ksk_t1 f x) (fun v i hv hi h tk kp => ?_) (fun out cc h' tk kp hne hout hlen heach => ?_)
  · obtain ⟨t, rfl⟩ := hv
    obtain ⟨b0, b1⟩ := ky.lo i hi
    have hd : X.A.in1.in1.depth < recursionLimit := by have z := hr.dp; show X.A.depth < recursionLimit; omega
    exact key_turn (s := { s2 with heap := h, toks := tk }) hd (I2.nolimit.keeps kp) (kp _ _ hf) (kp _ _ k1) k2 k3 (fun v => hbind _ _ _ _ _ v) (kp _ _ hoc1) hoc2 (kp _ _ hr1) hr2 hr4 rr b0 b1 zr2
  · rw [PySem.W.dataLe_ii (rk rs) (fun i => i)] at heach
    have rv : Vals ((inOrd rs ls).map V.int) out := each_vals heach
    have zo : ((inOrd rs ls).map V.int).length ≤ sizeLine := by
      rw [List.length_map]
      unfold inOrd
      rw [List.length_mergeSort]
      exact zl2
    have fr : H2 (s2.heap.objs.size + 1) = none := I2.hok.fresh (Nat.le_succ _)
    exact ⟨.ref (s2.heap.objs.size + 1), upd H2 (s2.heap.objs.size + 1) (.lst ((inOrd rs ls).map V.int)), I2.laid (t' := tk) kp (Nat.le_succ _) ⟨zo, out, cc, rv, hout⟩, rfl, q _ _ (e2.trans (Mv.new fr)) ⟨_, rfl, e2.nod fr, upd_same⟩⟩
end
end Fp

namespace Fp
open PySem PySem.Spec PyProof.Rows L2 LamX
/-! ### defs by name -/
/-- a def of the module that keeps a promise -/
structure Gd (P : Program) (w : World) (K : PySem.W.Frag) (mg : Str → Option Value) (base : Heap) (CX : CXT) (k : Nat) (x : Str) (ps : List Str) (sp : Sp) : Prop where
  ex : ∃ f fd, FnOk P w K mg base CX k f fd ps sp ∧ mg x = some (.ref f) ∧ PySem.W.keepIn K (.ref f) = true ∧ L2.Binds K fd ps []
/-- where a def stands -/
structure Df (K : PySem.W.Frag) (mg : Str → Option Value) (x : Str) (st : Stmt) : Prop where
  ex : ∃ f fd, FunD K x x (defArgs st) (defBody st) (defScope st) [] [] f fd ∧ mg x = some (.ref f) ∧ f = He.fAd K (x, none)
/-- the built-in names that the module leaves alone -/
structure Bi (mg : Str → Option Value) : Prop where
  len : mg "len" = none
  isinstance : mg "isinstance" = none
  sorted : mg "sorted" = none
  range : mg "range" = none
  list : mg "list" = none
  int : mg "int" = none
  bool : mg "bool" = none
  all : mg "all" = none
  zip : mg "zip" = none
  tuple : mg "tuple" = none
  str : mg "str" = none
  enumerate : mg "enumerate" = none
  min : mg "min" = none
section
variable {X : Cx} {CX : CXT} {k : Nat} {x : Str} {ps : List Str} {sp : Sp} {E : XK} {p pos : Pos} {e : Expr} {es : List Expr} {t : TA}
theorem pe_g (G : Gd X.prog X.w X.K X.mg X.base CX k x ps sp) (hr : Room k X.A) (hg : Gl X x) (hx : Passes CX X E) (ha : PA X (e :: es) t) (hdb : (x == ("__debug__" : Str)) = false := by decide)
    (he : starEach (e :: es) X.env = (false, eval e X.env) :: starEach es X.env := by rfl) (hpl : (backTo pos (starEach es X.env)).any (·.1) = false := by rfl) : PE X (.Call (.Name x p) (e :: es) [] pos) (tCall sp [] E t) := by
  obtain ⟨f, fd, F, h1, h2, h3⟩ := G.ex
  exact pe_call F hr hg h1 h2 h3 .nil hx ha hdb he hpl
end
section
variable {P : Program} {w : World} {K : PySem.W.Frag} {mg : Str → Option Value} {base : Heap} {x : Str} {st : Stmt} {N ps : List Str} {k : Nat} {sp : Sp}
/-- a def that lets nothing out -/
theorem Df.ok0 (D : Df K mg x st) (S : FnScope N ps (defScope st)) (len : ∀ vs H Q E, sp vs H Q E → vs.length = ps.length)
    (hb : ∀ (kV doc pm : Value) (an : Option Addr) (cdv ct : Value) (us : List Value), us.length = ps.length → bindArgs (PySem.W.fnOf x x (defArgs st) (defBody st) (defScope st) .none kV doc pm an cdv ct) ⟨us, []⟩ = pure (ps.zip us))
    (hbody : ∀ (f : Addr) (cdv : Value) (A : Around) (outer : List Env) (s : Shared) (H : Hp) (vs : List V) (Q : VK) (E : XK), Room k (A.deeper (envOfC x (defScope st) s.heap.objs.size f cdv)) → sp vs H Q E →
      ∃ t, PSs (cxOf CX0 P w K mg base N x (defScope st) f cdv A outer s H E).nox (defBody st) t ∧ t { nx := fun _ H' => Q .non H', rt := Q } (start N vs) H) : Gd P w K mg base CX0 (k + 1) x ps sp := by
  obtain ⟨f, fd, F, hm, hf⟩ := D.ex
  refine ⟨f, fd, F.ok S len (fun cdv A outer s H vs Q E hr h => ?_), hm, F.kp, F.bindsN hb⟩
  obtain ⟨t, h1, h2⟩ := hbody f cdv A outer s H vs Q E hr h
  exact ⟨t, h1.nox, h2⟩
/-- a def that may raise -/
theorem Df.okX (D : Df K mg x st) (S : FnScope N ps (defScope st)) (len : ∀ vs H Q E, sp vs H Q E → vs.length = ps.length)
    (hb : ∀ (kV doc pm : Value) (an : Option Addr) (cdv ct : Value) (us : List Value), us.length = ps.length → bindArgs (PySem.W.fnOf x x (defArgs st) (defBody st) (defScope st) .none kV doc pm an cdv ct) ⟨us, []⟩ = pure (ps.zip us))
    (hbody : ∀ (f : Addr) (cdv : Value) (A : Around) (outer : List Env) (s : Shared) (H : Hp) (vs : List V) (Q : VK) (E : XK), Room k (A.deeper (envOfC x (defScope st) s.heap.objs.size f cdv)) → sp vs H Q E →
      ∃ t, PSs (cxOf (L2.CX P w) P w K mg base N x (defScope st) f cdv A outer s H E) (defBody st) t ∧ t { nx := fun _ H' => Q .non H', rt := Q } (start N vs) H) : Gd P w K mg base (L2.CX P w) (k + 1) x ps sp := by
  obtain ⟨f, fd, F, hm, hf⟩ := D.ex
  exact ⟨f, fd, F.ok S len (fun cdv A outer s H vs Q E hr h => hbody f cdv A outer s H vs Q E hr h), hm, F.kp, F.bindsN hb⟩
/-- a def whose own code object is wanted -/
theorem Df.okC (D : Df K mg x st) (S : FnScope N ps (defScope st)) (len : ∀ vs H Q E, sp vs H Q E → vs.length = ps.length)
    (hb : ∀ (kV doc pm : Value) (an : Option Addr) (cdv ct : Value) (us : List Value), us.length = ps.length → bindArgs (PySem.W.fnOf x x (defArgs st) (defBody st) (defScope st) .none kV doc pm an cdv ct) ⟨us, []⟩ = pure (ps.zip us))
    (hbody : ∀ (f : Addr) (cdv : Value) (A : Around) (outer : List Env) (s : Shared) (H : Hp) (vs : List V) (Q : VK) (E : XK), cdv = .ref (He.codeOf K (x, none)) → Room k (A.deeper (envOfC x (defScope st) s.heap.objs.size f cdv)) → sp vs H Q E →
      ∃ t, PSs (cxOf CX0 P w K mg base N x (defScope st) f cdv A outer s H E).nox (defBody st) t ∧ t { nx := fun _ H' => Q .non H', rt := Q } (start N vs) H) : Gd P w K mg base CX0 (k + 1) x ps sp := by
  obtain ⟨f, fd, F, hm, hf⟩ := D.ex
  refine ⟨f, fd, ?_, hm, F.kp, F.bindsN hb⟩
  obtain ⟨oc, od, dV, kV, doc, pm, an, cdv, ct, osl, rfl, lk, hcd, _, _⟩ := F.ex
  obtain ⟨c, hc⟩ := He.codeIn_ref hcd
  refine fn_of lk hcd S len fun A outer s H vs Q E hr hsp => ?_
  obtain ⟨t, h, q⟩ := hbody f cdv A outer s H vs Q E (hc.trans (congrArg Value.ref (He.codeOf_eq (p := (x, none)) (by rw [← hf]; exact lk) hc).symm)) hr hsp
  exact ⟨t, h.nox, q⟩
end
/-! ### statements in a row; the slots told anew -/
section
variable {T : List (Addr × Str)} {K : PySem.W.Frag} {σ σ2 : L2.St} {H H0 : Hp} {te ta tb : TE} {t : TT} {v : V} {R : Hp → V → Hp → Prop} {D : Ends} {u tu tw : TS} {i : Nat}
theorem q_asg (e : Ex T H0 H) (h : Ev T te σ H0 v) (hs : σ.set i (some v) = σ2) (k : ∀ H1, Ex T H0 H1 → Ex T H H1 → u D σ2 H1) : tSeq (tAsg te (gName i)) u D σ H := h H e _ fun H1 e1 => by
  show u D (σ.set i (some v)) H1
  rw [hs]
  exact k H1 (e.trans e1) e1
theorem q_asgR (e : Ex T H0 H) (h : EvR T te σ H0 R) (k : ∀ w H1 σ2, σ.set i (some w) = σ2 → Ex T H0 H1 → Ex T H H1 → R H w H1 → u D σ2 H1) : tSeq (tAsg te (gName i)) u D σ H := h H e _ fun w H1 e1 r => k w H1 _ rfl (e.trans e1) e1 r
theorem q_if {b : Bool} (e : Ex T H0 H) (h : EvT T t σ H0 b) (h1 : b = true → ∀ H1, Ex T H0 H1 → Ex T H H1 → tu { D with nx := u D } σ H1) (h2 : b = false → ∀ H1, Ex T H0 H1 → Ex T H H1 → tw { D with nx := u D } σ H1) : tSeq (tIfS t tu tw) u D σ H := s_if e h h1 h2
theorem q_drop (e : Ex T H0 H) (h : Ev T te σ H0 v) (k : ∀ H1, Ex T H0 H1 → Ex T H H1 → u D σ H1) : tSeq (tDrop te) u D σ H := s_drop e h k
theorem q_cut (Mid : L2.St → Hp → Prop) (h1 : tu { D with nx := Mid } σ H) (h2 : ∀ σ' H', Mid σ' H' → tw D σ' H') : Evl.tCut tu tw D σ H := ⟨Mid, h1, h2⟩
theorem q_next (h : D.nx σ H) : tNext D σ H := h
end
end Fp
namespace Fp
open PySem PySem.Spec PyProof.Rows L2 LamX
/-! ### operators by short names -/
abbrev oAdd : R2 := rI0 fun i j => .int (i + j)
abbrev oSub : R2 := rI0 fun i j => .int (i - j)
abbrev oMul : R2 := rI CMul fun i j => .int (i * j)
abbrev oMod : R2 := rI (fun _ j => 0 < j) fun i j => .int (i % j)
abbrev oDiv : R2 := rI CDivW fun i j => .int (i / j)
abbrev oPow : R2 := rI CPow fun i j => .int (i ^ j.toNat)
abbrev oLt : R2 := rI0 fun i j => .bl (decide (i < j))
abbrev oLe : R2 := rI0 fun i j => .bl (decide (i ≤ j))
abbrev oGt : R2 := rI0 fun i j => .bl (decide (j < i))
abbrev oGe : R2 := rI0 fun i j => .bl (decide (j ≤ i))
abbrev oIsN : R2 := fun x y H Q => y = .non ∧ Q (.bl (decide (x = .non))) H
abbrev oNotN : R2 := fun x y H Q => y = .non ∧ Q (.bl (!decide (x = .non))) H
def rInsert : V → List V → Hp → VK → Prop := fun x vs H Q => ∃ (l : Addr) (xs : List V) (i : Int) (y : V), x = .ref l ∧ vs = [.int i, y] ∧ H l = some (.lst xs) ∧ xs.length < sizeLine ∧ 0 ≤ i ∧ i < 2 ^ 63 ∧ Q .non (upd H l (.lst (xs.take i.toNat ++ [y] ++ xs.drop i.toNat)))
def rInt1 : List V → Hp → VK → Prop := fun xs H Q => (∃ i, xs = [.int i] ∧ Q (.int i) H) ∨ ∃ k, xs = [.bl k] ∧ Q (.int (if k then 1 else 0)) H
def rMin2 : List V → Hp → VK → Prop := fun xs H Q => ∃ i j, xs = [.int i, .int j] ∧ Q (.int (if j < i then j else i)) H
section
variable {T : List (Addr × Str)} {K : PySem.W.Frag} {σ : L2.St} {H H0 : Hp} {te ta tb : TE} {v z : V} {R : Hp → V → Hp → Prop}
theorem ev_call0 {sp : Sp} {vs : List V} {E : XK} {ta : TA} (h : EvA T ta σ H vs) (hs : SpV T sp vs H z) : Ev T (tCall sp [] E ta) σ H z := ev_call h (List.append_nil vs) hs
theorem er_call0 {sp : Sp} {vs : List V} {E : XK} {ta : TA} (h : EvA T ta σ H vs) (hs : SpR T sp vs H R) (hm : ∀ H1 H2 v H3, Ex T H H1 → Ex T H1 H2 → Ex T H2 H3 → R H2 v H3 → R H1 v H3) : EvR T (tCall sp [] E ta) σ H R := er_call h (List.append_nil vs) hs hm
theorem el_call0 {sp : Sp} {vs xs : List V} {E : XK} {ta : TA} (h : EvA T ta σ H vs) (hs : SpR T sp vs H (newL xs)) : EvL T (tCall sp [] E ta) σ H xs := er_call h (List.append_nil vs) hs newL_back
theorem ev_p60 : Ev T (tOp oPow (tC (.int 10)) (tC (.int 60))) σ H (.int 1000000000000000000000000000000000000000000000000000000000000) := ev_is (ev_op ev_c ev_c (rv_i ⟨by decide, by decide, by decide⟩)) (by decide +kernel)
theorem ev_p59 : Ev T (tOp oPow (tC (.int 10)) (tC (.int 59))) σ H (.int 100000000000000000000000000000000000000000000000000000000000) := ev_is (ev_op ev_c ev_c (rv_i ⟨by decide, by decide, by decide⟩)) (by decide +kernel)
theorem ev_p58 : Ev T (tOp oPow (tC (.int 10)) (tC (.int 58))) σ H (.int 10000000000000000000000000000000000000000000000000000000000) := ev_is (ev_op ev_c ev_c (rv_i ⟨by decide, by decide, by decide⟩)) (by decide +kernel)
theorem ev_p57 : Ev T (tOp oPow (tC (.int 10)) (tC (.int 57))) σ H (.int 1000000000000000000000000000000000000000000000000000000000) := ev_is (ev_op ev_c ev_c (rv_i ⟨by decide, by decide, by decide⟩)) (by decide +kernel)
theorem ev_p30 : Ev T (tOp oPow (tC (.int 10)) (tC (.int 30))) σ H (.int 1000000000000000000000000000000) := ev_is (ev_op ev_c ev_c (rv_i ⟨by decide, by decide, by decide⟩)) (by decide +kernel)
/-- an item of a list of whole numbers -/
theorem ix_int {ns : List Int} {i : Int} (h0 : 0 ≤ i) (h1 : i < ns.length) : atI (ns.map V.int) i = some (.int (rk ns i)) := by
  have e : ((i.toNat : Nat) : Int) = i := by omega
  have z : atI (ns.map V.int) ((i.toNat : Nat) : Int) = some (.int (rk ns i)) := atI_nat (by
    rw [List.getElem?_map, List.getElem?_eq_getElem (by omega)]
    simp [rk, List.getD_eq_getElem?_getD, List.getElem?_eq_getElem (show i.toNat < ns.length by omega)])
  rwa [e] at z
theorem rv_ixI {p : Addr} {ns : List Int} {i : Int} (h : SqL K H p (ns.map V.int)) (h0 : 0 ≤ i) (h1 : i < ns.length) : RV T (rIxL K) (.ref p) (.int i) H (.int (rk ns i)) := rv_ixL h (ix_int h0 h1)
/-- the last item, by -1 -/
theorem ix_neg {xs : List V} {v : V} (h : xs.getLast? = some v) : atI xs (-1) = some v := by
  obtain ⟨ys, rfl⟩ := List.getLast?_eq_some_iff.mp h
  exact atI_last _ _
theorem kd_l {H : Hp} {a : Addr} {xs : List V} (h : H a = some (.lst xs)) : kd H (.ref a) = "list" := by simp only [kd, h]
theorem kd_t {H : Hp} {a : Addr} {xs : List V} (h : H a = some (.tup xs)) : kd H (.ref a) = "tuple" := by simp only [kd, h]
theorem rc_isB {b : Bool} {c : String} (hc : c = "int" ∨ c = "bool" ∨ c = "list" ∨ c = "tuple" ∨ c = "str") : RC T rIs [.bl b, .ty c] H (.bl (isK "bool" c)) := rc_is rfl (by decide) hc
theorem rc_isI {i : Int} {c : String} (hc : c = "int" ∨ c = "bool" ∨ c = "list" ∨ c = "tuple" ∨ c = "str") : RC T rIs [.int i, .ty c] H (.bl (isK "int" c)) := rc_is rfl (by decide) hc
theorem rc_isS {i : Str} {c : String} (hc : c = "int" ∨ c = "bool" ∨ c = "list" ∨ c = "tuple" ∨ c = "str") : RC T rIs [.str i, .ty c] H (.bl (isK "str" c)) := rc_is rfl (by decide) hc
theorem rc_isN {c : String} (hc : c = "int" ∨ c = "bool" ∨ c = "list" ∨ c = "tuple" ∨ c = "str") : RC T rIs [.non, .ty c] H (.bl (isK "NoneType" c)) := rc_is rfl (by decide) hc
theorem rc_isL {a : Addr} {xs : List V} {c : String} (h : H a = some (.lst xs)) (hc : c = "int" ∨ c = "bool" ∨ c = "list" ∨ c = "tuple" ∨ c = "str") : RC T rIs [.ref a, .ty c] H (.bl (isK "list" c)) := rc_is (kd_l h) (by decide) hc
theorem rc_isT {a : Addr} {xs : List V} {c : String} (h : H a = some (.tup xs)) (hc : c = "int" ∨ c = "bool" ∨ c = "list" ∨ c = "tuple" ∨ c = "str") : RC T rIs [.ref a, .ty c] H (.bl (isK "tuple" c)) := rc_is (kd_t h) (by decide) hc
/-- whether a thing is a whole number -/
def isI : V → Bool
  | .int _ => true
  | _ => false
theorem isI_kd {H : Hp} {x : V} : (isK (kd H x) "int" && !isK (kd H x) "bool") = isI x := by
  cases x with
  | ref a =>
    show (isK (match H a with | some (.lst _) => "list" | some (.tup _) => "tuple" | some (.dK _) => "dict" | some (.frz _ (.lst _)) => "list" | _ => "") "int" && _) = false
    split <;> rfl
  | _ => rfl
theorem et_orT {t u : TT} (h : EvT T t σ H true) : EvT T (tOr t u) σ H true := et_is (et_or (b := true) h fun z => nomatch z) rfl
theorem et_andF {t u : TT} (h : EvT T t σ H false) : EvT T (tAnd t u) σ H false := et_is (et_and (b := true) h fun z => nomatch z) rfl
theorem et_orF {t u : TT} {b : Bool} (h : EvT T t σ H false) (h2 : EvT T u σ H b) : EvT T (tOr t u) σ H b := et_is (et_or (b := b) h fun _ => h2) (Bool.false_or b)
theorem et_andT {t u : TT} {b : Bool} (h : EvT T t σ H true) (h2 : EvT T u σ H b) : EvT T (tAnd t u) σ H b := et_is (et_and (b := b) h fun _ => h2) (Bool.true_and b)
theorem nextI {D : Ends} {σ : L2.St} {H : Hp} (h : D.nx σ H) : tNext D σ H := h
end
end Fp

local macro_rules | `(tactic| walk_at "fact") => `(tactic| first | assumption | exact Or.inl (Or.inl ‹_›) | exact Or.inl ‹_› | exact Or.inr ‹_› | exact Or.inl (Or.inl (Or.inl ‹_›)))
local macro_rules | `(tactic| walk_at "num") => `(tactic| first | assumption | omega | decide | (refine And.intro ?_ ?_ <;> walk_at "num") | (refine Or.inl ?_; walk_at "num") | (refine Or.inr ?_; walk_at "num") | (simp only [List.length_map, List.length_append, List.length_cons, List.length_nil] at *; omega))
local macro_rules | `(tactic| walk_at "hyp") => `(tactic| (intro h; (try simp only [decide_eq_true_eq, Bool.not_eq_true', decide_eq_false_iff_not, Bool.and_eq_true, Bool.or_eq_false_iff] at h)))
local macro_rules | `(tactic| walk_at "rv") => `(tactic| with_reducible first | apply Fp.rv_i0 | (apply Fp.rv_i; with_unfolding_all walk_at "num") | apply Fp.rv_eqI | apply Fp.rv_neI | apply Fp.rv_eqB | apply Fp.rv_neB | apply Fp.rv_eqS | apply Fp.rv_isN | apply Fp.rv_notN | (apply Fp.rv_ixI; (· walk_at "fact"); (· walk_at "num"); (· walk_at "num")) | (apply Fp.rv_inI; walk_at "fact") | (apply Fp.rv_niI; walk_at "fact") | apply Fp.rv_isB | (apply Fp.rv_ixL; (· walk_at "fact"); (· first | assumption | with_unfolding_all rfl)) | (apply Fp.rv_ixT; (· walk_at "fact"); (· first | assumption | with_unfolding_all rfl)) | (apply Fp.rv_eq; with_unfolding_all rfl) | (apply Fp.rv_ne; with_unfolding_all rfl))
local macro_rules | `(tactic| walk_at "rc") => `(tactic| with_reducible first | (apply Fp.rc_lenI; walk_at "fact") | (apply Fp.rc_len; walk_at "fact") | (apply Fp.rc_isB; decide) | (apply Fp.rc_isI; decide) | (apply Fp.rc_isS; decide) | (apply Fp.rc_isN; decide) | (apply Fp.rc_isL; (· assumption); (· decide)) | (apply Fp.rc_isT; (· assumption); (· decide)) | (apply Fp.rc_is; (· first | assumption | with_unfolding_all rfl); (· first | assumption | decide); (· decide)))
local macro_rules | `(tactic| walk_at "ev") => `(tactic| with_reducible first | (apply Fp.ev_var; with_unfolding_all rfl) | apply Fp.ev_c | apply Fp.ev_p60 | apply Fp.ev_p59 | apply Fp.ev_p58 | apply Fp.ev_p57 | apply Fp.ev_p30 | (apply Fp.ev_op; (· walk_at "ev"); (· walk_at "ev"); (· walk_at "rv")) | (apply Fp.ev_neg; walk_at "ev") | (apply Fp.ev_cb; (· walk_at "ea"); (· walk_at "rc")) | (apply Fp.ev_call0; (· walk_at "ea"); (· walk_at "sp")) | (apply Fp.ev_and; (· walk_at "ev"); (· walk_at "hyp"; walk_at "ev")) | (apply Fp.ev_or; (· walk_at "ev"); (· walk_at "hyp"; walk_at "ev")) | (apply Fp.ev_not; walk_at "ev") | (apply Fp.ev_chain; (· walk_at "ev"); (· walk_at "ev"); (· walk_at "hyp"; walk_at "ev")))
local macro_rules | `(tactic| walk_at "ea") => `(tactic| with_reducible first | apply Fp.ea_nil | (apply Fp.ea_cons; (· walk_at "ev"); (· walk_at "ea")))
local macro_rules | `(tactic| walk_at "et") => `(tactic| with_reducible first | (apply Fp.et_not; walk_at "et") | (apply Fp.et_and; (· walk_at "et"); (· walk_at "hyp"; walk_at "et")) | (apply Fp.et_or; (· walk_at "et"); (· walk_at "hyp"; walk_at "et")) | (apply Fp.et_test; walk_at "ev") | (apply Fp.et_B; walk_at "ev"))
local macro_rules | `(tactic| walk_at "slot") => `(tactic| (simp only [List.set_cons_zero, List.set_cons_succ]))
namespace Fp
open PySem PySem.Spec PyProof.Rows L2 LamX
/-! ### ranks: what is meant -/
/-- a line comes before another one -/
def bef (rs : List Int) (i j : Int) : Bool := decide (rk rs i < rk rs j ∨ (rk rs i = rk rs j ∧ i < j))
def fstStep (rs : List Int) (f : Option Int) (i : Int) : Option Int := match f with
  | none => some i
  | some j => if bef rs i j = true then some i else some j
def fstOf (rs ls : List Int) : Option Int := ls.foldl (fstStep rs) none
/-- a whole number or None -/
def oI : Option Int → V
  | none => .non
  | some i => .int i
/-- a number that is a line's -/
def inR (rs : List Int) (i : Int) : Prop := 0 ≤ i ∧ i < rs.length

def sp_is_whole (_K : PySem.W.Frag) (T : List (Addr × Str)) : Sp := fun vs H Q _ => ∃ x, vs = [x] ∧ kd H x ≠ "" ∧ ∀ H', Ex T H H' → Q (.bl (isI x)) H'
def sp_before (K : PySem.W.Frag) (T : List (Addr × Str)) : Sp := fun vs H Q _ => ∃ r i j rs, vs = [.ref r, .int i, .int j] ∧ SqL K H r (rs.map V.int) ∧ inR rs i ∧ inR rs j ∧ ∀ H', Ex T H H' → Q (.bl (bef rs i j)) H'
def sp_in_order (K : PySem.W.Frag) (T : List (Addr × Str)) : Sp := fun vs H Q _ => ∃ r l rs ls, vs = [.ref r, .ref l] ∧ Kys K H l r rs ls ∧ Tabs T H ∧ ∀ v H', Ex T H H' → newL ((inOrd rs ls).map V.int) H v H' → Q v H'
def sp_first_of (K : PySem.W.Frag) (T : List (Addr × Str)) : Sp := fun vs H Q _ => ∃ r l rs ls, vs = [.ref r, .ref l] ∧ Kys K H l r rs ls ∧ ∀ H', Ex T H H' → Q (oI (fstOf rs ls)) H'
theorem len_is_whole {K : PySem.W.Frag} {T : List (Addr × Str)} : ∀ vs H Q E, sp_is_whole K T vs H Q E → vs.length = 1 := fun vs H Q E h => by
  obtain ⟨_, rfl, _⟩ := h
  exact rfl
theorem len_before {K : PySem.W.Frag} {T : List (Addr × Str)} : ∀ vs H Q E, sp_before K T vs H Q E → vs.length = 3 := fun vs H Q E h => by
  obtain ⟨_, _, _, _, rfl, _⟩ := h
  exact rfl
theorem len_in_order {K : PySem.W.Frag} {T : List (Addr × Str)} : ∀ vs H Q E, sp_in_order K T vs H Q E → vs.length = 2 := fun vs H Q E h => by
  obtain ⟨_, _, _, _, rfl, _⟩ := h
  exact rfl
theorem len_first_of {K : PySem.W.Frag} {T : List (Addr × Str)} : ∀ vs H Q E, sp_first_of K T vs H Q E → vs.length = 2 := fun vs H Q E h => by
  obtain ⟨_, _, _, _, rfl, _⟩ := h
  exact rfl
section
variable {K : PySem.W.Frag} {T : List (Addr × Str)} {H : Hp} {Q : VK} {E : XK} {vs : List V}
theorem v_is_whole {x : V} (h : kd H x ≠ "") : SpV T (sp_is_whole K T) [x] H (.bl (isI x)) := fun H1 e Q q E => ⟨x, rfl, by rw [kd_ex e rfl h]; exact h, q⟩
theorem v_before {r : Addr} {rs : List Int} {i j : Int} (h : SqL K H r (rs.map V.int)) (hi : inR rs i) (hj : inR rs j) : SpV T (sp_before K T) [.ref r, .int i, .int j] H (.bl (bef rs i j)) := fun H1 e Q q E => ⟨r, i, j, rs, rfl, e.l h, hi, hj, q⟩
theorem Kys.ex {H1 : Hp} {l r : Addr} {rs ls : List Int} (k : Kys K H l r rs ls) (e : Ex T H H1) : Kys K H1 l r rs ls := ⟨e.l k.l, e.l k.r, k.lo⟩
theorem v_in_order {r l : Addr} {rs ls : List Int} (k : Kys K H l r rs ls) (t : Tabs T H) : SpR T (sp_in_order K T) [.ref r, .ref l] H (newL ((inOrd rs ls).map V.int)) := fun H1 e Q q E => ⟨r, l, rs, ls, rfl, k.ex e, e.tb t, q⟩
theorem v_first_of {r l : Addr} {rs ls : List Int} (k : Kys K H l r rs ls) : SpV T (sp_first_of K T) [.ref r, .ref l] H (oI (fstOf rs ls)) := fun H1 e Q q E => ⟨r, l, rs, ls, rfl, k.ex e, q⟩
end
def r_is_whole (K : PySem.W.Frag) (T : List (Addr × Str)) : TS :=
  (tRet (tAndV (tCB rIs (tCons (tVar 0) (tCons (tC (.ty "int")) tNil))) (tNotV (tCB rIs (tCons (tVar 0) (tCons (tC (.ty "bool")) tNil))))))
def r_before (K : PySem.W.Frag) (T : List (Addr × Str)) : TS :=
  (tSeq (tIfS (tTest (tOp rNe (tOp (rIxL K) (tVar 0) (tVar 1)) (tOp (rIxL K) (tVar 0) (tVar 2)))) (tRet (tOp oLt (tOp (rIxL K) (tVar 0) (tVar 1)) (tOp (rIxL K) (tVar 0) (tVar 2)))) tNext)
  (tRet (tOp oLt (tVar 1) (tVar 2))))
def r_in_order (K : PySem.W.Frag) (T : List (Addr × Str)) : TS :=
  (tRet (tSortK K T 0 (tCons (tVar 1) tNil)))
def r_first_of (K : PySem.W.Frag) (T : List (Addr × Str)) : TS :=
  (tSeq (tAsg (tC .non) (gName 2))
  (tSeq (tFor (iList K (tVar 1)) (gName 3) (tIfS (tOr (tTest (tOp oIsN (tVar 2) (tC .non))) (tB (tCall (sp_before K T) [] E0 (tCons (tVar 0) (tCons (tVar 3) (tCons (tVar 2) tNil)))))) (tAsg (tVar 3) (gName 2)) tNext))
  (tRet (tVar 2))))
end Fp
local macro_rules | `(tactic| walk_at "sp") => `(tactic| first | exact Fp.v_is_whole (by first | assumption | decide) | exact Fp.v_before (by walk_at "fact") (by assumption) (by assumption) | exact Fp.v_first_of (by assumption))
namespace Fp
open PySem PySem.Spec PyProof.Rows L2 LamX
section
variable {K : PySem.W.Frag} {T : List (Addr × Str)} {H : Hp} {Q : VK} {E : XK} {vs : List V}
theorem p_is_whole (h : sp_is_whole K T vs H Q E) : r_is_whole K T { nx := fun _ H' => Q .non H', rt := Q } (start ["thing"] vs) H := by
  obtain ⟨x, rfl, hx, k⟩ := h
  have a := (rfl : kd H x = kd H x)
  exact s_ret (Mv.of T H) (ev_is (ev_and (ev_cb (by walk_at "ea") (rc_is a hx (by decide))) fun _ => ev_not (ev_cb (by walk_at "ea") (rc_is a hx (by decide)))) (by rw [isI_kd])) k
theorem p_before (h : sp_before K T vs H Q E) : r_before K T { nx := fun _ H' => Q .non H', rt := Q } (start ["ranks", "one", "other"] vs) H := by
  obtain ⟨r, i, j, rs, rfl, hr, ⟨i0, i1⟩, ⟨j0, j1⟩, k⟩ := h
  unfold r_before
  refine q_if (Mv.of T H) (by walk_at "et") (fun hb H1 e _ => ?_) (fun hb H1 e _ => ?_)
  · refine s_ret e (ev_is (by walk_at "ev") ?_) k
    simp only [Bool.not_eq_true', decide_eq_false_iff_not] at hb
    simp [bef, hb]
  · refine nextI ?_
    dsimp only
    refine s_ret e (ev_is (by walk_at "ev") ?_) k
    simp only [Bool.not_eq_false', decide_eq_true_eq] at hb
    simp [bef, hb]
theorem p_in_order (h : sp_in_order K T vs H Q E) : r_in_order K T { nx := fun _ H' => Q .non H', rt := Q } (start ["ranks", "lines"] vs) H := by
  obtain ⟨r, l, rs, ls, rfl, ky, tb, k⟩ := h
  exact ⟨_, rfl, l, r, rs, ls, rfl, rfl, ky, tb, k⟩
theorem item_int {ns : List Int} {i : Nat} {y : V} (h : (ns.map V.int)[i]? = some y) : ∃ z, ns[i]? = some z ∧ y = V.int z := by
  rw [List.getElem?_map] at h
  cases e : ns[i]? with
  | none => rw [e] at h; cases h
  | some z => rw [e] at h; exact ⟨z, rfl, (Option.some.inj h).symm⟩
theorem take_snoc {α : Type} {l : List α} {i : Nat} {x : α} (h : l[i]? = some x) : l.take (i + 1) = l.take i ++ [x] := by
  rw [List.take_add_one, h]
  rfl
theorem fst_snoc {rs ls : List Int} {i : Nat} {z : Int} (h : ls[i]? = some z) : fstOf rs (ls.take (i + 1)) = fstStep rs (fstOf rs (ls.take i)) z := by
  unfold fstOf
  rw [take_snoc h, List.foldl_append]
  rfl
theorem fst_mem {rs : List Int} : ∀ {ls : List Int} {f : Option Int} {z : Int}, ls.foldl (fstStep rs) f = some z → f = some z ∨ z ∈ ls
  | [], f, z, h => .inl h
  | a :: ls, f, z, h => by
    rcases fst_mem (ls := ls) h with e | e
    · cases f with
      | none => exact .inr (by cases e; exact List.mem_cons_self)
      | some j =>
        unfold fstStep at e
        dsimp only at e
        split at e
        · cases e; exact .inr List.mem_cons_self
        · exact .inl e
    · exact .inr (List.mem_cons_of_mem _ e)
theorem p_first_of (h : sp_first_of K T vs H Q E) : r_first_of K T { nx := fun _ H' => Q .non H', rt := Q } (start ["ranks", "lines", "found", "line"] vs) H := by
  obtain ⟨r, l, rs, ls, rfl, ky, k⟩ := h
  unfold r_first_of
  refine q_asg (Mv.of T H) ev_c rfl fun H1 e1 _ => ?_
  refine s_forL (xs := ls.map V.int) e1 (by walk_at "ev") ky.l (fun i σ' H' => ∃ v, σ' = [some (.ref r), some (.ref l), some (oI (fstOf rs (ls.take i))), v] ∧ Ex T H H') (fun H2 e2 _ => ⟨none, rfl, e2⟩) (fun i σ' H' _ ⟨_, _, e⟩ => e.l ky.l) ?_ ?_
  · rintro i x σ' H' hi ⟨v, rfl, e⟩
    obtain ⟨z, hz, rfl⟩ := item_int hi
    have hzl := List.mem_of_getElem? hz
    have hk := ky.r
    have iz := ky.lo z hzl
    have step := fst_snoc (rs := rs) hz
    cases hf : fstOf rs (ls.take i) with
    | none =>
      refine s_if (b := true) e (et_orT (et_is (by walk_at "et") (by simp [oI]))) (fun _ H2 e2 _ => ?_) (fun hb => nomatch hb)
      refine s_asg e2 (by walk_at "ev") fun H3 e3 _ => ⟨some (.int z), ?_, e3⟩
      rw [step, hf]
      rfl
    | some j =>
      have jz : inR rs j := by
        rcases fst_mem hf with q | q
        · cases q
        · exact ky.lo j (List.mem_of_mem_take q)
      refine s_if (b := bef rs z j) e (et_orF (et_is (by walk_at "et") (by simp [oI])) (et_B (ev_call0 (by walk_at "ea") (v_before hk iz jz)))) (fun hb H2 e2 _ => ?_) (fun hb H2 e2 _ => ?_)
      · refine s_asg e2 (by walk_at "ev") fun H3 e3 _ => ⟨some (.int z), ?_, e3⟩
        rw [step, hf]
        simp only [fstStep, hb, if_true, oI]
        rfl
      · refine nextI ⟨some (.int z), ?_, e2⟩
        rw [step, hf]
        simp only [fstStep, hb, oI]
        rfl
  · rintro σ' H' ⟨v, rfl, e⟩
    rw [List.length_map, List.take_length]
    dsimp only
    exact s_ret e (by walk_at "ev") k
end
end Fp

namespace Fp
open PySem PySem.Spec PyProof.Rows L2 LamX
/-! ### data compared -/
mutual
theorem Dp.mv {K : PySem.W.Frag} {H H' : Hp} (m : ∀ a xs, SqL K H a xs → SqL K H' a xs) (t : ∀ a xs, SqT K H a xs → SqT K H' a xs) : ∀ {v : V} {d : PyData}, Dp K H v d → Dp K H' v d
  | _, _, .non => .non
  | _, _, .bl b => .bl b
  | _, _, .int i => .int i
  | _, _, .str x => .str x
  | _, _, .lst h a => .lst (m _ _ h) (DpAll.mv m t a)
  | _, _, .tup h a => .tup (t _ _ h) (DpAll.mv m t a)
theorem DpAll.mv {K : PySem.W.Frag} {H H' : Hp} (m : ∀ a xs, SqL K H a xs → SqL K H' a xs) (t : ∀ a xs, SqT K H a xs → SqT K H' a xs) : ∀ {vs : List V} {ds : List PyData}, DpAll K H vs ds → DpAll K H' vs ds
  | _, _, .nil => .nil
  | _, _, .cons h a => .cons (Dp.mv m t h) (DpAll.mv m t a)
end
section
variable {T : List (Addr × Str)} {K : PySem.W.Frag} {σ : L2.St} {H H' : Hp} {ta tb te : TE} {x y z v : V} {a : Addr} {d e : PyData} {ns ms : List Int}
theorem _root_.L2.Dp.ex (m : Ex T H H') (h : Dp K H v d) : Dp K H' v d := Dp.mv (fun _ _ => m.l) (fun _ _ => m.t) h
/-- a list of whole numbers -/
def dI (ns : List Int) : PyData := .list (ns.map PyData.int)
theorem dp_all : ∀ ns : List Int, DpAll K H (ns.map V.int) (ns.map PyData.int)
  | [] => .nil
  | n :: ns => .cons (.int n) (dp_all ns)
theorem dp_l (h : SqL K H a (ns.map V.int)) : Dp K H (.ref a) (dI ns) := .lst h (dp_all ns)
theorem dp_n (h : H a = some (.lst (ns.map V.int))) : Dp K H (.ref a) (dI ns) := dp_l (.inl (.inl h))
theorem lay_ints : ∀ ns : List Int, PyData.canLayAll0 (ns.map PyData.int) = true ∧ PyData.depthAll (ns.map PyData.int) = 0
  | [] => ⟨rfl, rfl⟩
  | n :: ns => by
    have ih := lay_ints ns
    constructor
    · simp [PyData.canLayAll0, PyData.canLay0, ih.1]
    · simp [PyData.depthAll, PyData.depth, ih.2]
theorem lay_dI : PyData.canLay0 (dI ns) = true ∧ PyData.depth (dI ns) = 1 := by
  have ih := lay_ints ns
  exact ⟨by unfold dI PyData.canLay0; exact ih.1, by unfold dI PyData.depth; rw [ih.2]⟩
theorem sh_dI : SeqAt.shaped (dI ns) = true := by
  have h := lay_dI (ns := ns)
  unfold SeqAt.shaped
  rw [h.1, h.2]
  decide
theorem eqv_all : ∀ ns ms : List Int, PyData.eqvAll (ns.map PyData.int) (ms.map PyData.int) = decide (ns = ms)
  | [], [] => rfl
  | [], _ :: _ => rfl
  | _ :: _, [] => rfl
  | n :: ns, m :: ms => by
    simp only [List.map_cons, PyData.eqvAll, PyData.eqv, eqv_all ns ms, List.cons.injEq, Bool.decide_and]
    rfl
theorem eqv_dI : PyData.eqv (dI ns) (dI ms) = decide (ns = ms) := by
  unfold dI PyData.eqv
  exact eqv_all ns ms
theorem rv_eqD (h1 : Dp K H x d) (h2 : Dp K H y e) (s1 : SeqAt.shaped d = true) (s2 : SeqAt.shaped e = true) : RV T (rEqD K) x y H (.bl (PyData.eqv d e)) := fun H1 m _ q => ⟨d, e, h1.ex m, h2.ex m, s1, s2, q H1 Mv.refl⟩
theorem rv_neD (h1 : Dp K H x d) (h2 : Dp K H y e) (s1 : SeqAt.shaped d = true) (s2 : SeqAt.shaped e = true) : RV T (rNeD K) x y H (.bl (!PyData.eqv d e)) := fun H1 m _ q => ⟨d, e, h1.ex m, h2.ex m, s1, s2, q H1 Mv.refl⟩
/-- the same data on both sides -/
theorem rv_eqDt (h1 : Dp K H x d) (h2 : Dp K H y d) (s1 : SeqAt.shaped d = true) : RV T (rEqD K) x y H (.bl true) := fun H1 m Q q => rv_eqD h1 h2 s1 s1 H1 m Q fun H2 e2 => by
  rw [SeqAt.eqv_refl d (SeqAt.canLay_of_shaped s1)]
  exact q H2 e2
theorem rv_neDf (h1 : Dp K H x d) (h2 : Dp K H y d) (s1 : SeqAt.shaped d = true) : RV T (rNeD K) x y H (.bl false) := fun H1 m Q q => rv_neD h1 h2 s1 s1 H1 m Q fun H2 e2 => by
  rw [SeqAt.eqv_refl d (SeqAt.canLay_of_shaped s1)]
  exact q H2 e2
theorem rv_eqDI (h1 : Dp K H x (dI ns)) (h2 : Dp K H y (dI ms)) : RV T (rEqD K) x y H (.bl (decide (ns = ms))) := fun H1 m Q q => rv_eqD h1 h2 sh_dI sh_dI H1 m Q fun H2 e2 => by
  rw [eqv_dI]
  exact q H2 e2
/-! ### a list made of a list -/
variable {α : Type} {tl tt : TE} {t : TT} {vs : List Nat} {j : Nat}
theorem el_lc {as : List α} {g f : α → V} {b : α → Bool} (ha : Ev T tl σ H (.ref a)) (hx : SqL K H a (as.map g)) (hz : as.length ≤ 100000) (hw : ∀ x, wipe ((wipe σ vs).set j (some x)) vs = wipe σ vs)
    (ht : ∀ z ∈ as, EvT T t ((wipe σ vs).set j (some (g z))) H (b z)) (he : ∀ z ∈ as, b z = true → Ev T te ((wipe σ vs).set j (some (g z))) H (f z)) : EvL T (tLc (iList K tl) (gName j) t te vs) σ H ((as.filter b).map f) := fun H1 e Q q =>
  ha H1 e _ fun H2 e2 => ⟨a, rfl, ⟨as.map g, (e.trans e2).l hx⟩, fun D hD => by
    have e3 : Ex T H2 (upd H2 D (.lst [])) := Mv.new hD
    refine lc_list (fun i H' => Ex T H2 H' ∧ H' D = some (.lst (((as.take i).filter b).map f))) ⟨e3, upd_same⟩ (fun i H' _ p => ((e.trans e2).trans p.1).l hx) (fun i x H' hi p => ?_) (fun H' p => ?_)
    · rw [List.getElem?_map] at hi
      cases hj : as[i]? with
      | none => rw [hj] at hi; cases hi
      | some z =>
        rw [hj] at hi
        obtain rfl := Option.some.inj hi
        have hm := List.mem_of_getElem? hj
        have ts : (as.take (i + 1)).filter b = (as.take i).filter b ++ (if b z = true then [z] else []) := by
          rw [List.take_add_one, hj, List.filter_append]
          congr 1
          cases bz : b z <;> simp [bz]
        refine ⟨hw _, ht z hm H' ((e.trans e2).trans p.1) _ fun H3 e3' => ?_⟩
        cases bz : b z with
        | false =>
          rw [bz] at ts
          refine ⟨p.1.trans e3', ?_⟩
          rw [e3'.at p.2, ts]
          simp
        | true =>
          rw [bz] at ts
          refine he z hm bz H3 (((e.trans e2).trans p.1).trans e3') _ fun H4 e4 => ?_
          have k4 := (e3'.trans e4).at p.2
          refine ⟨_, k4, ?_, ((p.1.trans e3').trans e4).set (.inr (.of hD)) k4, ?_⟩
          · refine Nat.lt_of_le_of_lt (Nat.le_trans ?_ (?_ : i ≤ 100000)) (by decide)
            · rw [List.length_map]
              exact Nat.le_trans (List.length_filter_le _ _) (by rw [List.length_take]; exact Nat.min_le_left _ _)
            · have := (List.getElem?_eq_some_iff.mp hj).1
              omega
          · rw [upd_same, ts]
            simp
    · rw [List.length_map, List.take_length] at p
      exact q _ H' (e2.trans p.1) ⟨D, rfl, e2.dm D (.of hD), p.2⟩⟩
theorem et_yes : EvT T tYes σ H true := fun H1 _ _ q => q H1 Mv.refl
theorem el_lcA {as : List α} {g f : α → V} (ha : Ev T tl σ H (.ref a)) (hx : SqL K H a (as.map g)) (hz : as.length ≤ 100000) (hw : ∀ x, wipe ((wipe σ vs).set j (some x)) vs = wipe σ vs)
    (he : ∀ z ∈ as, Ev T te ((wipe σ vs).set j (some (g z))) H (f z)) : EvL T (tLc (iList K tl) (gName j) tYes te vs) σ H (as.map f) := by
  have q := el_lc (b := fun _ => true) (t := tYes) (te := te) (f := f) ha hx hz hw (fun _ _ => et_yes) (fun z hm _ => he z hm)
  rwa [List.filter_eq_self.mpr (fun _ _ => rfl)] at q
theorem el_lcR {n : Nat} {f : Nat → V} {b : Nat → Bool} {ta : TA} (ha : EvA T ta σ H [.int n]) (hz : n ≤ 100000) (hw : ∀ x, wipe ((wipe σ vs).set j (some x)) vs = wipe σ vs)
    (ht : ∀ z, z < n → EvT T t ((wipe σ vs).set j (some (.int (z : Int)))) H (b z)) (he : ∀ z, z < n → b z = true → Ev T te ((wipe σ vs).set j (some (.int (z : Int)))) H (f z)) : EvL T (tLc (iRng1 ta) (gName j) t te vs) σ H (((List.range n).filter b).map f) := fun H1 e Q q =>
  ha H1 e _ fun H2 e2 => ⟨n, rfl, by omega, by omega, fun D hD => by
    have e3 : Ex T H2 (upd H2 D (.lst [])) := Mv.new hD
    refine lc_range (lo := 0) (n := n) (fun i H' => Ex T H2 H' ∧ H' D = some (.lst (((List.range i).filter b).map f))) ⟨e3, upd_same⟩ (fun i H' hi p => ?_) (fun H' p => ?_)
    · have z0 : (0 : Int) + (i : Int) = (i : Int) := Int.zero_add _
      rw [z0]
      have ts : (List.range (i + 1)).filter b = (List.range i).filter b ++ (if b i = true then [i] else []) := by
        rw [List.range_succ, List.filter_append]
        congr 1
        cases bz : b i <;> simp [bz]
      refine ⟨hw _, ht i hi H' ((e.trans e2).trans p.1) _ fun H3 e3' => ?_⟩
      cases bz : b i with
      | false =>
        rw [bz] at ts
        refine ⟨p.1.trans e3', ?_⟩
        rw [e3'.at p.2, ts]
        simp
      | true =>
        rw [bz] at ts
        refine he i hi bz H3 (((e.trans e2).trans p.1).trans e3') _ fun H4 e4 => ?_
        have k4 := (e3'.trans e4).at p.2
        refine ⟨_, k4, ?_, ((p.1.trans e3').trans e4).set (.inr (.of hD)) k4, ?_⟩
        · refine Nat.lt_of_le_of_lt (Nat.le_trans ?_ (?_ : i ≤ 100000)) (by decide)
          · rw [List.length_map]
            exact Nat.le_trans (List.length_filter_le _ _) (by rw [List.length_range]; exact Nat.le_refl _)
          · omega
        · rw [upd_same, ts]
          simp
    · exact q _ H' (e2.trans p.1) ⟨D, rfl, e2.dm D (.of hD), p.2⟩⟩
end
end Fp

namespace Fp
open PySem PySem.Spec PyProof.Rows L2 LamX
/-! ### the law of the order: what its helpers tell -/
def cellAt (ns : List Int) (k : Int) : Int := if k < ns.length then rk ns k else 0
def lrank (c w : Int) : Int := if w = 0 then c % 4 else if w = 1 then c % 1000000000000000000000000000000000000000000000000000000000000 else
  if w = 2 then 1000000000000000000000000000000000000000000000000000000000000 - 1 - c % 3 else c % 5 * 100000000000000000000000000000000000000000000000000000000000 + c / 5 % 3
def sp_l_cell_at (K : PySem.W.Frag) (T : List (Addr × Str)) : Sp := fun vs H Q _ => ∃ p k ns, vs = [.ref p, .int k] ∧ SqL K H p (List.map V.int ns) ∧ 0 ≤ k ∧ ∀ H', Ex T H H' → Q (.int (cellAt ns k)) H'
def sp_l_whole (_K : PySem.W.Frag) (T : List (Addr × Str)) : Sp := fun vs H Q _ => ∃ x, vs = [x] ∧ kd H x ≠ "" ∧ ∀ H', Ex T H H' → Q (.bl (isI x)) H'
def sp_l_rank (_K : PySem.W.Frag) (T : List (Addr × Str)) : Sp := fun vs H Q _ => ∃ c w, vs = [.int c, .int w] ∧ ∀ H', Ex T H H' → Q (.int (lrank c w)) H'
/-- lines, each once, below n -/
def Lns (n : Nat) (ls : List Int) : Prop := ls.Nodup ∧ ∀ x ∈ ls, 0 ≤ x ∧ x < n
def newLns (n : Nat) : Hp → V → Hp → Prop := fun H v H' => ∃ ls, Lns n ls ∧ newL (ls.map V.int) H v H'
def sp_l_lines (K : PySem.W.Frag) (T : List (Addr × Str)) : Sp := fun vs H Q _ => ∃ c w ns, vs = [.ref c, .int w] ∧ SqL K H c (List.map V.int ns) ∧ List.length ns ≤ 60 ∧ ∀ v H', Ex T H H' → newLns (List.length ns) H v H' → Q v H'
def sp_l_comes (K : PySem.W.Frag) (T : List (Addr × Str)) : Sp := sp_before K T
def sp_l_says (K : PySem.W.Frag) (T : List (Addr × Str)) : Sp := fun vs H Q _ => ∃ r i j rs, vs = [.ref r, .int i, .int j] ∧ SqL K H r (List.map V.int rs) ∧ inR rs i ∧ inR rs j ∧ ∀ H', Ex T H H' → Q (.bl true) H'
def sp_l_row (K : PySem.W.Frag) (T : List (Addr × Str)) : Sp := fun vs H Q _ => ∃ r l f rs ls fs, vs = [.ref r, .ref l, .ref f] ∧ Kys K H l r rs ls ∧ H f = some (.lst (List.map V.int fs)) ∧ List.Perm fs ls ∧ List.Pairwise (fun i j => bef rs i j = true) fs ∧ List.length ls ≤ 60 ∧ ∀ H', Ex T H H' → Q (.bl true) H'
def sp_l_first (K : PySem.W.Frag) (T : List (Addr × Str)) : Sp := fun vs H Q _ => ∃ o p fs, vs = [oI o, .ref p] ∧ H p = some (.lst (List.map V.int fs)) ∧ List.head? fs = o ∧ ∀ H', Ex T H H' → Q (.bl true) H'
def sp_l_numbers (_K : PySem.W.Frag) (T : List (Addr × Str)) : Sp := fun vs H Q _ => ∃ c, vs = [.int c] ∧ ∀ H', Ex T H H' → Q (.bl true) H'
theorem len_l_cell_at {K : PySem.W.Frag} {T : List (Addr × Str)} : ∀ vs H Q E, sp_l_cell_at K T vs H Q E → vs.length = 2 := fun vs H Q E h => by
  obtain ⟨_, _, _, rfl, _⟩ := h
  exact rfl
theorem len_l_whole {K : PySem.W.Frag} {T : List (Addr × Str)} : ∀ vs H Q E, sp_l_whole K T vs H Q E → vs.length = 1 := fun vs H Q E h => by
  obtain ⟨_, rfl, _⟩ := h
  exact rfl
theorem len_l_rank {K : PySem.W.Frag} {T : List (Addr × Str)} : ∀ vs H Q E, sp_l_rank K T vs H Q E → vs.length = 2 := fun vs H Q E h => by
  obtain ⟨_, _, rfl, _⟩ := h
  exact rfl
theorem len_l_lines {K : PySem.W.Frag} {T : List (Addr × Str)} : ∀ vs H Q E, sp_l_lines K T vs H Q E → vs.length = 2 := fun vs H Q E h => by
  obtain ⟨_, _, _, rfl, _⟩ := h
  exact rfl
theorem len_l_comes {K : PySem.W.Frag} {T : List (Addr × Str)} : ∀ vs H Q E, sp_l_comes K T vs H Q E → vs.length = 3 := fun vs H Q E h => by
  obtain ⟨_, _, _, _, rfl, _⟩ := h
  exact rfl
theorem len_l_says {K : PySem.W.Frag} {T : List (Addr × Str)} : ∀ vs H Q E, sp_l_says K T vs H Q E → vs.length = 3 := fun vs H Q E h => by
  obtain ⟨_, _, _, _, rfl, _⟩ := h
  exact rfl
theorem len_l_row {K : PySem.W.Frag} {T : List (Addr × Str)} : ∀ vs H Q E, sp_l_row K T vs H Q E → vs.length = 3 := fun vs H Q E h => by
  obtain ⟨_, _, _, _, _, _, rfl, _⟩ := h
  exact rfl
theorem len_l_first {K : PySem.W.Frag} {T : List (Addr × Str)} : ∀ vs H Q E, sp_l_first K T vs H Q E → vs.length = 2 := fun vs H Q E h => by
  obtain ⟨_, _, _, rfl, _⟩ := h
  exact rfl
theorem len_l_numbers {K : PySem.W.Frag} {T : List (Addr × Str)} : ∀ vs H Q E, sp_l_numbers K T vs H Q E → vs.length = 1 := fun vs H Q E h => by
  obtain ⟨_, rfl, _⟩ := h
  exact rfl
section
variable {K : PySem.W.Frag} {T : List (Addr × Str)} {H : Hp} {Q : VK} {E : XK} {vs : List V}
theorem v_cell_at {p : Addr} {k : Int} {ns : List Int} (h : SqL K H p (ns.map V.int)) (h0 : 0 ≤ k) : SpV T (sp_l_cell_at K T) [.ref p, .int k] H (.int (cellAt ns k)) := fun H1 e Q q E => ⟨p, k, ns, rfl, e.l h, h0, q⟩
theorem v_whole {x : V} (h : kd H x ≠ "") : SpV T (sp_l_whole K T) [x] H (.bl (isI x)) := fun H1 e Q q E => ⟨x, rfl, by rw [kd_ex e rfl h]; exact h, q⟩
theorem v_wholeI {i : Int} : SpV T (sp_l_whole K T) [.int i] H (.bl true) := v_whole (x := .int i) (by simp [kd])
theorem v_is_wholeI {i : Int} : SpV T (sp_is_whole K T) [.int i] H (.bl true) := v_is_whole (x := .int i) (by simp [kd])
theorem v_rank {c w : Int} : SpV T (sp_l_rank K T) [.int c, .int w] H (.int (lrank c w)) := fun H1 e Q q E => ⟨c, w, rfl, q⟩
theorem v_lines {c : Addr} {w : Int} {ns : List Int} (h : SqL K H c (ns.map V.int)) (hz : ns.length ≤ 60) : SpR T (sp_l_lines K T) [.ref c, .int w] H (newLns ns.length) := fun H1 e Q q E => ⟨c, w, ns, rfl, e.l h, hz, q⟩
theorem v_comes {r : Addr} {rs : List Int} {i j : Int} (h : SqL K H r (rs.map V.int)) (hi : inR rs i) (hj : inR rs j) : SpV T (sp_l_comes K T) [.ref r, .int i, .int j] H (.bl (bef rs i j)) := v_before h hi hj
theorem v_says {r : Addr} {rs : List Int} {i j : Int} (h : SqL K H r (rs.map V.int)) (hi : inR rs i) (hj : inR rs j) : SpV T (sp_l_says K T) [.ref r, .int i, .int j] H (.bl true) := fun H1 e Q q E => ⟨r, i, j, rs, rfl, e.l h, hi, hj, q⟩
theorem v_row {r l f : Addr} {rs ls fs : List Int} (h : Kys K H l r rs ls) (hf : H f = some (.lst (fs.map V.int))) (hp : fs.Perm ls) (ho : fs.Pairwise (fun i j => bef rs i j = true)) (hz : ls.length ≤ 60) : SpV T (sp_l_row K T) [.ref r, .ref l, .ref f] H (.bl true) := fun H1 e Q q E => ⟨r, l, f, rs, ls, fs, rfl, h.ex e, e.at hf, hp, ho, hz, q⟩
theorem v_first {o : Option Int} {p : Addr} {fs : List Int} (hf : H p = some (.lst (fs.map V.int))) (ho : fs.head? = o) : SpV T (sp_l_first K T) [oI o, .ref p] H (.bl true) := fun H1 e Q q E => ⟨o, p, fs, rfl, e.at hf, ho, q⟩
theorem v_numbers {c : Int} : SpV T (sp_l_numbers K T) [.int c] H (.bl true) := fun H1 e Q q E => ⟨c, rfl, q⟩
end
def r_l_cell_at (K : PySem.W.Frag) (T : List (Addr × Str)) : TS :=
  (tSeq (tIfS (tTest (tOp oLt (tVar 1) (tCB (rLen K) (tCons (tVar 0) tNil)))) (tRet (tOp (rIxL K) (tVar 0) (tVar 1))) tNext)
  (tRet (tC (.int 0))))
def r_l_whole (K : PySem.W.Frag) (T : List (Addr × Str)) : TS :=
  (tRet (tAndV (tCB rIs (tCons (tVar 0) (tCons (tC (.ty "int")) tNil))) (tNotV (tCB rIs (tCons (tVar 0) (tCons (tC (.ty "bool")) tNil))))))
def r_l_rank (K : PySem.W.Frag) (T : List (Addr × Str)) : TS :=
  (tSeq (tIfS (tTest (tOp rEq (tVar 1) (tC (.int 0)))) (tRet (tOp oMod (tVar 0) (tC (.int 4)))) tNext)
  (tSeq (tIfS (tTest (tOp rEq (tVar 1) (tC (.int 1)))) (tRet (tOp oMod (tVar 0) (tOp oPow (tC (.int 10)) (tC (.int 60))))) tNext)
  (tSeq (tIfS (tTest (tOp rEq (tVar 1) (tC (.int 2)))) (tRet (tOp oSub (tOp oSub (tOp oPow (tC (.int 10)) (tC (.int 60))) (tC (.int 1))) (tOp oMod (tVar 0) (tC (.int 3))))) tNext)
  (tRet (tOp oAdd (tOp oMul (tOp oMod (tVar 0) (tC (.int 5))) (tOp oPow (tC (.int 10)) (tC (.int 59)))) (tOp oMod (tOp oDiv (tVar 0) (tC (.int 5))) (tC (.int 3))))))))
def r_l_lines (K : PySem.W.Frag) (T : List (Addr × Str)) : TS :=
  (tSeq (tAsg (tLst tNil) (gName 2))
  (tSeq (tFor (iRng1 (tCons (tCB (rLen K) (tCons (tVar 0) tNil)) tNil)) (gName 3) (tSeq (tAsg (tOp oMod (tOp oMul (tOp oAdd (tOp oAdd (tOp oMod (tOp (rIxL K) (tVar 0) (tVar 3)) (tC (.int 1000003))) (tOp oMul (tOp oMul (tC (.int 31)) (tVar 3)) (tVar 3))) (tC (.int 1))) (tC (.int 48271))) (tC (.int 2147483629))) (gName 4))
  (tSeq (tAsg (tOp oMod (tOp oMul (tVar 4) (tVar 4)) (tC (.int 2147483587))) (gName 4))
  (tIfS (tTest (tOp oGe (tOp oMod (tVar 4) (tC (.int 4))) (tVar 1))) (tDrop (tBM K "list" rInsert (tVar 2) (tCons (tOp oMod (tOp oDiv (tVar 4) (tC (.int 4))) (tOp oAdd (tCB (rLen K) (tCons (tVar 2) tNil)) (tC (.int 1)))) (tCons (tVar 3) tNil)))) tNext))))
  (tRet (tVar 2))))
def r_l_comes (K : PySem.W.Frag) (T : List (Addr × Str)) : TS :=
  (tRet (tOrV (tOp oLt (tOp (rIxL K) (tVar 0) (tVar 1)) (tOp (rIxL K) (tVar 0) (tVar 2))) (tAndV (tOp rEq (tOp (rIxL K) (tVar 0) (tVar 1)) (tOp (rIxL K) (tVar 0) (tVar 2))) (tOp oLt (tVar 1) (tVar 2)))))
def r_l_says (K : PySem.W.Frag) (T : List (Addr × Str)) : TS :=
  (tSeq (tAsg (tCall (sp_before K T) [] E0 (tCons (tVar 0) (tCons (tVar 1) (tCons (tVar 2) tNil)))) (gName 3))
  (tRet (tAndV (tCB rIs (tCons (tVar 3) (tCons (tC (.ty "bool")) tNil))) (tOp rEq (tVar 3) (tCall (sp_l_comes K T) [] E0 (tCons (tVar 0) (tCons (tVar 1) (tCons (tVar 2) tNil))))))))
def r_l_row (K : PySem.W.Frag) (T : List (Addr × Str)) : TS :=
  (tSeq (tIfS (tOr (tNot (tB (tCB rIs (tCons (tVar 2) (tCons (tC (.ty "list")) tNil))))) (tTest (tOp rNe (tCB (rLen K) (tCons (tVar 2) tNil)) (tCB (rLen K) (tCons (tVar 1) tNil))))) (tRet (tC (.bl false))) tNext)
  (tSeq (tFor (iRng1 (tCons (tCB (rLen K) (tCons (tVar 2) tNil)) tNil)) (gName 3) (tSeq (tIfS (tOr (tNot (tB (tCall (sp_l_whole K T) [] E0 (tCons (tOp (rIxL K) (tVar 2) (tVar 3)) tNil)))) (tTest (tOp (rIn K true) (tOp (rIxL K) (tVar 2) (tVar 3)) (tVar 1)))) (tRet (tC (.bl false))) tNext)
  (tIfS (tAnd (tTest (tOp oGt (tVar 3) (tC (.int 0)))) (tNot (tB (tCall (sp_l_comes K T) [] E0 (tCons (tVar 0) (tCons (tOp (rIxL K) (tVar 2) (tOp oSub (tVar 3) (tC (.int 1)))) (tCons (tOp (rIxL K) (tVar 2) (tVar 3)) tNil))))))) (tRet (tC (.bl false))) tNext)))
  (tRet (tC (.bl true)))))
def r_l_first (K : PySem.W.Frag) (T : List (Addr × Str)) : TS :=
  (tSeq (tIfS (tTest (tOp (rEqD K) (tVar 1) (tLst tNil))) (tRet (tOp oIsN (tVar 0) (tC .non))) tNext)
  (tRet (tAndV (tCall (sp_l_whole K T) [] E0 (tCons (tVar 0) tNil)) (tOp rEq (tVar 0) (tOp (rIxL K) (tVar 1) (tC (.int 0)))))))
def r_l_numbers (K : PySem.W.Frag) (T : List (Addr × Str)) : TS :=
  (tSeq (tAsg (tLst (tCons (tC (.int 0)) (tCons (tC (.int 1)) (tCons (tUn (rU fun i => .int (-i)) (tC (.int 1))) (tCons (tOp oPow (tC (.int 10)) (tC (.int 60))) (tCons (tC (.bl true)) (tCons (tC (.bl false)) (tCons (tC .non) (tCons (tC (.str "1")) (tCons (tC (.str "")) (tCons (tLst (tCons (tC (.int 1)) tNil)) (tCons (tTup (tCons (tC (.int 1)) tNil)) (tCons (tLst tNil) (tCons tDNewK tNil)))))))))))))) (gName 1))
  (tSeq (tAsg (tCall (sp_is_whole K T) [] E0 (tCons (tOp (rIxL K) (tVar 1) (tOp oMod (tVar 0) (tC (.int 13)))) tNil)) (gName 2))
  (tSeq (tIfS (tOr (tNot (tB (tCB rIs (tCons (tVar 2) (tCons (tC (.ty "bool")) tNil))))) (tTest (tOp rNe (tVar 2) (tOp oLt (tOp oMod (tVar 0) (tC (.int 13))) (tC (.int 4)))))) (tRet (tC (.bl false))) tNext)
  (tRet (tOp rIsB (tCall (sp_is_whole K T) [] E0 (tCons (tOp oSub (tOp oMod (tOp oDiv (tVar 0) (tC (.int 13))) (tOp oAdd (tOp oPow (tC (.int 10)) (tC (.int 60))) (tC (.int 1)))) (tOp oMul (tC (.int 5)) (tOp oPow (tC (.int 10)) (tC (.int 59))))) tNil)) (tC (.bl true)))))))
def r_law (K : PySem.W.Frag) (T : List (Addr × Str)) : TS :=
  (tSeq (tAsg (tSl (rSlL K) (tVar 0) (tPart (tC (.int 3))) (tPart (tC (.int 63)))) (gName 1))
  (Evl.tCut (tIfS (tTest (tOp (rEqD K) (tVar 1) (tLst tNil))) (tAsg (tLst (tCons (tC (.int 0)) tNil)) (gName 1)) tNext)
  (tSeq (tAsg (tLc (iList K (tVar 1)) (gName 7) tYes (tCall (sp_l_rank K T) [] E0 (tCons (tVar 7) (tCons (tOp oMod (tCall (sp_l_cell_at K T) [] E0 (tCons (tVar 0) (tCons (tC (.int 0)) tNil))) (tC (.int 4))) tNil))) [7]) (gName 2))
  (tSeq (tAsg (tCall (sp_l_lines K T) [] E0 (tCons (tVar 1) (tCons (tOp (rIxL K) (tLst (tCons (tC (.int 0)) (tCons (tC (.int 0)) (tCons (tC (.int 1)) (tCons (tC (.int 2)) (tCons (tC (.int 4)) tNil)))))) (tOp oMod (tCall (sp_l_cell_at K T) [] E0 (tCons (tVar 0) (tCons (tC (.int 1)) tNil))) (tC (.int 5)))) tNil))) (gName 3))
  (tSeq (tIfS (tNot (tB (tCall (sp_l_numbers K T) [] E0 (tCons (tCall (sp_l_cell_at K T) [] E0 (tCons (tVar 0) (tCons (tC (.int 2)) tNil))) tNil)))) (tRet (tC (.bl false))) tNext)
  (tSeq (tFor (iRng1 (tCons (tCB (rLen K) (tCons (tVar 3) tNil)) tNil)) (gName 4) (tSeq (tIfS (tNot (tB (tCall (sp_l_says K T) [] E0 (tCons (tVar 2) (tCons (tOp (rIxL K) (tVar 3) (tVar 4)) (tCons (tOp (rIxL K) (tVar 3) (tVar 4)) tNil)))))) (tRet (tC (.bl false))) tNext)
  (tIfS (tOr (tNot (tB (tCall (sp_l_says K T) [] E0 (tCons (tVar 2) (tCons (tOp (rIxL K) (tVar 3) (tOp oSub (tVar 4) (tC (.int 1)))) (tCons (tOp (rIxL K) (tVar 3) (tVar 4)) tNil)))))) (tNot (tB (tCall (sp_l_says K T) [] E0 (tCons (tVar 2) (tCons (tOp (rIxL K) (tVar 3) (tVar 4)) (tCons (tOp (rIxL K) (tVar 3) (tOp oSub (tVar 4) (tC (.int 1)))) tNil))))))) (tRet (tC (.bl false))) tNext)))
  (tSeq (tAsg (tLst (tCons (tCB (rLst K) (tCons (tVar 2) tNil)) (tCons (tCB (rLst K) (tCons (tVar 3) tNil)) tNil))) (gName 5))
  (tSeq (tAsg (tCall (sp_in_order K T) [] E0 (tCons (tOp (rIxL K) (tVar 5) (tC (.int 0))) (tCons (tOp (rIxL K) (tVar 5) (tC (.int 1))) tNil))) (gName 6))
  (tSeq (tIfS (tOr (tNot (tB (tCall (sp_l_row K T) [] E0 (tCons (tVar 2) (tCons (tVar 3) (tCons (tVar 6) tNil)))))) (tNot (tB (tCall (sp_l_first K T) [] E0 (tCons (tCall (sp_first_of K T) [] E0 (tCons (tOp (rIxL K) (tVar 5) (tC (.int 0))) (tCons (tOp (rIxL K) (tVar 5) (tC (.int 1))) tNil))) (tCons (tVar 6) tNil)))))) (tRet (tC (.bl false))) tNext)
  (tSeq (tDrop (tBM K "list" rAppend (tVar 6) (tCons (tC (.int 0)) tNil)))
  (tRet (tOp (rEqD K) (tVar 5) (tLst (tCons (tVar 2) (tCons (tVar 3) tNil)))))))))))))))
end Fp
local macro_rules | `(tactic| walk_at "sp") => `(tactic| first | exact Fp.v_wholeI | exact Fp.v_is_wholeI | exact Fp.v_whole (by assumption) | exact Fp.v_is_whole (by assumption) | exact Fp.v_before (by walk_at "fact") (by assumption) (by assumption) | exact Fp.v_comes (by walk_at "fact") (by assumption) (by assumption) | exact Fp.v_says (by walk_at "fact") (by assumption) (by assumption) | exact Fp.v_cell_at (by walk_at "fact") (by decide) | exact Fp.v_rank | exact Fp.v_numbers)
namespace Fp
open PySem PySem.Spec PyProof.Rows L2 LamX
section
variable {K : PySem.W.Frag} {T : List (Addr × Str)} {H H0 : Hp} {Q : VK} {E : XK} {vs : List V}
theorem s_ins {σ : L2.St} {D : Ends} {ta tb te : TE} {l : Addr} {xs : List V} {i : Int} {v : V} (e : Ex T H0 H) (hl : H l = some (.lst xs)) (ha : Ev T ta σ H0 (.ref l)) (hi : Ev T tb σ H0 (.int i)) (h : Ev T te σ H0 v) (hz : xs.length < 100000) (h0 : 0 ≤ i) (h1 : i < 2 ^ 63) (k : ∀ H1, Ex T H0 H1 → Ex T H H1 → D.nx σ (upd H1 l (.lst (xs.take i.toNat ++ [v] ++ xs.drop i.toNat)))) :
    tDrop (tBM K "list" rInsert ta (tCons tb (tCons te tNil))) D σ H := ha H e _ fun H1 e1 =>
  ⟨.inl ⟨rfl, xs, .inl (.inl (e1.at hl))⟩, hi H1 (e.trans e1) _ fun H2 e2 => h H2 ((e.trans e1).trans e2) _ fun H3 e3 => ⟨l, xs, i, v, rfl, rfl, e3.at (e2.at (e1.at hl)), szl hz, h0, h1, k H3 (((e.trans e1).trans e2).trans e3) ((e1.trans e2).trans e3)⟩⟩
theorem p_l_cell_at (h : sp_l_cell_at K T vs H Q E) : r_l_cell_at K T { nx := fun _ H' => Q .non H', rt := Q } (start ["_law_script", "_law_k"] vs) H := by
  obtain ⟨p, k, ns, rfl, hp, h0, q⟩ := h
  unfold r_l_cell_at
  refine q_if (Mv.of T H) (by walk_at "et") (fun hb H1 e _ => ?_) (fun hb H1 e _ => ?_)
  · have hb := of_decide_eq_true hb
    refine s_ret e (ev_is (by walk_at "ev") ?_) q
    simp only [cellAt, hb, if_true]
  · have hb := of_decide_eq_false hb
    refine nextI ?_
    dsimp only
    refine s_ret e (ev_is (by walk_at "ev") ?_) q
    simp only [cellAt, hb, if_false]
theorem p_l_whole (h : sp_l_whole K T vs H Q E) : r_l_whole K T { nx := fun _ H' => Q .non H', rt := Q } (start ["_law_found"] vs) H := by
  obtain ⟨x, rfl, hx, k⟩ := h
  have a := (rfl : kd H x = kd H x)
  exact s_ret (Mv.of T H) (ev_is (ev_and (ev_cb (by walk_at "ea") (rc_is a hx (by decide))) fun _ => ev_not (ev_cb (by walk_at "ea") (rc_is a hx (by decide)))) (by rw [isI_kd])) k
theorem p_l_rank (h : sp_l_rank K T vs H Q E) : r_l_rank K T { nx := fun _ H' => Q .non H', rt := Q } (start ["_law_cell", "_law_way"] vs) H := by
  obtain ⟨c, w, rfl, k⟩ := h
  unfold r_l_rank
  refine q_if (Mv.of T H) (by walk_at "et") (fun hb H1 e _ => s_ret e (ev_is (by walk_at "ev") ?_) k) (fun hb H1 e _ => nextI ?_)
  · simp only [lrank, of_decide_eq_true hb, if_true]
  · have hb := of_decide_eq_false hb
    dsimp only
    refine q_if e (by walk_at "et") (fun hc H1 e _ => s_ret e (ev_is (by walk_at "ev") ?_) k) (fun hc H1 e _ => nextI ?_)
    · simp only [lrank, hb, of_decide_eq_true hc, if_true, if_false]
      rfl
    · have hc := of_decide_eq_false hc
      dsimp only
      refine q_if e (by walk_at "et") (fun hd H1 e _ => s_ret e (ev_is (by walk_at "ev") ?_) k) (fun hd H1 e _ => nextI ?_)
      · simp only [lrank, hb, hc, of_decide_eq_true hd, if_true, if_false]
        rfl
      · have hd := of_decide_eq_false hd
        dsimp only
        refine s_ret e (ev_is (by walk_at "ev") ?_) k
        simp only [lrank, hb, hc, hd, if_false]
theorem p_l_comes (h : sp_l_comes K T vs H Q E) : r_l_comes K T { nx := fun _ H' => Q .non H', rt := Q } (start ["_law_ranks", "_law_one", "_law_other"] vs) H := by
  obtain ⟨r, i, j, rs, rfl, hr, ⟨i0, i1⟩, ⟨j0, j1⟩, k⟩ := h
  unfold r_l_comes
  refine s_ret (Mv.of T H) (ev_is (by walk_at "ev") ?_) k
  simp [bef]
theorem p_l_says (h : sp_l_says K T vs H Q E) : r_l_says K T { nx := fun _ H' => Q .non H', rt := Q } (start ["_law_ranks", "_law_one", "_law_other", "_law_found"] vs) H := by
  obtain ⟨r, i, j, rs, rfl, hr, hi, hj, k⟩ := h
  unfold r_l_says
  refine q_asg (Mv.of T H) (by walk_at "ev") rfl fun H1 e1 _ => ?_
  refine s_ret e1 (ev_is (by walk_at "ev") ?_) k
  simp [isK]
end
end Fp

local macro_rules | `(tactic| walk_at "sp") => `(tactic| first | exact Fp.v_wholeI | exact Fp.v_is_wholeI | exact Fp.v_whole (by assumption) | exact Fp.v_is_whole (by assumption) | exact Fp.v_before (by walk_at "fact") (by assumption) (by assumption) | exact Fp.v_comes (by walk_at "fact") (by assumption) (by assumption) | exact Fp.v_says (by walk_at "fact") (by assumption) (by assumption) | exact Fp.v_cell_at (by walk_at "fact") (by decide) | exact Fp.v_rank | exact Fp.v_numbers)
namespace Fp
open PySem PySem.Spec PyProof.Rows L2 LamX
section
variable {K : PySem.W.Frag} {T : List (Addr × Str)} {H H0 : Hp} {Q : VK} {E : XK} {vs : List V}
theorem nd_len : ∀ (n : Nat) (ls : List Nat), ls.Nodup → (∀ x ∈ ls, x < n) → ls.length ≤ n
  | 0, [], _, _ => Nat.le_refl _
  | 0, a :: _, _, h => absurd (h a List.mem_cons_self) (Nat.not_lt_zero _)
  | n + 1, ls, nd, h => by
    by_cases hm : n ∈ ls
    · have ih := nd_len n (ls.erase n) (nd.erase n) fun x hx => by
        have z := (nd.mem_erase_iff).mp hx
        have := h x z.2
        omega
      rw [List.length_erase_of_mem hm] at ih
      omega
    · have := nd_len n ls nd fun x hx => by
        have := h x hx
        have : x ≠ n := fun e => hm (e ▸ hx)
        omega
      omega
theorem Lns.len {n : Nat} : ∀ {ls : List Int}, Lns n ls → ls.length ≤ n := fun {ls} h => by
  have h1 : (ls.map Int.toNat).Nodup := by
    refine List.pairwise_map.mpr (h.1.imp_of_mem fun {a b} ha hb ne e => ne ?_)
    have := h.2 a ha
    have := h.2 b hb
    omega
  have h2 := nd_len n _ h1 fun x hx => by
    obtain ⟨y, hy, rfl⟩ := List.mem_map.mp hx
    have := h.2 y hy
    omega
  rwa [List.length_map] at h2
theorem Lns.ins {n i : Nat} {ls : List Int} {m : Nat} (h : Lns i ls) (hi : i < n) : Lns (i + 1) (ls.take m ++ [(i : Int)] ++ ls.drop m) := by
  have hp : (ls.take m ++ [(i : Int)] ++ ls.drop m).Perm ((i : Int) :: ls) := by
    refine (List.perm_append_right_iff _ |>.mpr List.perm_append_comm).trans ?_
    rw [List.singleton_append, List.cons_append, List.take_append_drop]
  refine ⟨hp.nodup_iff.mpr (List.nodup_cons.mpr ⟨fun z => ?_, h.1⟩), fun x hx => ?_⟩
  · have := h.2 _ z
    omega
  · rcases List.mem_cons.mp (hp.mem_iff.mp hx) with z | z
    · omega
    · have := h.2 _ z
      omega
theorem p_l_lines (h : sp_l_lines K T vs H Q E) : r_l_lines K T { nx := fun _ H' => Q .non H', rt := Q } (start ["_law_cells", "_law_least", "_law_lines_here", "_law_k", "_law_number"] vs) H := by
  obtain ⟨c, w, ns, rfl, hc, hz, q⟩ := h
  unfold r_l_lines
  refine q_asgR (Mv.of T H) (el_lst ea_nil (by decide)) fun v H1 σ2 hs e1 _ hv => ?_
  obtain ⟨p, rfl, np, hp⟩ := hv
  subst hs
  refine s_forR (n := ns.length) e1 (by walk_at "ea") (by omega) (fun i σ' H' => ∃ ls v1 v2, σ' = [some (.ref c), some (.int w), some (.ref p), v1, v2] ∧ Ex T H H' ∧ H' p = some (.lst (ls.map V.int)) ∧ Lns i ls) (fun H2 e2 e3 => ⟨[], none, none, rfl, e2, e3.at hp, List.Pairwise.nil, fun _ z => by cases z⟩) ?_ ?_
  · rintro i σ' H' hi ⟨ls, v1, v2, rfl, e, hl, nl⟩
    have hi' : i < ns.length := by omega
    have hc' := e.l hc
    have ll := nl.len
    refine q_asg (Mv.of T H') (by walk_at "ev") rfl fun H2 e2 _ => ?_
    have hb : 0 ≤ ((rk ns i % 1000003 + 31 * (i : Int) * (i : Int) + 1) * 48271 % 2147483629) ∧ ((rk ns i % 1000003 + 31 * (i : Int) * (i : Int) + 1) * 48271 % 2147483629) < 2147483629 := ⟨Int.emod_nonneg _ (by decide), Int.emod_lt_of_pos _ (by decide)⟩
    generalize ((rk ns i % 1000003 + 31 * (i : Int) * (i : Int) + 1) * 48271 % 2147483629) = m at hb
    refine q_asg e2 (by walk_at "ev") rfl fun H3 e3 _ => ?_
    generalize m * m % 2147483587 = m2
    refine s_if e3 (by walk_at "et") (fun hb H4 e4 _ => ?_) (fun hb H4 e4 _ => nextI ?_)
    · have l0 : (0 : Int) < (ls.length : Int) + 1 := by omega
      have b0 := Int.emod_nonneg (m2 / 4) (Int.ne_of_gt l0)
      have b1 := Int.emod_lt_of_pos (m2 / 4) l0
      refine s_ins (v := .int i) (i := m2 / 4 % (ls.length + 1)) e4 (e4.at hl) (by walk_at "ev") ?_ (by walk_at "ev") (by rw [List.length_map]; omega) b0 (by omega) fun H5 e5 _ => ⟨ls.take (m2 / 4 % (ls.length + 1)).toNat ++ [(i : Int)] ++ ls.drop (m2 / 4 % (ls.length + 1)).toNat, _, _, rfl, (e.trans e5).set (.inr np) (e5.at hl), ?_, nl.ins hi'⟩
      · refine ev_op (by walk_at "ev") (ev_op (ev_cb (by walk_at "ea") (rc_lenI (.inl (.inl hl)))) (by walk_at "ev") (by walk_at "rv")) (by walk_at "rv")
      · rw [upd_same]
        simp
    · exact ⟨ls, _, _, rfl, e.trans e4, e4.at hl, nl.1, fun x hx => ⟨(nl.2 x hx).1, by have := (nl.2 x hx).2; omega⟩⟩
  · rintro σ' H' ⟨ls, v1, v2, rfl, e, hl, nl⟩
    dsimp only
    refine s_ret (Mv.of T H') (by walk_at "ev") fun H2 e2 => q _ _ (e.trans e2) ⟨ls, nl, p, rfl, np, e2.at hl⟩
theorem rk_el {ls : List Int} {i : Int} (h0 : 0 ≤ i) (h1 : i < ls.length) : rk ls i = ls[i.toNat]'(by omega) := by
  unfold rk
  rw [List.getD_eq_getElem?_getD, List.getElem?_eq_getElem (by omega)]
  rfl
theorem rk_at {ls : List Int} {i : Int} (h0 : 0 ≤ i) (h1 : i < ls.length) : rk ls i ∈ ls := by
  unfold rk
  rw [List.getD_eq_getElem?_getD, List.getElem?_eq_getElem (by omega)]
  exact List.getElem_mem _
theorem p_l_row (h : sp_l_row K T vs H Q E) : r_l_row K T { nx := fun _ H' => Q .non H', rt := Q } (start ["_law_ranks", "_law_lines_here", "_law_found", "_law_k"] vs) H := by
  obtain ⟨r, l, f, rs, ls, fs, rfl, ky, hf, hp, ho, hz, q⟩ := h
  unfold r_l_row
  have hl := ky.l
  have hr := ky.r
  have le := hp.length_eq
  have hf' : SqL K H f (fs.map V.int) := .inl (.inl hf)
  have he : decide ((fs.length : Int) = (ls.length : Int)) = true := decide_eq_true (by omega)
  refine q_if (b := false) (Mv.of T H) (et_is (by walk_at "et") ?_) (fun hb => nomatch hb) (fun _ H1 e1 _ => nextI ?_)
  · rw [he]
    rfl
  dsimp only
  refine s_forR (n := fs.length) e1 (ea_cons (ev_cb (by walk_at "ea") (rc_lenI hf')) ea_nil) ?_ (fun i σ' H' => ∃ v, σ' = [some (.ref r), some (.ref l), some (.ref f), v] ∧ Ex T H H') (fun H2 e2 _ => ⟨none, rfl, e2⟩) ?_ ?_
  · omega
  · rintro i σ' H' hi ⟨v, rfl, e⟩
    have m1 := rk_at (ls := fs) (i := i) (by omega) hi
    refine q_if (b := false) e (et_is (by walk_at "et") ?_) (fun hb => nomatch hb) (fun _ H2 e2 _ => nextI ?_)
    · simp [hp.mem_iff.mp m1]
    dsimp only
    refine s_if (b := false) e2 ?_ (fun hb => nomatch hb) (fun _ H3 e3 _ => nextI ⟨_, rfl, e3⟩)
    by_cases hi0 : 0 < (i : Int)
    · have m2 := rk_at (ls := fs) (i := (i : Int) - 1) (by omega) (by omega)
      have i1 : inR rs (rk fs i) := ky.lo _ (hp.mem_iff.mp m1)
      have i2 : inR rs (rk fs ((i : Int) - 1)) := ky.lo _ (hp.mem_iff.mp m2)
      refine et_is (by walk_at "et") ?_
      rw [rk_el (ls := fs) (i := i) (by omega) hi, rk_el (ls := fs) (i := (i : Int) - 1) (by omega) (by omega)]
      rw [List.pairwise_iff_getElem.mp ho ((i : Int) - 1).toNat (i : Int).toNat (by omega) (by omega) (by omega)]
      exact Bool.and_false _
    · exact et_andF (et_is (by walk_at "et") (decide_eq_false hi0))
  · rintro σ' H' ⟨v, rfl, e⟩
    dsimp only
    exact s_ret e (by walk_at "ev") q
theorem p_l_first (h : sp_l_first K T vs H Q E) : r_l_first K T { nx := fun _ H' => Q .non H', rt := Q } (start ["_law_found", "_law_row_here"] vs) H := by
  obtain ⟨o, p, fs, rfl, hf, ho, q⟩ := h
  unfold r_l_first
  refine q_if (b := decide (fs = [])) (Mv.of T H) (et_test (ev_opVL (by walk_at "ev") (el_lst ea_nil (by decide)) fun a H1 ha e => rv_eqDI (dp_n (e.at hf)) (dp_n (ns := []) ha))) (fun hb H1 e _ => ?_) (fun hb H1 e _ => nextI ?_)
  · have z := of_decide_eq_true hb
    subst z
    subst ho
    exact s_ret e (ev_is (by walk_at "ev") (by simp [oI])) q
  · have z := of_decide_eq_false hb
    dsimp only
    obtain ⟨x, xs, rfl⟩ := List.exists_cons_of_ne_nil z
    subst ho
    have hf' : SqL K H p ((x :: xs).map V.int) := .inl (.inl hf)
    refine s_ret e (ev_is (v := .bl (true && decide (x = x))) ?_ (by simp)) q
    exact ev_and (ev_call0 (by walk_at "ea") (v_wholeI (i := x))) fun _ => ev_op (by walk_at "ev") (ev_op (by walk_at "ev") (by walk_at "ev") (rv_ixI hf' (by decide) (by simp))) (by exact rv_eqI)
/-! ### things of all kinds -/
inductive Kin
  | v (x : V)
  | k (c : String)
def Kin.isI : Kin → Bool
  | .v x => Fp.isI x
  | .k _ => false
def Ks (H : Hp) : List Kin → List V → Prop
  | [], [] => True
  | .v x :: ks, y :: ys => y = x ∧ kd H x ≠ "" ∧ Ks H ks ys
  | .k c :: ks, y :: ys => (∃ a, y = .ref a) ∧ kd H y = c ∧ c ≠ "" ∧ Ks H ks ys
  | _, _ => False
theorem Ks.get {ks : List Kin} {ys : List V} (h : Ks H ks ys) {i : Nat} {z : Kin} (hz : ks[i]? = some z) : ∃ y, ys[i]? = some y ∧ kd H y ≠ "" ∧ isI y = z.isI := by
  induction ks generalizing ys i with
  | nil => cases hz
  | cons k ks ih =>
    cases ys with
    | nil => cases k <;> exact h.elim
    | cons y ys =>
      cases i with
      | zero =>
        obtain rfl := Option.some.inj hz
        cases k with
        | v x =>
          obtain ⟨rfl, h1, _⟩ := h
          exact ⟨_, rfl, h1, rfl⟩
        | k c =>
          obtain ⟨⟨a, rfl⟩, h1, h2, _⟩ := h
          exact ⟨_, rfl, by rw [h1]; exact h2, rfl⟩
      | succ i =>
        cases k with
        | v x => exact ih h.2.2 hz
        | k c => exact ih h.2.2.2 hz
theorem Ks.ex {H1 : Hp} {ks : List Kin} {ys : List V} (h : Ks H ks ys) (e : Ex T H H1) : Ks H1 ks ys := by
  induction ks generalizing ys with
  | nil => cases ys with | nil => trivial | cons _ _ => exact h
  | cons k ks ih =>
    cases ys with
    | nil => cases k <;> exact h.elim
    | cons y ys =>
      cases k with
      | v x => exact ⟨h.1, by rw [kd_ex e rfl h.2.1]; exact h.2.1, ih h.2.2⟩
      | k c => exact ⟨h.1, kd_ex e h.2.1 h.2.2.1, h.2.2.1, ih h.2.2.2⟩
theorem Ks.len {ks : List Kin} {ys : List V} (h : Ks H ks ys) : ys.length = ks.length := by
  induction ks generalizing ys with
  | nil => cases ys with | nil => rfl | cons _ _ => exact h.elim
  | cons k ks ih =>
    cases ys with
    | nil => cases k <;> exact h.elim
    | cons y ys =>
      cases k with
      | v x => rw [List.length_cons, List.length_cons, ih h.2.2]
      | k c => rw [List.length_cons, List.length_cons, ih h.2.2.2]
abbrev EvK (T : List (Addr × Str)) (ta : TA) (σ : L2.St) (H : Hp) (ks : List Kin) : Prop := EvAR T ta σ H fun _ vs H2 => Ks H2 ks vs
variable {σ : L2.St} {te : TE} {ta : TA}
theorem ek_nil : EvK T tNil σ H [] := fun H1 _ Q q => q [] H1 Mv.refl trivial
theorem ek_v {x : V} {ks : List Kin} (h : Ev T te σ H x) (hk : ∀ H1, Ex T H H1 → kd H1 x ≠ "") (hr : EvK T ta σ H ks) : EvK T (tCons te ta) σ H (.v x :: ks) := fun H1 e Q q =>
  h H1 e _ fun H2 e2 => hr H2 (e.trans e2) _ fun vs H3 e3 k => q _ H3 (e2.trans e3) ⟨rfl, hk H3 ((e.trans e2).trans e3), k⟩
theorem ek_k {R : Hp → V → Hp → Prop} {c : String} {ks : List Kin} (h : EvR T te σ H R) (hR : ∀ H1 v H2, R H1 v H2 → (∃ a, v = .ref a) ∧ kd H2 v = c) (hc : c ≠ "") (hr : EvK T ta σ H ks) : EvK T (tCons te ta) σ H (.k c :: ks) := fun H1 e Q q =>
  h H1 e _ fun v H2 e2 r => hr H2 (e.trans e2) _ fun vs H3 e3 k => q _ H3 (e2.trans e3) ⟨(hR _ _ _ r).1, kd_ex e3 (hR _ _ _ r).2 hc, hc, k⟩
theorem newL_kd {xs : List V} : ∀ H1 v H2, newL xs H1 v H2 → (∃ a, v = .ref a) ∧ kd H2 v = "list" := fun _ _ _ ⟨p, h1, _, h3⟩ => ⟨⟨p, h1⟩, by rw [h1]; exact kd_l h3⟩
theorem newU_kd {xs : List V} : ∀ H1 v H2, newU xs H1 v H2 → (∃ a, v = .ref a) ∧ kd H2 v = "tuple" := fun _ _ _ ⟨p, h1, _, h3⟩ => ⟨⟨p, h1⟩, by rw [h1]; exact kd_t h3⟩
def newD : Hp → V → Hp → Prop := fun H v H' => ∃ p, v = .ref p ∧ nod H p ∧ H' p = some (.dK [])
theorem er_newD : EvR T tDNewK σ H newD := fun H1 _ Q q p hp => q _ _ (Mv.new hp) ⟨p, rfl, .of hp, upd_same⟩
theorem newD_kd : ∀ H1 v H2, newD H1 v H2 → (∃ a, v = .ref a) ∧ kd H2 v = "dict" := fun _ _ _ ⟨p, h1, _, h3⟩ => ⟨⟨p, h1⟩, by rw [h1]; simp only [kd, h3]⟩
def newK (ks : List Kin) : Hp → V → Hp → Prop := fun _ v H' => ∃ p xs, v = .ref p ∧ Ks H' ks xs ∧ H' p = some (.lst xs)
theorem er_lstK {ks : List Kin} (h : EvK T ta σ H ks) (hz : ks.length ≤ 100000) : EvR T (tLst ta) σ H (newK ks) :=
  er_lst h fun H1 vs H2 _ _ k => ⟨by rw [k.len]; exact hz, fun p hp => ⟨p, vs, rfl, k.ex (T := T) (Mv.new hp), upd_same⟩⟩
theorem p_l_numbers (h : sp_l_numbers K T vs H Q E) : r_l_numbers K T { nx := fun _ H' => Q .non H', rt := Q } (start ["_law_cell", "_law_things", "_law_found"] vs) H := by
  obtain ⟨c, rfl, q⟩ := h
  unfold r_l_numbers
  refine q_asgR (Mv.of T H) (er_lstK (ek_v ev_c (fun _ _ => by simp [kd]) (ek_v ev_c (fun _ _ => by simp [kd]) (ek_v (ev_neg ev_c) (fun _ _ => by simp [kd]) (ek_v ev_p60 (fun _ _ => by simp [kd]) (ek_v ev_c (fun _ _ => by simp [kd]) (ek_v ev_c (fun _ _ => by simp [kd]) (ek_v ev_c (fun _ _ => by simp [kd]) (ek_v ev_c (fun _ _ => by simp [kd]) (ek_v ev_c (fun _ _ => by simp [kd]) (ek_k (el_lst (ea_cons ev_c ea_nil) (by decide)) newL_kd (by decide) (ek_k (eu_tup (ea_cons ev_c ea_nil) (by decide)) newU_kd (by decide) (ek_k (el_lst ea_nil (by decide)) newL_kd (by decide) (ek_k er_newD newD_kd (by decide) ek_nil))))))))))))) (by decide)) fun v H1 σ2 hs e1 _ hv => ?_
  obtain ⟨p, xs, rfl, hk, hp⟩ := hv
  subst hs
  have b0 := Int.emod_nonneg c (show (13 : Int) ≠ 0 by decide)
  have b1 := Int.emod_lt_of_pos c (show (0 : Int) < 13 by decide)
  suffices hh : ∃ (m : Nat) (z : Kin), c % 13 = m ∧ [Kin.v (.int 0), .v (.int 1), .v (.int (-1)), .v (.int 1000000000000000000000000000000000000000000000000000000000000), .v (.bl true), .v (.bl false), .v .non, .v (.str ("1" : Str)), .v (.str ("" : Str)), .k "list", .k "tuple", .k "list", .k "dict"][m]? = some z ∧ z.isI = decide ((m : Int) < 4) by
    obtain ⟨m, z, hm, hz, hi⟩ := hh
    obtain ⟨y, hy, hky, hiy⟩ := hk.get hz
    have hix : atI xs (c % 13) = some y := by rw [hm]; exact atI_nat hy
    have hp' : SqL K H1 p xs := .inl (.inl hp)
    refine q_asg (Mv.of T H1) (ev_call0 (ea_cons (ev_op (by walk_at "ev") (by walk_at "ev") (rv_ixL hp' hix)) ea_nil) (v_is_whole hky)) rfl fun H2 e2 _ => ?_
    rw [hiy, hi]
    refine q_if (b := false) e2 (et_is (by walk_at "et") ?_) (fun hb => nomatch hb) (fun _ H3 e3 _ => nextI ?_)
    · rw [hm]
      simp [isK]
    dsimp only
    exact s_ret (v := .bl true) (e1.trans e3) (ev_is (by walk_at "ev") (by simp)) q
  have cs : c % 13 = (0 : Nat) ∨ c % 13 = (1 : Nat) ∨ c % 13 = (2 : Nat) ∨ c % 13 = (3 : Nat) ∨ c % 13 = (4 : Nat) ∨ c % 13 = (5 : Nat) ∨ c % 13 = (6 : Nat) ∨ c % 13 = (7 : Nat) ∨ c % 13 = (8 : Nat) ∨ c % 13 = (9 : Nat) ∨ c % 13 = (10 : Nat) ∨ c % 13 = (11 : Nat) ∨ c % 13 = (12 : Nat) := by omega
  rcases cs with z | z | z | z | z | z | z | z | z | z | z | z | z <;> exact ⟨_, _, z, rfl, by decide⟩
end
end Fp

local macro_rules | `(tactic| walk_at "sp") => `(tactic| first | exact Fp.v_wholeI | exact Fp.v_is_wholeI | exact Fp.v_whole (by assumption) | exact Fp.v_is_whole (by assumption) | exact Fp.v_before (by walk_at "fact") (by assumption) (by assumption) | exact Fp.v_comes (by walk_at "fact") (by assumption) (by assumption) | exact Fp.v_says (by walk_at "fact") (by assumption) (by assumption) | exact Fp.v_cell_at (by walk_at "fact") (by decide) | exact Fp.v_rank | exact Fp.v_numbers)
namespace Fp
open PySem PySem.Spec PyProof.Rows L2 LamX
/-! ### the order, plainly -/
theorem ordLe_tr {rs : List Int} {a b c : Int} (h1 : ordLe rs a b = true) (h2 : ordLe rs b c = true) : ordLe rs a c = true := by
  simp only [ordLe, decide_eq_true_eq] at *
  omega
theorem ordLe_tot {rs : List Int} (a b : Int) : (ordLe rs a b || ordLe rs b a) = true := by
  simp only [ordLe, Bool.or_eq_true, decide_eq_true_eq]
  omega
theorem ordLe_anti {rs : List Int} {a b : Int} (h1 : ordLe rs a b = true) (h2 : ordLe rs b a = true) : a = b := by
  simp only [ordLe, decide_eq_true_eq] at *
  omega
theorem bef_of {rs : List Int} {a b : Int} (h1 : ordLe rs a b = true) (h2 : a ≠ b) : bef rs a b = true := by
  simp only [ordLe, bef, decide_eq_true_eq] at *
  omega
theorem ordLe_of {rs : List Int} {a b : Int} (h1 : bef rs a b = true) : ordLe rs a b = true := by
  simp only [ordLe, bef, decide_eq_true_eq] at *
  omega
theorem ordLe_not {rs : List Int} {a b : Int} (h1 : ¬ bef rs a b = true) : ordLe rs b a = true := by
  simp only [ordLe, bef, decide_eq_true_eq] at *
  omega
theorem ordLe_self {rs : List Int} (a : Int) : ordLe rs a a = true := by simp [ordLe]
theorem inOrd_perm (rs ls : List Int) : (inOrd rs ls).Perm ls := List.mergeSort_perm _ _
theorem inOrd_le (rs ls : List Int) : (inOrd rs ls).Pairwise fun a b => ordLe rs a b = true := List.pairwise_mergeSort (le := ordLe rs) (fun _ _ _ h1 h2 => ordLe_tr h1 h2) (fun a b => ordLe_tot a b) ls
theorem inOrd_bef {rs ls : List Int} (nd : ls.Nodup) : (inOrd rs ls).Pairwise fun a b => bef rs a b = true := by
  have n2 : (inOrd rs ls).Nodup := (inOrd_perm rs ls).nodup_iff.mpr nd
  exact (inOrd_le rs ls).imp₂ (fun _ _ h1 h2 => bef_of h1 h2) n2
theorem fst_run {rs : List Int} : ∀ {ls : List Int} {j m : Int}, ls.foldl (fstStep rs) (some j) = some m → ordLe rs m j = true ∧ ∀ x ∈ ls, ordLe rs m x = true
  | [], j, m, h => by
    cases h
    exact ⟨ordLe_self _, fun _ z => by cases z⟩
  | a :: ls, j, m, h => by
    have e : fstStep rs (some j) a = if bef rs a j = true then some a else some j := rfl
    rw [List.foldl_cons, e] at h
    by_cases hb : bef rs a j = true
    · rw [if_pos hb] at h
      have ih := fst_run h
      exact ⟨ordLe_tr ih.1 (ordLe_of hb), fun x hx => (List.mem_cons.mp hx).elim (fun z => z ▸ ih.1) (ih.2 x)⟩
    · rw [if_neg hb] at h
      have ih := fst_run h
      exact ⟨ih.1, fun x hx => (List.mem_cons.mp hx).elim (fun z => z ▸ ordLe_tr ih.1 (ordLe_not hb)) (ih.2 x)⟩
theorem fst_some {rs : List Int} : ∀ {ls : List Int} {j : Int}, ∃ m, ls.foldl (fstStep rs) (some j) = some m
  | [], j => ⟨j, rfl⟩
  | a :: ls, j => by
    have e : fstStep rs (some j) a = if bef rs a j = true then some a else some j := rfl
    rw [List.foldl_cons, e]
    split <;> exact fst_some
theorem fstOf_least {rs ls : List Int} {m : Int} (h : fstOf rs ls = some m) : m ∈ ls ∧ ∀ x ∈ ls, ordLe rs m x = true := by
  refine ⟨(fst_mem h).elim (fun z => nomatch z) id, ?_⟩
  cases ls with
  | nil => cases h
  | cons a ls =>
    have q := fst_run (ls := ls) (j := a) h
    exact fun x hx => (List.mem_cons.mp hx).elim (fun z => z ▸ q.1) (q.2 x)
theorem fstOf_none {rs ls : List Int} : fstOf rs ls = none ↔ ls = [] := by
  cases ls with
  | nil => exact ⟨fun _ => rfl, fun _ => rfl⟩
  | cons a ls =>
    obtain ⟨m, hm⟩ := fst_some (rs := rs) (ls := ls) (j := a)
    exact ⟨fun h => by rw [show fstOf rs (a :: ls) = some m from hm] at h; exact (nomatch h), fun h => nomatch h⟩
theorem inOrd_head (rs ls : List Int) : (inOrd rs ls).head? = fstOf rs ls := by
  have hp := inOrd_perm rs ls
  have hs := inOrd_le rs ls
  cases e : inOrd rs ls with
  | nil =>
    rw [e] at hp
    rw [hp.nil_eq.symm]
    rfl
  | cons a xs =>
    rw [e] at hp hs
    cases f : fstOf rs ls with
    | none =>
      rw [fstOf_none.mp f] at hp
      exact absurd hp.length_eq (by simp)
    | some m =>
      have q := fstOf_least f
      refine congrArg some (ordLe_anti ?_ (q.2 a (hp.mem_iff.mp List.mem_cons_self)))
      rcases List.mem_cons.mp (hp.mem_iff.mpr q.1) with z | z
      · rw [z]; exact ordLe_self _
      · exact List.rel_of_pairwise_cons hs z
/-! ### the law -/
def sp_law (K : PySem.W.Frag) (T : List (Addr × Str)) : Sp := fun vs H Q _ => ∃ p ns, vs = [.ref p] ∧ SqL K H p (List.map V.int ns) ∧ Tabs T H ∧ ∀ H', Ex T H H' → Q (.bl true) H'
theorem len_law {K : PySem.W.Frag} {T : List (Addr × Str)} : ∀ vs H Q E, sp_law K T vs H Q E → vs.length = 1 := fun vs H Q E h => by
  obtain ⟨_, _, rfl, _⟩ := h
  exact rfl
section
variable {K : PySem.W.Frag} {T : List (Addr × Str)} {H H0 : Hp} {Q : VK} {E : XK} {vs : List V} {σ : L2.St}
theorem er_pair {t1 t2 : TE} {xs ys : List V} (h1 : EvL T t1 σ H xs) (h2 : EvL T t2 σ H ys) : EvR T (tLst (tCons t1 (tCons t2 tNil))) σ H (fun H1 v H2 => ∃ p a b, v = .ref p ∧ nod H1 p ∧ nod H1 a ∧ nod H1 b ∧ H2 p = some (.lst [.ref a, .ref b]) ∧ H2 a = some (.lst xs) ∧ H2 b = some (.lst ys)) := fun H1 e Q q =>
  h1 H1 e _ fun v H2 e2 ⟨a, ea, na, ha⟩ => by
    subst ea
    exact h2 H2 (e.trans e2) _ fun w H3 e3 ⟨b, eb, nb, hb⟩ => by
      subst eb
      exact ⟨sz (by simp), fun p hp => q _ _ ((e2.trans e3).trans (Mv.new hp)) ⟨p, a, b, rfl, (e2.trans e3).nod hp, na, e2.dm b nb, upd_same, ((e3.trans (Mv.new hp)).at ha), (Mv.new (T := T) (S := no) hp).at hb⟩⟩
theorem rv_ixP {p : Addr} {ls : List Int} {k : Nat} (h : SqL K H p (ls.map V.int)) (hk : k < ls.length) : ∃ z, z ∈ ls ∧ RV T (rIxL K) (.ref p) (.int ((k : Int) - 1)) H (.int z) := by
  cases k with
  | zero =>
    obtain ⟨ys, y, rfl⟩ : ∃ ys y, ls = ys ++ [y] := ⟨_, _, (List.dropLast_concat_getLast (List.ne_nil_of_length_pos (by omega))).symm⟩
    refine ⟨y, by simp, rv_ixL h ?_⟩
    have := atI_last (ys.map V.int) (V.int y)
    simpa using this
  | succ k => exact ⟨rk ls k, rk_at (by omega) (by omega), by
      have e : (((k + 1 : Nat) : Int) - 1) = (k : Int) := by omega
      rw [e]
      exact rv_ixI h (by omega) (by omega)⟩
theorem cutV_ints (ns : List Int) (lo hi : Option Int) : ∃ cs : List Int, cutV (ns.map V.int) lo hi = cs.map V.int ∧ cs.length ≤ HT.sIx ns.length ns.length hi - HT.sIx ns.length 0 lo := by
  refine ⟨(ns.drop (HT.sIx ns.length 0 lo)).take (HT.sIx ns.length ns.length hi - HT.sIx ns.length 0 lo), ?_, ?_⟩
  · unfold cutV
    rw [List.length_map, List.map_take, List.map_drop]
  · rw [List.length_take]
    exact Nat.min_le_left _ _
theorem p_law (h : sp_law K T vs H Q E) : r_law K T { nx := fun _ H' => Q .non H', rt := Q } (start ["_law_script", "_law_cells", "_law_ranks", "_law_lines_here", "_law_k", "_law_handed", "_law_row_here", "_law_cell"] vs) H := by
  obtain ⟨p, ns, rfl, hp, tb, q⟩ := h
  unfold r_law
  obtain ⟨cs, hcs, hcl⟩ := cutV_ints ns (some 3) (some 63)
  have el := el_sl (T := T) (σ := start ["_law_script", "_law_cells", "_law_ranks", "_law_lines_here", "_law_k", "_law_handed", "_law_row_here", "_law_cell"] [V.ref p]) (ta := tVar 0) (by walk_at "ev") (eo_part (te := tC (.int 3)) (i := 3) (by walk_at "ev")) (eo_part (te := tC (.int 63)) (i := 63) (by walk_at "ev")) hp
  rw [hcs] at el
  refine q_asgR (Mv.of T H) el fun v H1 σ2 hs e1 _ hv => ?_
  obtain ⟨c, rfl, nc, hc⟩ := hv
  subst hs
  have hcl : cs.length ≤ 60 := by
    refine Nat.le_trans hcl ?_
    rw [show HT.sIx ns.length ns.length (some 63) = min 63 ns.length from HT.sIx_nat _ _ 63, show HT.sIx ns.length 0 (some 3) = min 3 ns.length from HT.sIx_nat _ _ 3]
    omega
  refine q_cut (fun σ' H' => ∃ c cs, σ' = [some (.ref p), some (.ref c), none, none, none, none, none, none] ∧ Ex T H H' ∧ H' c = some (.lst (List.map V.int cs)) ∧ List.length cs ≤ 60) ?_ ?_
  · refine s_if (b := decide (cs = [])) (Mv.of T H1) (et_test (ev_opVL (by walk_at "ev") (el_lst ea_nil (by decide)) fun a H1 ha e => rv_eqDI (dp_n (e.at hc)) (dp_n (ns := []) ha))) (fun hb H2 e2 _ => ?_) (fun hb H2 e2 _ => nextI ?_)
    · refine s_asgR e2 (el_lst (ea_cons ev_c ea_nil) (by decide)) fun w H3 e3 _ hw => ?_
      obtain ⟨c2, rfl, _, hc2⟩ := hw
      exact ⟨c2, [0], rfl, e1.trans e3, hc2, by decide⟩
    · exact ⟨c, cs, rfl, e1.trans e2, e2.at hc, hcl⟩
  clear hcs hcl el nc hc
  rintro σ' H2 ⟨c, cs, rfl, e2, hc, hcl⟩
  have hp2 := e2.l hp
  have hc' : SqL K H2 c (cs.map V.int) := .inl (.inl hc)
  have l1 := el_lcA (T := T) (K := K) (H := H2) (σ := [some (.ref p), some (.ref c), none, none, none, none, none, none]) (tl := tVar 1) (vs := [7]) (j := 7) (te := tCall (sp_l_rank K T) [] E0 (tCons (tVar 7) (tCons (tOp oMod (tCall (sp_l_cell_at K T) [] E0 (tCons (tVar 0) (tCons (tC (.int 0)) tNil))) (tC (.int 4))) tNil))) (as := cs) (g := V.int) (f := fun z => V.int (lrank z (cellAt ns 0 % 4)))
    (by walk_at "ev") hc' (by omega) (fun x => rfl) (fun z hz => ev_call0 (by walk_at "ea") v_rank)
  rw [show cs.map (fun z => V.int (lrank z (cellAt ns 0 % 4))) = (cs.map fun z => lrank z (cellAt ns 0 % 4)).map V.int by rw [List.map_map]; rfl] at l1
  refine q_asgR (Mv.of T H2) l1 fun v H3 σ2 hs e3 _ hv => ?_
  obtain ⟨r, rfl, nr, hr⟩ := hv
  subst hs
  generalize hrs : (cs.map fun z => lrank z (cellAt ns 0 % 4)) = rs at hr
  have hrl : rs.length = cs.length := by rw [← hrs, List.length_map]
  clear l1 hrs
  obtain ⟨w, hw⟩ : ∃ w, atI [V.int 0, V.int 0, V.int 1, V.int 2, V.int 4] (cellAt ns 1 % 5) = some (V.int w) := by
    have b0 := Int.emod_nonneg (cellAt ns 1) (show (5 : Int) ≠ 0 by decide)
    have b1 := Int.emod_lt_of_pos (cellAt ns 1) (show (0 : Int) < 5 by decide)
    have cs : cellAt ns 1 % 5 = 0 ∨ cellAt ns 1 % 5 = 1 ∨ cellAt ns 1 % 5 = 2 ∨ cellAt ns 1 % 5 = 3 ∨ cellAt ns 1 % 5 = 4 := by omega
    rcases cs with z | z | z | z | z <;> rw [z] <;> exact ⟨_, rfl⟩
  have e23 := e2.trans e3
  have hp3 := e3.l hp2
  have hc3 := e3.l hc'
  have hr' : SqL K H3 r (rs.map V.int) := .inl (.inl hr)
  refine q_asgR (Mv.of T H3) (er_call0 (R := newLns cs.length) (ea_cons (by walk_at "ev") (ea_cons (ev_opLV (el_lst (by walk_at "ea") (by decide)) (by walk_at "ev") fun a H1 ha e => rv_ixL (.inl (.inl ha)) hw) ea_nil)) (v_lines hc3 hcl) fun _ _ _ _ _ a b ⟨ls, z1, z2⟩ => ⟨ls, z1, newL_back _ _ _ _ (Mv.of T _) a b z2⟩) fun v H4 σ2 hs e4 _ hv => ?_
  obtain ⟨ls, nl, l, rfl, nnl, hl⟩ := hv
  subst hs
  rw [← hrl] at nl
  have hr4 := e4.at hr
  have ll := nl.len
  have hp4 := e4.l hp3
  refine q_if (b := false) (Mv.of T H4) (et_is (by walk_at "et") (by rfl)) (fun hb => nomatch hb) (fun _ H5 e5 _ => nextI ?_)
  dsimp only
  have hl5 : SqL K H5 l (ls.map V.int) := .inl (.inl (e5.at hl))
  have hr5 : SqL K H5 r (rs.map V.int) := .inl (.inl (e5.at hr4))
  refine s_forR (n := ls.length) (Mv.of T H5) (by walk_at "ea") (by omega) (fun i σ' H' => ∃ v, σ' = [some (.ref p), some (.ref c), some (.ref r), some (.ref l), v, none, none, none] ∧ Ex T H5 H') (fun H2 e2 _ => ⟨none, rfl, e2⟩) ?_ ?_
  · rintro i σ' H' hi ⟨v, rfl, e⟩
    have m1 := rk_at (ls := ls) (i := i) (by omega) hi
    have i1 : inR rs (rk ls i) := nl.2 _ m1
    obtain ⟨z, hz, hv⟩ := rv_ixP (T := T) (k := i) hl5 (by omega)
    have i2 : inR rs z := nl.2 _ hz
    have evz : Ev T (tOp (rIxL K) (tVar 3) (tOp oSub (tVar 4) (tC (V.int 1)))) [some (V.ref p), some (V.ref c), some (V.ref r), some (V.ref l), some (V.int i), none, none, none] H5 (V.int z) := ev_op (by walk_at "ev") (by walk_at "ev") hv
    refine q_if (b := false) e (et_is (by walk_at "et") (by rfl)) (fun hb => nomatch hb) (fun _ H2 e2 _ => nextI ?_)
    dsimp only
    refine s_if (b := false) e2 (et_is (et_or (et_not (et_B (ev_call0 (ea_cons (by walk_at "ev") (ea_cons evz (ea_cons (by walk_at "ev") ea_nil))) (v_says hr5 i2 i1)))) fun _ => et_not (et_B (ev_call0 (ea_cons (by walk_at "ev") (ea_cons (by walk_at "ev") (ea_cons evz ea_nil))) (v_says hr5 i1 i2)))) rfl) (fun hb => nomatch hb) (fun _ H3 e3 _ => nextI ⟨_, rfl, e3⟩)
  · rintro σ' H6 ⟨v, rfl, e6⟩
    dsimp only
    have hl6 := e6.l hl5
    have hr6 := e6.l hr5
    refine q_asgR (Mv.of T H6) (er_pair (el_list (by walk_at "ev") (.inl hr6)) (el_list (by walk_at "ev") (.inl hl6))) fun v H7 σ2 hs e7 _ hv => ?_
    obtain ⟨h, ha, hb, rfl, nh, na, nb, hh, hha, hhb⟩ := hv
    subst hs
    have hh' : SqL K H7 h [.ref ha, .ref hb] := .inl (.inl hh)
    have ky : Kys K H7 hb ha rs ls := ⟨.inl (.inl hhb), .inl (.inl hha), fun x hx => nl.2 x hx⟩
    have tb7 := (((e23.trans e4).trans e5).trans (e6.trans e7)).tb tb
    have a0 : Ev T (tOp (rIxL K) (tVar 5) (tC (V.int 0))) [some (V.ref p), some (V.ref c), some (V.ref r), some (V.ref l), v, some (V.ref h), none, none] H7 (V.ref ha) := ev_op (by walk_at "ev") ev_c (rv_ixL hh' rfl)
    have a1 : Ev T (tOp (rIxL K) (tVar 5) (tC (V.int 1))) [some (V.ref p), some (V.ref c), some (V.ref r), some (V.ref l), v, some (V.ref h), none, none] H7 (V.ref hb) := ev_op (by walk_at "ev") ev_c (rv_ixL hh' rfl)
    refine q_asgR (Mv.of T H7) (el_call0 (ea_cons a0 (ea_cons a1 ea_nil)) (v_in_order ky tb7)) fun v H8 σ2 hs e8 _ hv => ?_
    obtain ⟨o, rfl, no, ho⟩ := hv
    subst hs
    have hp8 := inOrd_perm rs ls
    have ky8 : Kys K H8 l r rs ls := ⟨(e7.trans e8).l hl6, (e7.trans e8).l hr6, ky.lo⟩
    have kyb := ky.ex e8
    have hh8 := e8.l hh'
    have a0 : Ev T (tOp (rIxL K) (tVar 5) (tC (V.int 0))) [some (V.ref p), some (V.ref c), some (V.ref r), some (V.ref l), v, some (V.ref h), some (V.ref o), none] H8 (V.ref ha) := ev_op (by walk_at "ev") ev_c (rv_ixL hh8 rfl)
    have a1 : Ev T (tOp (rIxL K) (tVar 5) (tC (V.int 1))) [some (V.ref p), some (V.ref c), some (V.ref r), some (V.ref l), v, some (V.ref h), some (V.ref o), none] H8 (V.ref hb) := ev_op (by walk_at "ev") ev_c (rv_ixL hh8 rfl)
    refine q_if (b := false) (Mv.of T H8) (et_is (et_or (et_not (et_B (ev_call0 (by walk_at "ea") (v_row ky8 ho hp8 (inOrd_bef nl.1) (by omega))))) fun _ => et_not (et_B (ev_call0 (ea_cons (ev_call0 (ea_cons a0 (ea_cons a1 ea_nil)) (v_first_of kyb)) (ea_cons (by walk_at "ev") ea_nil)) (v_first ho (inOrd_head rs ls))))) rfl) (fun hb => nomatch hb) (fun _ H9 e9 _ => nextI ?_)
    dsimp only
    refine s_app (Mv.of T H9) (e9.at ho) (by walk_at "ev") ev_c (by rw [List.length_map, hp8.length_eq]; omega) fun H10 e10 _ => ?_
    have m11 : Ex T H7 (upd H10 o (.lst ((inOrd rs ls).map V.int ++ [.int 0]))) := ((e8.trans e9).trans e10).set (.inr no) (e10.at (e9.at ho))
    dsimp only
    refine s_ret (Mv.of T _) (ev_opVL (by walk_at "ev") (el_lst (by walk_at "ea") (by simp)) fun a H11 ha e11 => rv_eqDt (d := .list [dI rs, dI ls]) ((Dp.lst hh' (.cons (dp_n hha) (.cons (dp_n hhb) .nil))).ex (m11.trans e11)) (.lst (.inl (.inl ha)) (.cons ((dp_l hr6).ex ((e7.trans m11).trans e11)) (.cons ((dp_l hl6).ex ((e7.trans m11).trans e11)) .nil))) ?_) fun H12 e12 => q H12 ?_
    · simp [SeqAt.shaped, PyData.canLay0, PyData.canLayAll0, PyData.depth, PyData.depthAll, lay_dI]
    · exact ((((e23.trans e4).trans e5).trans (e6.trans e7)).trans m11).trans e12
end
end Fp

namespace Fp
open PySem PySem.Spec PyProof.Rows L2 LamX
theorem Df.of {K : PySem.W.Frag} {mg : Str → Option Value} {x : Str} {st : Stmt} (h : ∃ fd, FunD K x x (defArgs st) (defBody st) (defScope st) [] [] (He.fAd K (x, none)) fd) (g : mg x = some (.ref (He.ga K x))) : Df K mg x st := by
  obtain ⟨fd, F⟩ := h
  exact ⟨_, fd, F, g, rfl⟩
/-- what the end wants of the law -/
theorem law_at {l : PySem.W.OpenLaw} {w : World} {K : PySem.W.Frag} {mg : Str → Option Value} {fa : Addr} {h : Heap} {n k : Nat} {N : List Str} {st : Stmt} {sp : Sp} {cs : List (Addr × Addr)} (D : Df K mg "law" st) (hm : mg "law" = some (.ref fa))
    (hT : ∀ p ∈ cs, h.get? p.2 = some { cls := .none, data := .fields #[] }) (nT : ∀ p ∈ cs, K.lookup p.2 = none) (C : ∀ p ∈ cs, PySem.W.CodeHd h p.1 p.2) (S : FnScope N ["_law_script"] (defScope st)) (len : ∀ vs H Q E, sp vs H Q E → vs.length = 1)
    (hb : ∀ (kV doc pm : Value) (an : Option Addr) (cdv ct : Value) (us : List Value), us.length = (["_law_script"] : List Str).length → bindArgs (PySem.W.fnOf "law" "law" (defArgs st) (defBody st) (defScope st) .none kV doc pm an cdv ct) ⟨us, []⟩ = pure ((["_law_script"] : List Str).zip us))
    (hsp : ∀ (H : Hp) (a : Addr) (ns : List Int), ns.length ≤ n → (∀ z ∈ ns, Builtin.Int.intBits z ≤ 1048576) → (∀ p ∈ cs, H p.2 = some (.tbl #[])) → SqL K H a (ns.map V.int) → sp [.ref a] H (fun v _ => v = .bl true) fun _ _ _ => False)
    (hbody : ∀ base : Heap, K.In base → base.Ns mainGlobals mg → (∀ p ∈ cs, TabB base mg p.1 p.2) → ∀ (f : Addr) (cdv : Value) (A : Around) (outer : List Env) (s : Shared) (H : Hp) (vs : List V) (Q : VK) (E : XK), Room k (A.deeper (envOfC "law" (defScope st) s.heap.objs.size f cdv)) → sp vs H Q E →
      ∃ t, PSs (cxOf CX0 l.prog w K mg base N "law" (defScope st) f cdv A outer s H E).nox (defBody st) t ∧ t { nx := fun _ H' => Q .non H', rt := Q } (start N vs) H) : LawAtS l w K CX0 (k + 1) n "_law_script" mg fa h := by
  obtain ⟨f, fd, F, hm', hf⟩ := D.ex
  rw [hm] at hm'
  obtain rfl : fa = f := by cases hm'; rfl
  refine ⟨fd, cs, sp, hT, nT, C, fun s u => F.bindsA hb s [u] rfl, hsp, fun base hK G tb => F.ok S len fun cdv A outer s H vs Q E hr h => ?_⟩
  obtain ⟨t, h1, h2⟩ := hbody base hK G tb fa cdv A outer s H vs Q E hr h
  exact ⟨t, h1.nox, h2⟩
end Fp

namespace Fp
open PySem PySem.Spec PyProof.Rows L2 LamX
def top (i : Nat) : Stmt := PySem.Challenge.pw_fewpegs_k01_the_order.main.body.getD i (.Pass ⟨0, 0, 0, 0⟩)
abbrev s_is_whole : Stmt := top 1
abbrev s_before : Stmt := top 2
abbrev s_in_order : Stmt := top 3
abbrev s_first_of : Stmt := top 4
abbrev s_l_cell_at : Stmt := top 6
abbrev s_l_whole : Stmt := top 7
abbrev s_l_rank : Stmt := top 8
abbrev s_l_lines : Stmt := top 9
abbrev s_l_comes : Stmt := top 10
abbrev s_l_says : Stmt := top 11
abbrev s_l_row : Stmt := top 12
abbrev s_l_first : Stmt := top 13
abbrev s_l_numbers : Stmt := top 14
abbrev s_law : Stmt := top 15
theorem sc_is_whole : FnScope ["thing"] ["thing"] (defScope s_is_whole) := ⟨rfl, rfl, rfl, by decide +kernel, rfl, by decide +kernel, by decide +kernel⟩
theorem g_is_whole {P : Program} {w : World} {K : PySem.W.Frag} {mg : Str → Option Value} {base : Heap} {T : List (Addr × Str)} (B : Bi mg) (D : Df K mg "is_whole" s_is_whole)  : Gd P w K mg base CX0 1 "is_whole" ["thing"] (sp_is_whole K T) :=
  D.ok0 sc_is_whole len_is_whole (fun _ _ _ _ _ _ us hl => match us, hl with | [_], _ => rfl) fun f cdv A outer s H vs Q E hr h => ⟨r_is_whole K T,
  (pss_one (ps_ret (pe_and (pe_callB call_is rfl B.isinstance (by decide +kernel) (pa_cons (pv 0) (pa_cons (pe_bltn (v := .ty "int") rfl B.int (by decide +kernel) rfl) pa_nil))) (pe_one (pe_not (pe_callB call_is rfl B.isinstance (by decide +kernel) (pa_cons (pv 0) (pa_cons (pe_bltn (v := .ty "bool") rfl B.bool (by decide +kernel) rfl) pa_nil)))))))), p_is_whole h⟩
theorem sc_before : FnScope ["ranks", "one", "other"] ["ranks", "one", "other"] (defScope s_before) := ⟨rfl, rfl, rfl, by decide +kernel, rfl, by decide +kernel, by decide +kernel⟩
theorem g_before {P : Program} {w : World} {K : PySem.W.Frag} {mg : Str → Option Value} {base : Heap} {T : List (Addr × Str)} (B : Bi mg) (D : Df K mg "before" s_before)  : Gd P w K mg base CX0 1 "before" ["ranks", "one", "other"] (sp_before K T) :=
  D.ok0 sc_before len_before (fun _ _ _ _ _ _ us hl => match us, hl with | [_, _, _], _ => rfl) fun f cdv A outer s H vs Q E hr h => ⟨r_before K T,
  (pss_cons (ps_if (pt_cmpR op_ne (pe_ix ix_list (pv 0) (pv 1) (fun _ _ => rfl)) (pe_ix ix_list (pv 0) (pv 2) (fun _ _ => rfl)) (nomark _)) (pss_one (ps_ret (pe_cmpR op_lt (pe_ix ix_list (pv 0) (pv 1) (fun _ _ => rfl)) (pe_ix ix_list (pv 0) (pv 2) (fun _ _ => rfl)) (nomark _)))) pss_nil)
  (pss_one (ps_ret (pe_cmpR op_lt (pv 1) (pv 2) (nomark _))))), p_before h⟩
theorem sc_in_order : FnScope ["ranks", "lines"] ["ranks", "lines"] (defScope s_in_order) := ⟨rfl, rfl, rfl, by decide +kernel, rfl, by decide +kernel, by decide +kernel⟩
theorem g_in_order {P : Program} {w : World} {K : PySem.W.Frag} {mg : Str → Option Value} {base : Heap} {T : List (Addr × Str)} {Pt : Addr} (B : Bi mg) (D : Df K mg "in_order" s_in_order) (TB : TabB base mg (He.codeOf K ("in_order", none)) Pt) (hmT : (Pt, ("in_order" : Str) ++ ".<locals>." ++ "<lambda>") ∈ T) (hu : ∀ p ∈ T, p.1 = Pt → p.2 = ("in_order" : Str) ++ ".<locals>." ++ "<lambda>") : Gd P w K mg base CX0 1 "in_order" ["ranks", "lines"] (sp_in_order K T) :=
  D.okC sc_in_order len_in_order (fun _ _ _ _ _ _ us hl => match us, hl with | [_, _], _ => rfl) fun f cdv A outer s H vs Q E hcode hr h => ⟨r_in_order K T, (pss_one (ps_ret (pe_sortK (ir := 0) (pa_cons (pv 1) pa_nil) hr rfl B.sorted TB hcode hmT hu rfl rfl rfl (fun _ _ _ _ _ _ => rfl)))), p_in_order h⟩
theorem sc_first_of : FnScope ["ranks", "lines", "found", "line"] ["ranks", "lines"] (defScope s_first_of) := ⟨rfl, rfl, rfl, by decide +kernel, rfl, by decide +kernel, by decide +kernel⟩
theorem g_first_of {P : Program} {w : World} {K : PySem.W.Frag} {mg : Str → Option Value} {base : Heap} {T : List (Addr × Str)} (B : Bi mg) (D : Df K mg "first_of" s_first_of) (G_before : Gd P w K mg base CX0 1 "before" ["ranks", "one", "other"] (sp_before K T)) : Gd P w K mg base CX0 2 "first_of" ["ranks", "lines"] (sp_first_of K T) :=
  D.ok0 sc_first_of len_first_of (fun _ _ _ _ _ _ us hl => match us, hl with | [_, _], _ => rfl) fun f cdv A outer s H vs Q E hr h => ⟨r_first_of K T,
  (pss_cons (ps_set (i := 2) sc_first_of.nd rfl (Or.inl rfl) pe_non)
  (pss_cons (ps_for PassesOwn.never rfl (pi_list (pv 1)) (pg_name (i := 3) sc_first_of.nd rfl (Or.inl rfl)) (pss_one (ps_if (PW.pt (pw_or (pt_cmpR op_isN (pv 2) pe_non (nomark _)) (pw_or1 (pt_val (pe_g G_before (hr.mono (by decide)) rfl pass0 (pa_cons (pv 0) (pa_cons (pv 3) (pa_cons (pv 2) pa_nil)))))))) (pss_one (ps_set (i := 2) sc_first_of.nd rfl (Or.inl rfl) (pv 3))) pss_nil)))
  (pss_one (ps_ret (pv 2))))), p_first_of h⟩
theorem sc_l_cell_at : FnScope ["_law_script", "_law_k"] ["_law_script", "_law_k"] (defScope s_l_cell_at) := ⟨rfl, rfl, rfl, by decide +kernel, rfl, by decide +kernel, by decide +kernel⟩
theorem g_l_cell_at {P : Program} {w : World} {K : PySem.W.Frag} {mg : Str → Option Value} {base : Heap} {T : List (Addr × Str)} (B : Bi mg) (D : Df K mg "_law_cell_at" s_l_cell_at)  : Gd P w K mg base CX0 1 "_law_cell_at" ["_law_script", "_law_k"] (sp_l_cell_at K T) :=
  D.ok0 sc_l_cell_at len_l_cell_at (fun _ _ _ _ _ _ us hl => match us, hl with | [_, _], _ => rfl) fun f cdv A outer s H vs Q E hr h => ⟨r_l_cell_at K T,
  (pss_cons (ps_if (pt_cmpR op_lt (pv 1) (pe_callB call_len_seq rfl B.len boot_len (pa_cons (pv 0) pa_nil)) (nomark _)) (pss_one (ps_ret (pe_ix ix_list (pv 0) (pv 1) (fun _ _ => rfl)))) pss_nil)
  (pss_one (ps_ret pe_int))), p_l_cell_at h⟩
theorem sc_l_whole : FnScope ["_law_found"] ["_law_found"] (defScope s_l_whole) := ⟨rfl, rfl, rfl, by decide +kernel, rfl, by decide +kernel, by decide +kernel⟩
theorem g_l_whole {P : Program} {w : World} {K : PySem.W.Frag} {mg : Str → Option Value} {base : Heap} {T : List (Addr × Str)} (B : Bi mg) (D : Df K mg "_law_whole" s_l_whole)  : Gd P w K mg base CX0 1 "_law_whole" ["_law_found"] (sp_l_whole K T) :=
  D.ok0 sc_l_whole len_l_whole (fun _ _ _ _ _ _ us hl => match us, hl with | [_], _ => rfl) fun f cdv A outer s H vs Q E hr h => ⟨r_l_whole K T,
  (pss_one (ps_ret (pe_and (pe_callB call_is rfl B.isinstance (by decide +kernel) (pa_cons (pv 0) (pa_cons (pe_bltn (v := .ty "int") rfl B.int (by decide +kernel) rfl) pa_nil))) (pe_one (pe_not (pe_callB call_is rfl B.isinstance (by decide +kernel) (pa_cons (pv 0) (pa_cons (pe_bltn (v := .ty "bool") rfl B.bool (by decide +kernel) rfl) pa_nil)))))))), p_l_whole h⟩
theorem sc_l_rank : FnScope ["_law_cell", "_law_way"] ["_law_cell", "_law_way"] (defScope s_l_rank) := ⟨rfl, rfl, rfl, by decide +kernel, rfl, by decide +kernel, by decide +kernel⟩
theorem g_l_rank {P : Program} {w : World} {K : PySem.W.Frag} {mg : Str → Option Value} {base : Heap} {T : List (Addr × Str)} (B : Bi mg) (D : Df K mg "_law_rank" s_l_rank)  : Gd P w K mg base CX0 1 "_law_rank" ["_law_cell", "_law_way"] (sp_l_rank K T) :=
  D.ok0 sc_l_rank len_l_rank (fun _ _ _ _ _ _ us hl => match us, hl with | [_, _], _ => rfl) fun f cdv A outer s H vs Q E hr h => ⟨r_l_rank K T,
  (pss_cons (ps_if (pt_cmpR op_eq (pv 1) pe_int (nomark _)) (pss_one (ps_ret (pe_op op_mod (pv 0) pe_int))) pss_nil)
  (pss_cons (ps_if (pt_cmpR op_eq (pv 1) pe_int (nomark _)) (pss_one (ps_ret (pe_op op_mod (pv 0) (pe_op op_pow pe_int pe_int)))) pss_nil)
  (pss_cons (ps_if (pt_cmpR op_eq (pv 1) pe_int (nomark _)) (pss_one (ps_ret (pe_op op_sub (pe_op op_sub (pe_op op_pow pe_int pe_int) pe_int) (pe_op op_mod (pv 0) pe_int)))) pss_nil)
  (pss_one (ps_ret (pe_op op_add (pe_op op_mul (pe_op op_mod (pv 0) pe_int) (pe_op op_pow pe_int pe_int)) (pe_op op_mod (pe_op op_fdivW (pv 0) pe_int) pe_int))))))), p_l_rank h⟩
theorem sc_l_lines : FnScope ["_law_cells", "_law_least", "_law_lines_here", "_law_k", "_law_number"] ["_law_cells", "_law_least"] (defScope s_l_lines) := ⟨rfl, rfl, rfl, by decide +kernel, rfl, by decide +kernel, by decide +kernel⟩
theorem g_l_lines {P : Program} {w : World} {K : PySem.W.Frag} {mg : Str → Option Value} {base : Heap} {T : List (Addr × Str)} (B : Bi mg) (D : Df K mg "_law_lines" s_l_lines)  : Gd P w K mg base CX0 1 "_law_lines" ["_law_cells", "_law_least"] (sp_l_lines K T) :=
  D.ok0 sc_l_lines len_l_lines (fun _ _ _ _ _ _ us hl => match us, hl with | [_, _], _ => rfl) fun f cdv A outer s H vs Q E hr h => ⟨r_l_lines K T,
  (pss_cons (ps_set (i := 2) sc_l_lines.nd rfl (Or.inl rfl) (pe_lst pa_nil))
  (pss_cons (ps_for PassesOwn.never rfl (pi_range1 rfl B.range (pa_cons (pe_callB call_len_seq rfl B.len boot_len (pa_cons (pv 0) pa_nil)) pa_nil)) (pg_name (i := 3) sc_l_lines.nd rfl (Or.inl rfl)) (pss_cons (ps_set (i := 4) sc_l_lines.nd rfl (Or.inl rfl) (pe_op op_mod (pe_op op_mul (pe_op op_add (pe_op op_add (pe_op op_mod (pe_ix ix_list (pv 0) (pv 3) (fun _ _ => rfl)) pe_int) (pe_op op_mul (pe_op op_mul pe_int (pv 3)) (pv 3))) pe_int) pe_int) pe_int))
  (pss_cons (ps_set (i := 4) sc_l_lines.nd rfl (Or.inl rfl) (pe_op op_mod (pe_op op_mul (pv 4) (pv 4)) pe_int))
  (pss_one (ps_if (pt_cmpR op_ge (pe_op op_mod (pv 4) pe_int) (pv 1) (nomark _)) (pss_one (ps_expr (pe_bm PySem.F.plainAttrs_list PySem.F.slot_list_insert PySem.F.type_list_insert mt_insert (pv 2) (pa_cons (pe_op op_mod (pe_op op_fdivW (pv 4) pe_int) (pe_op op_add (pe_callB call_len_seq rfl B.len boot_len (pa_cons (pv 2) pa_nil)) pe_int)) (pa_cons (pv 3) pa_nil))))) pss_nil)))))
  (pss_one (ps_ret (pv 2))))), p_l_lines h⟩
theorem sc_l_comes : FnScope ["_law_ranks", "_law_one", "_law_other"] ["_law_ranks", "_law_one", "_law_other"] (defScope s_l_comes) := ⟨rfl, rfl, rfl, by decide +kernel, rfl, by decide +kernel, by decide +kernel⟩
theorem g_l_comes {P : Program} {w : World} {K : PySem.W.Frag} {mg : Str → Option Value} {base : Heap} {T : List (Addr × Str)} (B : Bi mg) (D : Df K mg "_law_comes" s_l_comes)  : Gd P w K mg base CX0 1 "_law_comes" ["_law_ranks", "_law_one", "_law_other"] (sp_l_comes K T) :=
  D.ok0 sc_l_comes len_l_comes (fun _ _ _ _ _ _ us hl => match us, hl with | [_, _, _], _ => rfl) fun f cdv A outer s H vs Q E hr h => ⟨r_l_comes K T,
  (pss_one (ps_ret (pe_or (pe_cmpR op_lt (pe_ix ix_list (pv 0) (pv 1) (fun _ _ => rfl)) (pe_ix ix_list (pv 0) (pv 2) (fun _ _ => rfl)) (nomark _)) (pe_one (pe_and (pe_cmpR op_eq (pe_ix ix_list (pv 0) (pv 1) (fun _ _ => rfl)) (pe_ix ix_list (pv 0) (pv 2) (fun _ _ => rfl)) (nomark _)) (pe_one (pe_cmpR op_lt (pv 1) (pv 2) (nomark _)))))))), p_l_comes h⟩
theorem sc_l_says : FnScope ["_law_ranks", "_law_one", "_law_other", "_law_found"] ["_law_ranks", "_law_one", "_law_other"] (defScope s_l_says) := ⟨rfl, rfl, rfl, by decide +kernel, rfl, by decide +kernel, by decide +kernel⟩
theorem g_l_says {P : Program} {w : World} {K : PySem.W.Frag} {mg : Str → Option Value} {base : Heap} {T : List (Addr × Str)} (B : Bi mg) (D : Df K mg "_law_says" s_l_says) (G_l_comes : Gd P w K mg base CX0 1 "_law_comes" ["_law_ranks", "_law_one", "_law_other"] (sp_l_comes K T)) (G_before : Gd P w K mg base CX0 1 "before" ["ranks", "one", "other"] (sp_before K T)) : Gd P w K mg base CX0 2 "_law_says" ["_law_ranks", "_law_one", "_law_other"] (sp_l_says K T) :=
  D.ok0 sc_l_says len_l_says (fun _ _ _ _ _ _ us hl => match us, hl with | [_, _, _], _ => rfl) fun f cdv A outer s H vs Q E hr h => ⟨r_l_says K T,
  (pss_cons (ps_set (i := 3) sc_l_says.nd rfl (Or.inl rfl) (pe_g G_before (hr.mono (by decide)) rfl pass0 (pa_cons (pv 0) (pa_cons (pv 1) (pa_cons (pv 2) pa_nil)))))
  (pss_one (ps_ret (pe_and (pe_callB call_is rfl B.isinstance (by decide +kernel) (pa_cons (pv 3) (pa_cons (pe_bltn (v := .ty "bool") rfl B.bool (by decide +kernel) rfl) pa_nil))) (pe_one (pe_cmpR op_eq (pv 3) (pe_g G_l_comes (hr.mono (by decide)) rfl pass0 (pa_cons (pv 0) (pa_cons (pv 1) (pa_cons (pv 2) pa_nil)))) (nomark _))))))), p_l_says h⟩
theorem sc_l_row : FnScope ["_law_ranks", "_law_lines_here", "_law_found", "_law_k"] ["_law_ranks", "_law_lines_here", "_law_found"] (defScope s_l_row) := ⟨rfl, rfl, rfl, by decide +kernel, rfl, by decide +kernel, by decide +kernel⟩
theorem g_l_row {P : Program} {w : World} {K : PySem.W.Frag} {mg : Str → Option Value} {base : Heap} {T : List (Addr × Str)} (B : Bi mg) (D : Df K mg "_law_row" s_l_row) (G_l_comes : Gd P w K mg base CX0 1 "_law_comes" ["_law_ranks", "_law_one", "_law_other"] (sp_l_comes K T)) (G_l_whole : Gd P w K mg base CX0 1 "_law_whole" ["_law_found"] (sp_l_whole K T)) : Gd P w K mg base CX0 2 "_law_row" ["_law_ranks", "_law_lines_here", "_law_found"] (sp_l_row K T) :=
  D.ok0 sc_l_row len_l_row (fun _ _ _ _ _ _ us hl => match us, hl with | [_, _, _], _ => rfl) fun f cdv A outer s H vs Q E hr h => ⟨r_l_row K T,
  (pss_cons (ps_if (PW.pt (pw_or (pt_not (pt_val (pe_callB call_is rfl B.isinstance (by decide +kernel) (pa_cons (pv 2) (pa_cons (pe_bltn (v := .ty "list") rfl B.list (by decide +kernel) rfl) pa_nil))))) (pw_or1 (pt_cmpR op_ne (pe_callB call_len_seq rfl B.len boot_len (pa_cons (pv 2) pa_nil)) (pe_callB call_len_seq rfl B.len boot_len (pa_cons (pv 1) pa_nil)) (nomark _))))) (pss_one (ps_ret pe_bl)) pss_nil)
  (pss_cons (ps_for PassesOwn.never rfl (pi_range1 rfl B.range (pa_cons (pe_callB call_len_seq rfl B.len boot_len (pa_cons (pv 2) pa_nil)) pa_nil)) (pg_name (i := 3) sc_l_row.nd rfl (Or.inl rfl)) (pss_cons (ps_if (PW.pt (pw_or (pt_not (pt_val (pe_g G_l_whole (hr.mono (by decide)) rfl pass0 (pa_cons (pe_ix ix_list (pv 2) (pv 3) (fun _ _ => rfl)) pa_nil)))) (pw_or1 (pt_cmpR op_notIn_seq (pe_ix ix_list (pv 2) (pv 3) (fun _ _ => rfl)) (pv 1) rfl)))) (pss_one (ps_ret pe_bl)) pss_nil)
  (pss_one (ps_if (PW.pt (pw_and (pt_cmpR op_gt (pv 3) pe_int (nomark _)) (pw_and1 (pt_not (pt_val (pe_g G_l_comes (hr.mono (by decide)) rfl pass0 (pa_cons (pv 0) (pa_cons (pe_ix ix_list (pv 2) (pe_op op_sub (pv 3) pe_int) (fun _ _ => rfl)) (pa_cons (pe_ix ix_list (pv 2) (pv 3) (fun _ _ => rfl)) pa_nil))))))))) (pss_one (ps_ret pe_bl)) pss_nil))))
  (pss_one (ps_ret pe_bl)))), p_l_row h⟩
theorem sc_l_first : FnScope ["_law_found", "_law_row_here"] ["_law_found", "_law_row_here"] (defScope s_l_first) := ⟨rfl, rfl, rfl, by decide +kernel, rfl, by decide +kernel, by decide +kernel⟩
theorem g_l_first {P : Program} {w : World} {K : PySem.W.Frag} {mg : Str → Option Value} {base : Heap} {T : List (Addr × Str)} (B : Bi mg) (D : Df K mg "_law_first" s_l_first) (G_l_whole : Gd P w K mg base CX0 1 "_law_whole" ["_law_found"] (sp_l_whole K T)) : Gd P w K mg base CX0 2 "_law_first" ["_law_found", "_law_row_here"] (sp_l_first K T) :=
  D.ok0 sc_l_first len_l_first (fun _ _ _ _ _ _ us hl => match us, hl with | [_, _], _ => rfl) fun f cdv A outer s H vs Q E hr h => ⟨r_l_first K T,
  (pss_cons (ps_if (pt_cmpR (op_eqD hr.units) (pv 1) (pe_lst pa_nil) (nomark _)) (pss_one (ps_ret (pe_cmpR op_isN (pv 0) pe_non (nomark _)))) pss_nil)
  (pss_one (ps_ret (pe_and (pe_g G_l_whole (hr.mono (by decide)) rfl pass0 (pa_cons (pv 0) pa_nil)) (pe_one (pe_cmpR op_eq (pv 0) (pe_ix ix_list (pv 1) pe_int (fun _ _ => rfl)) (nomark _))))))), p_l_first h⟩
theorem sc_l_numbers : FnScope ["_law_cell", "_law_things", "_law_found"] ["_law_cell"] (defScope s_l_numbers) := ⟨rfl, rfl, rfl, by decide +kernel, rfl, by decide +kernel, by decide +kernel⟩
theorem g_l_numbers {P : Program} {w : World} {K : PySem.W.Frag} {mg : Str → Option Value} {base : Heap} {T : List (Addr × Str)} (B : Bi mg) (D : Df K mg "_law_numbers" s_l_numbers) (G_is_whole : Gd P w K mg base CX0 1 "is_whole" ["thing"] (sp_is_whole K T)) : Gd P w K mg base CX0 2 "_law_numbers" ["_law_cell"] (sp_l_numbers K T) :=
  D.ok0 sc_l_numbers len_l_numbers (fun _ _ _ _ _ _ us hl => match us, hl with | [_], _ => rfl) fun f cdv A outer s H vs Q E hr h => ⟨r_l_numbers K T,
  (pss_cons (ps_set (i := 1) sc_l_numbers.nd rfl (Or.inl rfl) (pe_lst (pa_cons pe_int (pa_cons pe_int (pa_cons (pe_un un_neg pe_int) (pa_cons (pe_op op_pow pe_int pe_int) (pa_cons pe_bl (pa_cons pe_bl (pa_cons pe_non (pa_cons pe_str (pa_cons pe_str (pa_cons (pe_lst (pa_cons pe_int pa_nil)) (pa_cons (pe_tup (pa_cons pe_int pa_nil)) (pa_cons (pe_lst pa_nil) (pa_cons pe_dnewK pa_nil)))))))))))))))
  (pss_cons (ps_set (i := 2) sc_l_numbers.nd rfl (Or.inl rfl) (pe_g G_is_whole (hr.mono (by decide)) rfl pass0 (pa_cons (pe_ix ix_list (pv 1) (pe_op op_mod (pv 0) pe_int) (fun _ _ => rfl)) pa_nil)))
  (pss_cons (ps_if (PW.pt (pw_or (pt_not (pt_val (pe_callB call_is rfl B.isinstance (by decide +kernel) (pa_cons (pv 2) (pa_cons (pe_bltn (v := .ty "bool") rfl B.bool (by decide +kernel) rfl) pa_nil))))) (pw_or1 (pt_cmpR op_ne (pv 2) (pe_cmpR op_lt (pe_op op_mod (pv 0) pe_int) pe_int (nomark _)) (nomark _))))) (pss_one (ps_ret pe_bl)) pss_nil)
  (pss_one (ps_ret (pe_cmpR op_isBl (pe_g G_is_whole (hr.mono (by decide)) rfl pass0 (pa_cons (pe_op op_sub (pe_op op_mod (pe_op op_fdivW (pv 0) pe_int) (pe_op op_add (pe_op op_pow pe_int pe_int) pe_int)) (pe_op op_mul pe_int (pe_op op_pow pe_int pe_int))) pa_nil)) pe_bl (nomark _))))))), p_l_numbers h⟩
theorem sc_law : FnScope ["_law_script", "_law_cells", "_law_ranks", "_law_lines_here", "_law_k", "_law_handed", "_law_row_here", "_law_cell"] ["_law_script"] (defScope s_law) := ⟨rfl, rfl, rfl, by decide +kernel, rfl, by decide +kernel, by decide +kernel⟩
theorem w_law {P : Program} {w : World} {K : PySem.W.Frag} {mg : Str → Option Value} {base : Heap} {T : List (Addr × Str)} (B : Bi mg) (G_l_cell_at : Gd P w K mg base CX0 1 "_law_cell_at" ["_law_script", "_law_k"] (sp_l_cell_at K T)) (G_l_first : Gd P w K mg base CX0 2 "_law_first" ["_law_found", "_law_row_here"] (sp_l_first K T)) (G_l_lines : Gd P w K mg base CX0 1 "_law_lines" ["_law_cells", "_law_least"] (sp_l_lines K T)) (G_l_numbers : Gd P w K mg base CX0 2 "_law_numbers" ["_law_cell"] (sp_l_numbers K T)) (G_l_rank : Gd P w K mg base CX0 1 "_law_rank" ["_law_cell", "_law_way"] (sp_l_rank K T)) (G_l_row : Gd P w K mg base CX0 2 "_law_row" ["_law_ranks", "_law_lines_here", "_law_found"] (sp_l_row K T)) (G_l_says : Gd P w K mg base CX0 2 "_law_says" ["_law_ranks", "_law_one", "_law_other"] (sp_l_says K T)) (G_first_of : Gd P w K mg base CX0 2 "first_of" ["ranks", "lines"] (sp_first_of K T)) (G_in_order : Gd P w K mg base CX0 1 "in_order" ["ranks", "lines"] (sp_in_order K T)) : ∀ (f : Addr) (cdv : Value) (A : Around) (outer : List Env) (s : Shared) (H : Hp) (vs : List V) (Q : VK) (E : XK), Room 2 (A.deeper (envOfC "law" (defScope s_law) s.heap.objs.size f cdv)) → sp_law K T vs H Q E →
    ∃ t, PSs (cxOf CX0 P w K mg base ["_law_script", "_law_cells", "_law_ranks", "_law_lines_here", "_law_k", "_law_handed", "_law_row_here", "_law_cell"] "law" (defScope s_law) f cdv A outer s H E).nox (defBody s_law) t ∧ t { nx := fun _ H' => Q .non H', rt := Q } (start ["_law_script", "_law_cells", "_law_ranks", "_law_lines_here", "_law_k", "_law_handed", "_law_row_here", "_law_cell"] vs) H := fun f cdv A outer s H vs Q E hr h => ⟨r_law K T,
  (pss_cons (ps_set (i := 1) sc_law.nd rfl (Or.inl rfl) (pe_slice sl_list (pv 0) (po_some pe_int) (po_some pe_int)))
  (Evl.pss_cut (ps_if (pt_cmpR (op_eqD hr.units) (pv 1) (pe_lst pa_nil) (nomark _)) (pss_one (ps_set (i := 1) sc_law.nd rfl (Or.inl rfl) (pe_lst (pa_cons pe_int pa_nil)))) pss_nil)
  (pss_cons (ps_setLc (i := 2) (own := [("_law_cell", 7)]) rfl sc_law.nd rfl rfl (sw_true rfl rfl rfl (by decide +kernel)) (pi_list (pv 1)) (blkOk_by (own := [("_law_cell", 7)]) (N := ["_law_script", "_law_cells", "_law_ranks", "_law_lines_here", "_law_k", "_law_handed", "_law_row_here", "_law_cell"]) (sc := defScope s_law) (by decide +kernel)) (fun _ _ _ _ _ => (pg_name (i := 7) sc_law.nd rfl (Or.inl rfl))) (fun _ _ _ _ _ => pts_nil) (fun _ _ _ _ _ => (pe_g G_l_rank (hr.mono (by decide)) rfl pass0 (pa_cons (pv 7) (pa_cons (pe_op op_mod (pe_g G_l_cell_at (hr.mono (by decide)) rfl pass0 (pa_cons (pv 0) (pa_cons pe_int pa_nil))) pe_int) pa_nil)))))
  (pss_cons (ps_set (i := 3) sc_law.nd rfl (Or.inl rfl) (pe_g G_l_lines (hr.mono (by decide)) rfl pass0 (pa_cons (pv 1) (pa_cons (pe_ix ix_list (pe_lst (pa_cons pe_int (pa_cons pe_int (pa_cons pe_int (pa_cons pe_int (pa_cons pe_int pa_nil)))))) (pe_op op_mod (pe_g G_l_cell_at (hr.mono (by decide)) rfl pass0 (pa_cons (pv 0) (pa_cons pe_int pa_nil))) pe_int) (fun _ _ => rfl)) pa_nil))))
  (pss_cons (ps_if (pt_not (pt_val (pe_g G_l_numbers (hr.mono (by decide)) rfl pass0 (pa_cons (pe_g G_l_cell_at (hr.mono (by decide)) rfl pass0 (pa_cons (pv 0) (pa_cons pe_int pa_nil))) pa_nil)))) (pss_one (ps_ret pe_bl)) pss_nil)
  (pss_cons (ps_for PassesOwn.never rfl (pi_range1 rfl B.range (pa_cons (pe_callB call_len_seq rfl B.len boot_len (pa_cons (pv 3) pa_nil)) pa_nil)) (pg_name (i := 4) sc_law.nd rfl (Or.inl rfl)) (pss_cons (ps_if (pt_not (pt_val (pe_g G_l_says (hr.mono (by decide)) rfl pass0 (pa_cons (pv 2) (pa_cons (pe_ix ix_list (pv 3) (pv 4) (fun _ _ => rfl)) (pa_cons (pe_ix ix_list (pv 3) (pv 4) (fun _ _ => rfl)) pa_nil)))))) (pss_one (ps_ret pe_bl)) pss_nil)
  (pss_one (ps_if (PW.pt (pw_or (pt_not (pt_val (pe_g G_l_says (hr.mono (by decide)) rfl pass0 (pa_cons (pv 2) (pa_cons (pe_ix ix_list (pv 3) (pe_op op_sub (pv 4) pe_int) (fun _ _ => rfl)) (pa_cons (pe_ix ix_list (pv 3) (pv 4) (fun _ _ => rfl)) pa_nil)))))) (pw_or1 (pt_not (pt_val (pe_g G_l_says (hr.mono (by decide)) rfl pass0 (pa_cons (pv 2) (pa_cons (pe_ix ix_list (pv 3) (pv 4) (fun _ _ => rfl)) (pa_cons (pe_ix ix_list (pv 3) (pe_op op_sub (pv 4) pe_int) (fun _ _ => rfl)) pa_nil))))))))) (pss_one (ps_ret pe_bl)) pss_nil))))
  (pss_cons (ps_set (i := 5) sc_law.nd rfl (Or.inl rfl) (pe_lst (pa_cons (pe_callTy call_list_of rfl B.list (by decide +kernel) (pa_cons (pv 2) pa_nil)) (pa_cons (pe_callTy call_list_of rfl B.list (by decide +kernel) (pa_cons (pv 3) pa_nil)) pa_nil))))
  (pss_cons (ps_set (i := 6) sc_law.nd rfl (Or.inl rfl) (pe_g G_in_order (hr.mono (by decide)) rfl pass0 (pa_cons (pe_ix ix_list (pv 5) pe_int (fun _ _ => rfl)) (pa_cons (pe_ix ix_list (pv 5) pe_int (fun _ _ => rfl)) pa_nil))))
  (pss_cons (ps_if (PW.pt (pw_or (pt_not (pt_val (pe_g G_l_row (hr.mono (by decide)) rfl pass0 (pa_cons (pv 2) (pa_cons (pv 3) (pa_cons (pv 6) pa_nil)))))) (pw_or1 (pt_not (pt_val (pe_g G_l_first (hr.mono (by decide)) rfl pass0 (pa_cons (pe_g G_first_of (hr.mono (by decide)) rfl pass0 (pa_cons (pe_ix ix_list (pv 5) pe_int (fun _ _ => rfl)) (pa_cons (pe_ix ix_list (pv 5) pe_int (fun _ _ => rfl)) pa_nil))) (pa_cons (pv 6) pa_nil)))))))) (pss_one (ps_ret pe_bl)) pss_nil)
  (pss_cons (ps_expr (pe_bm PySem.F.plainAttrs_list PySem.F.slot_list_append PySem.F.type_list_append mt_append (pv 6) (pa_cons pe_int pa_nil)))
  (pss_one (ps_ret (pe_cmpR (op_eqD hr.units) (pv 5) (pe_lst (pa_cons (pv 2) (pa_cons (pv 3) pa_nil))) (nomark _)))))))))))))), p_law h⟩
end Fp

namespace Fp
open PySem PySem.Spec PyProof.Rows L2 LamX
def mkD (x : Str) (s : Stmt) : He.DefD := ⟨(x, none), x, x, defArgs s, defBody s, defScope s, [], []⟩
def mkM (c m q : Str) (s : Stmt) (dv : List He.Dv) : He.DefD := ⟨(c, some m), m, q, defArgs s, defBody s, defScope s, dv, []⟩
def names0 : List Str := ["is_whole", "before", "in_order", "first_of", "_law_cell_at", "_law_whole", "_law_rank", "_law_lines", "_law_comes", "_law_says", "_law_row", "_law_first", "_law_numbers"]
def names : List Str := names0
def fn0 : List He.DefD := [mkD "is_whole" s_is_whole, mkD "before" s_before, mkD "in_order" s_in_order, mkD "first_of" s_first_of, mkD "_law_cell_at" s_l_cell_at, mkD "_law_whole" s_l_whole, mkD "_law_rank" s_l_rank, mkD "_law_lines" s_l_lines, mkD "_law_comes" s_l_comes, mkD "_law_says" s_l_says, mkD "_law_row" s_l_row, mkD "_law_first" s_l_first, mkD "_law_numbers" s_l_numbers, mkD "law" s_law]
def fn : List He.DefD := fn0
def fa0 : List He.Fa := [.glo "is_whole", .glo "before", .glo "in_order", .glo "first_of", .glo "_law_cell_at", .glo "_law_whole", .glo "_law_rank", .glo "_law_lines", .glo "_law_comes", .glo "_law_says", .glo "_law_row", .glo "_law_first", .glo "_law_numbers", .glo "law", .free "len", .free "isinstance", .free "sorted", .free "range", .free "list", .free "int", .free "bool", .free "all", .free "zip", .free "tuple", .free "str", .free "enumerate", .free "min"]
def fa : List He.Fa := fa0
def tf : List He.Defn := [("in_order", none)]
def ex (K : PySem.W.Frag) : Bool := true
section
variable {K : PySem.W.Frag} {h : Heap} {mg : Str → Option Value}
theorem bi_ok (c : He.SaysD fa fn K) (X : K.In h) (G : h.Ns mainGlobals mg) : Bi mg := ⟨He.free_ok X G (c.fact 14 (f := .free "len")), He.free_ok X G (c.fact 15 (f := .free "isinstance")), He.free_ok X G (c.fact 16 (f := .free "sorted")), He.free_ok X G (c.fact 17 (f := .free "range")), He.free_ok X G (c.fact 18 (f := .free "list")), He.free_ok X G (c.fact 19 (f := .free "int")), He.free_ok X G (c.fact 20 (f := .free "bool")), He.free_ok X G (c.fact 21 (f := .free "all")), He.free_ok X G (c.fact 22 (f := .free "zip")), He.free_ok X G (c.fact 23 (f := .free "tuple")), He.free_ok X G (c.fact 24 (f := .free "str")), He.free_ok X G (c.fact 25 (f := .free "enumerate")), He.free_ok X G (c.fact 26 (f := .free "min"))⟩
theorem d_is_whole (c : He.SaysD fa fn K) (X : K.In h) (G : h.Ns mainGlobals mg) : Df K mg "is_whole" s_is_whole := .of (c.def_ 0 (d := mkD "is_whole" s_is_whole)) (He.glo_ok X G (c.fact 0 (f := .glo "is_whole")))
theorem d_before (c : He.SaysD fa fn K) (X : K.In h) (G : h.Ns mainGlobals mg) : Df K mg "before" s_before := .of (c.def_ 1 (d := mkD "before" s_before)) (He.glo_ok X G (c.fact 1 (f := .glo "before")))
theorem d_in_order (c : He.SaysD fa fn K) (X : K.In h) (G : h.Ns mainGlobals mg) : Df K mg "in_order" s_in_order := .of (c.def_ 2 (d := mkD "in_order" s_in_order)) (He.glo_ok X G (c.fact 2 (f := .glo "in_order")))
theorem d_first_of (c : He.SaysD fa fn K) (X : K.In h) (G : h.Ns mainGlobals mg) : Df K mg "first_of" s_first_of := .of (c.def_ 3 (d := mkD "first_of" s_first_of)) (He.glo_ok X G (c.fact 3 (f := .glo "first_of")))
theorem d_l_cell_at (c : He.SaysD fa fn K) (X : K.In h) (G : h.Ns mainGlobals mg) : Df K mg "_law_cell_at" s_l_cell_at := .of (c.def_ 4 (d := mkD "_law_cell_at" s_l_cell_at)) (He.glo_ok X G (c.fact 4 (f := .glo "_law_cell_at")))
theorem d_l_whole (c : He.SaysD fa fn K) (X : K.In h) (G : h.Ns mainGlobals mg) : Df K mg "_law_whole" s_l_whole := .of (c.def_ 5 (d := mkD "_law_whole" s_l_whole)) (He.glo_ok X G (c.fact 5 (f := .glo "_law_whole")))
theorem d_l_rank (c : He.SaysD fa fn K) (X : K.In h) (G : h.Ns mainGlobals mg) : Df K mg "_law_rank" s_l_rank := .of (c.def_ 6 (d := mkD "_law_rank" s_l_rank)) (He.glo_ok X G (c.fact 6 (f := .glo "_law_rank")))
theorem d_l_lines (c : He.SaysD fa fn K) (X : K.In h) (G : h.Ns mainGlobals mg) : Df K mg "_law_lines" s_l_lines := .of (c.def_ 7 (d := mkD "_law_lines" s_l_lines)) (He.glo_ok X G (c.fact 7 (f := .glo "_law_lines")))
theorem d_l_comes (c : He.SaysD fa fn K) (X : K.In h) (G : h.Ns mainGlobals mg) : Df K mg "_law_comes" s_l_comes := .of (c.def_ 8 (d := mkD "_law_comes" s_l_comes)) (He.glo_ok X G (c.fact 8 (f := .glo "_law_comes")))
theorem d_l_says (c : He.SaysD fa fn K) (X : K.In h) (G : h.Ns mainGlobals mg) : Df K mg "_law_says" s_l_says := .of (c.def_ 9 (d := mkD "_law_says" s_l_says)) (He.glo_ok X G (c.fact 9 (f := .glo "_law_says")))
theorem d_l_row (c : He.SaysD fa fn K) (X : K.In h) (G : h.Ns mainGlobals mg) : Df K mg "_law_row" s_l_row := .of (c.def_ 10 (d := mkD "_law_row" s_l_row)) (He.glo_ok X G (c.fact 10 (f := .glo "_law_row")))
theorem d_l_first (c : He.SaysD fa fn K) (X : K.In h) (G : h.Ns mainGlobals mg) : Df K mg "_law_first" s_l_first := .of (c.def_ 11 (d := mkD "_law_first" s_l_first)) (He.glo_ok X G (c.fact 11 (f := .glo "_law_first")))
theorem d_l_numbers (c : He.SaysD fa fn K) (X : K.In h) (G : h.Ns mainGlobals mg) : Df K mg "_law_numbers" s_l_numbers := .of (c.def_ 12 (d := mkD "_law_numbers" s_l_numbers)) (He.glo_ok X G (c.fact 12 (f := .glo "_law_numbers")))
theorem d_law (c : He.SaysD fa fn K) (X : K.In h) (G : h.Ns mainGlobals mg) : Df K mg "law" s_law := .of (c.def_ 13 (d := mkD "law" s_law)) (He.glo_ok X G (c.fact 13 (f := .glo "law")))
end
abbrev R : PySem.W.OpenRow := PySem.W.OpenLaw.row PySem.Challenge.rw_fewpegs_k01_the_order
abbrev hk : PySem.W.Hook := He.hookX 5 fa fn [] tf ex
def ob (s : PySem.W.SharedT) : He.AlX := He.obsX 5 fa fn [] tf ex (HandSHeadRun.getT s)
theorem ob_eq (s : PySem.W.SharedT) : ob s = hk.obs s.abs := He.obsX_eq (HandSHeadRun.getT_eq s)
theorem run (w : World) : HandSHeadRun.RunEq R (PySem.W.view R.prog [15]) hk ob 20000 names w := by
  intro os
  kernel_rfl
abbrev l0 : PySem.W.OpenLaw := PySem.Challenge.rw_fewpegs_k01_the_order
def tT (K : PySem.W.Frag) : List (Addr × Str) := [((He.cT K ("in_order", none)).2, ("in_order" : Str) ++ ".<locals>." ++ "<lambda>")]
theorem lawF (w : World) (mg : Str → Option Value) (fa : Addr) (h : Heap) (Y : hk.says w h) (G : h.Ns mainGlobals mg) (e : mg "law" = some (.ref fa)) : ∃ K : PySem.W.Frag, K.In h ∧ LawAtS l0 w K CX0 3 63 "_law_script" mg fa h := by
  obtain ⟨K, X, c⟩ := Y
  have cd := c.t.d
  have B := bi_ok cd X G
  refine ⟨K, X, law_at (cs := tf.map (He.cT K)) (sp := sp_law K (tT K)) (k := 2) (d_law cd X G) e (List.forall_mem_map.mpr c.empty) (List.forall_mem_map.mpr c.out) (List.forall_mem_map.mpr fun p hp => PySem.W.codeHd_of_K X (c.hd p hp)) sc_law len_law (fun _ _ _ _ _ _ us hl => match us, hl with | [_], _ => rfl) (fun H a ns hn hbits ht hs => ⟨a, ns, rfl, hs, fun p hp => ?_, fun _ _ => rfl⟩) fun base hK Gb tb => ?_⟩
  · rw [List.mem_singleton.mp hp]
    exact TabS.nil (ht _ (List.mem_singleton.mpr rfl))
  ·
    have G_is_whole := g_is_whole (P := l0.prog) (w := w) (base := base) (T := tT K) B (d_is_whole cd X G) 
    have G_before := g_before (P := l0.prog) (w := w) (base := base) (T := tT K) B (d_before cd X G) 
    have G_in_order := g_in_order (P := l0.prog) (w := w) (base := base) (T := tT K) B (d_in_order cd X G) (tb _ (List.mem_singleton.mpr rfl)) (List.mem_singleton.mpr rfl) (fun p hp _ => by rw [List.mem_singleton.mp hp])
    have G_l_cell_at := g_l_cell_at (P := l0.prog) (w := w) (base := base) (T := tT K) B (d_l_cell_at cd X G) 
    have G_l_whole := g_l_whole (P := l0.prog) (w := w) (base := base) (T := tT K) B (d_l_whole cd X G) 
    have G_l_rank := g_l_rank (P := l0.prog) (w := w) (base := base) (T := tT K) B (d_l_rank cd X G) 
    have G_l_lines := g_l_lines (P := l0.prog) (w := w) (base := base) (T := tT K) B (d_l_lines cd X G) 
    have G_l_comes := g_l_comes (P := l0.prog) (w := w) (base := base) (T := tT K) B (d_l_comes cd X G) 
    have G_first_of := g_first_of (P := l0.prog) (w := w) (base := base) (T := tT K) B (d_first_of cd X G) G_before
    have G_l_says := g_l_says (P := l0.prog) (w := w) (base := base) (T := tT K) B (d_l_says cd X G) G_l_comes G_before
    have G_l_row := g_l_row (P := l0.prog) (w := w) (base := base) (T := tT K) B (d_l_row cd X G) G_l_comes G_l_whole
    have G_l_first := g_l_first (P := l0.prog) (w := w) (base := base) (T := tT K) B (d_l_first cd X G) G_l_whole
    have G_l_numbers := g_l_numbers (P := l0.prog) (w := w) (base := base) (T := tT K) B (d_l_numbers cd X G) G_is_whole
    exact w_law B G_l_cell_at G_l_first G_l_lines G_l_numbers G_l_rank G_l_row G_l_says G_first_of G_in_order
end Fp
open PySem PySem.W PySem.Calls PyProof.Rows
theorem PySem.Challenge.cw_fewpegs_k01_the_order_holds : PySem.Challenge.rw_fewpegs_k01_the_order.Holds := by
  w_on; o_law
  refine HandSHeadRun.head_any (r := OpenLaw.row PySem.Challenge.rw_fewpegs_k01_the_order) (q := view (OpenLaw.row PySem.Challenge.rw_fewpegs_k01_the_order).prog [15]) (H := Fp.hk) (ob := Fp.ob) (M := 20000) (loose := Fp.names) (d := HandSHeadRun.topDef (OpenLaw.row PySem.Challenge.rw_fewpegs_k01_the_order).prog 15) (kwd := []) Fp.ob_eq
    (by kernel_rfl) (fun s => by kernel_rfl) Fp.run (by kernel_rfl) (by kernel_rfl) (by kernel_rfl) (by rfl) (by first | assumption | decide +kernel) (by decide +kernel) ⟨rfl, rfl, rfl, rfl, rfl, by decide +kernel⟩ ?hw ?hc
  case hw => w_witness2
  case hc => exact LamX.walk_ofTsE (l := PySem.Challenge.rw_fewpegs_k01_the_order) (n := 63) (k := 3) (CX := fun _ => L2.CX0) (x := "_law_script") rfl (by decide) rfl ⟨rfl, by decide +kernel, by decide +kernel⟩ (fun w mg fa h Y G e => Fp.lawF w mg fa h Y G e) (fun _ _ _ _ _ h => h)

