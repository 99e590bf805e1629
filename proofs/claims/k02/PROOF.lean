import PyProof.Rows.All
import Wide.All
import OpenK.AllK
import Wide.FinOn
import KE.KStateDown
import KE.SortKeyHeap
import KE.KLam
import HandS.ForMost
import HandS.ForExc
import HandS.Defaults
import HandS.IsInst
import HandS.Wide
import HandS.Style
import HandS.SetFor
import HandS.Lambda
import HandS.More
import HandS.HeadHook1
import HandS.HeadHook2
import HandS.HeadHook4
import HandS.Evl
import HandS.ExcIs
import HandS.NoneIn
import HandS.HeadWalk
import HandS.Head0
import HandS.Head1
import HandS.Head2
import HandS.HeadEnd
import PySem.Challenge.RW_fewpegs_k02_pegs_come_and_go
import KE.KNestM
import HandS.NestedK
set_option Elab.async false
set_option linter.all false
set_option maxRecDepth 100000
set_option maxHeartbeats 4000000
namespace Fp
open PySem PySem.Spec PyProof.Rows L2 LamX

/-! ### how the heap moves -/
/-- what is data: all but code tables and things known by a fact -/
def dat : HO → Bool
  | .tbl _ => false
  | .ext _ => false
  | _ => true
/-- no data at p -/
def nod (H : Hp) (p : Addr) : Prop := ∀ o, H p = some o → dat o = false
theorem nod.of {H : Hp} {p : Addr} (h : H p = none) : nod H p := fun o e => by rw [h] at e; cases e
theorem nod.ne {H : Hp} {p b : Addr} {o : HO} (n : nod H p) (h : H b = some o) (d : dat o = true := by rfl) : b ≠ p := fun z => by
  subst z
  rw [n o h] at d
  cases d
/-- from H to H': data outside of S stays, no data is forgotten, the tables stay tables -/
structure Mv (T : List (Addr × Str)) (S : Addr → Prop) (H H' : Hp) : Prop where
  kp : ∀ b o, H b = some o → dat o = true → ¬ S b → H' b = some o
  dm : ∀ b, nod H' b → nod H b
  tb : Tabs T H → Tabs T H'
abbrev no : Addr → Prop := fun _ => False
abbrev Ex (T : List (Addr × Str)) (H H' : Hp) : Prop := Mv T no H H'
section
variable {T : List (Addr × Str)} {S S' : Addr → Prop} {H H' H1 H2 : Hp} {p : Addr} {o u : HO}
theorem Mv.refl : Mv T S H H := ⟨fun _ _ h _ _ => h, fun _ h => h, fun h => h⟩
theorem Mv.of (T : List (Addr × Str)) (H : Hp) : Ex T H H := Mv.refl
theorem Mv.trans (a : Mv T S H H1) (b : Mv T S H1 H2) : Mv T S H H2 :=
  ⟨fun c o h d s => b.kp c o (a.kp c o h d s) d s, fun c h => a.dm c (b.dm c h), fun t => b.tb (a.tb t)⟩
theorem Mv.wk (a : Mv T S H H1) (h : ∀ b, S b → S' b) : Mv T S' H H1 := ⟨fun c o e d s => a.kp c o e d fun z => s (h c z), a.dm, a.tb⟩
theorem Mv.mv (a : Mv T no H H1) : Mv T S H H1 := a.wk fun _ z => z.elim
theorem Mv.new (hp : H p = none) : Mv T S H (upd H p o) := by
  have k : ∀ b u, H b = some u → upd H p o b = some u := fun b u e => by rw [upd_ne (ne_of_none e hp)]; exact e
  exact ⟨fun b u e _ _ => k b u e, fun b e w q => e w (k b w q), fun t => t.ext k⟩
/-- a thing of S, or a new one, is changed -/
theorem Mv.set (m : Mv T S H H') (hs : S p ∨ nod H p) (hp : H' p = some u) (du : dat u = true := by rfl) (dn : dat o = true := by rfl) : Mv T S H (upd H' p o) := by
  refine ⟨fun b w e d s => ?_, fun b e => ?_, fun t q hq => ?_⟩
  · have n : b ≠ p := by
      rintro rfl
      rcases hs with z | z
      · exact s z
      · rw [z w e] at d; cases d
    rw [upd_ne n]
    exact m.kp b w e d s
  · by_cases z : b = p
    · subst z
      have q := e o upd_same
      rw [dn] at q
      cases q
    · exact m.dm b fun w q => e w (by rw [upd_ne z]; exact q)
  · obtain ⟨ps, h1, h2, h3⟩ := m.tb t q hq
    have n : ∀ b w, H' b = some w → dat w = false → upd H' p o b = some w := fun b w e d => by
      rw [upd_ne]
      · exact e
      · rintro rfl
        rw [hp] at e
        cases e
        rw [du] at d
        cases d
    exact ⟨ps, n _ _ h1 rfl, h2, fun pos cv e => by
      obtain ⟨c, e1, e2⟩ := h3 pos cv e
      exact ⟨c, e1, n _ _ e2 rfl⟩⟩
theorem Mv.set1 (hp : H p = some u) (du : dat u = true := by rfl) (dn : dat o = true := by rfl) : Mv T (fun b => b = p) H (upd H p o) := Mv.refl.set (.inl rfl) hp du dn
theorem Mv.nod (m : Mv T S H H') (h : H' p = none) : nod H p := m.dm p (.of h)
theorem Mv.rd {a : Addr} (m : Mv T S H H') (h : Rd H a u) (d : dat u = true) (s : ¬ S a) : Rd H' a u := by
  rcases h with h | ⟨w, h⟩
  · exact .inl (m.kp a _ h d s)
  · exact .inr ⟨w, m.kp a _ h rfl s⟩
variable {K : PySem.W.Frag} {a : Addr} {xs : List V}
theorem Mv.lS (m : Mv T S H H') (h : SqL K H a xs) (s : ¬ S a) : SqL K H' a xs := by
  rcases h with h | h
  · exact .inl (m.rd h rfl s)
  · exact .inr h
theorem Mv.tS (m : Mv T S H H') (h : SqT K H a xs) (s : ¬ S a) : SqT K H' a xs := by
  rcases h with h | h
  · exact .inl (m.rd h rfl s)
  · exact .inr h
theorem Mv.l (m : Mv T no H H') (h : SqL K H a xs) : SqL K H' a xs := m.lS h id
theorem Mv.t (m : Mv T no H H') (h : SqT K H a xs) : SqT K H' a xs := m.tS h id
theorem Mv.at (m : Mv T no H H') (h : H a = some o) (d : dat o = true := by rfl) : H' a = some o := m.kp a o h d id
end
theorem sz {n : Nat} (h : n ≤ 100000) : n ≤ sizeLine := Nat.le_trans h (by decide)
theorem szl {n : Nat} (h : n < 100000) : n < sizeLine := Nat.lt_of_lt_of_le h (by decide)

/-! ### kinds of things -/
/-- the kind of a value, by its name; "" where it is not told -/
def kd (H : Hp) : V → String
  | .non => "NoneType"
  | .bl _ => "bool"
  | .int _ => "int"
  | .str _ => "str"
  | .ref a => match H a with
    | some (.lst _) => "list"
    | some (.tup _) => "tuple"
    | some (.dK _) => "dict"
    | some (.frz _ (.lst _)) => "list"
    | _ => ""
  | _ => ""
theorem kd_mono {T : List (Addr × Str)} {S : Addr → Prop} {H H' : Hp} {x : V} (m : Mv T S H H') (s : ∀ a, x = .ref a → ¬ S a) (h : kd H x ≠ "") : kd H' x = kd H x := by
  cases x with
  | ref a =>
    cases e : H a with
    | none => exact absurd (show kd H (.ref a) = "" by simp only [kd, e]) h
    | some o =>
      cases d : dat o with
      | true => simp only [kd, e, m.kp a o e d (s a rfl)]
      | false => cases o <;> first | (cases d; done) | exact absurd (show kd H (.ref a) = "" by simp only [kd, e]) h
  | _ => rfl
theorem kd_ex {T : List (Addr × Str)} {H H' : Hp} {x : V} {k : String} (m : Ex T H H') (h : kd H x = k) (hk : k ≠ "") : kd H' x = k := by
  subst h
  exact kd_mono m (fun _ _ z => z) hk
/-- isinstance of a thing of the kind k, of a built-in class c -/
def isK (k c : String) : Bool := k == c || (k == "bool" && c == "int")
theorem kd_ty {K : PySem.W.Frag} {H : Hp} {x : V} (h : kd H x ≠ "") : TyX K H x (.type (kd H x)) ∧ (kd H x = "NoneType" ∨ kd H x = "bool" ∨ kd H x = "int" ∨ kd H x = "str" ∨ kd H x = "list" ∨ kd H x = "tuple" ∨ kd H x = "dict") := by
  cases x with
  | non => exact ⟨.base .non, by simp [kd]⟩
  | bl b => exact ⟨.base (.bl b), by simp [kd]⟩
  | int i => exact ⟨.base (.int i), by simp [kd]⟩
  | str z => exact ⟨.base (.str z), by simp [kd]⟩
  | ref a =>
    cases e : H a with
    | none => exact absurd (show kd H (.ref a) = "" by simp only [kd, e]) h
    | some o =>
      cases o with
      | lst xs => have q : kd H (.ref a) = "list" := by simp only [kd, e]
                  rw [q]; exact ⟨.base (.lst e), by simp⟩
      | tup xs => have q : kd H (.ref a) = "tuple" := by simp only [kd, e]
                  rw [q]; exact ⟨.base (.tup e), by simp⟩
      | dK xs => have q : kd H (.ref a) = "dict" := by simp only [kd, e]
                 rw [q]; exact ⟨.base (.dK e), by simp⟩
      | frz ob u =>
        cases u with
        | lst xs => have q : kd H (.ref a) = "list" := by simp only [kd, e]
                    rw [q]; exact ⟨.base (.frz e), by simp⟩
        | _ => exact absurd (show kd H (.ref a) = "" by simp only [kd, e]) h
      | _ => exact absurd (show kd H (.ref a) = "" by simp only [kd, e]) h
  | _ => exact absurd rfl h
/-- isinstance(x, c), c one of five built-in classes -/
def rIs : List V → Hp → VK → Prop := fun xs H Q => ∃ (x : V) (c : String), xs = [x, .ty c] ∧ kd H x ≠ "" ∧ (c = "int" ∨ c = "bool" ∨ c = "list" ∨ c = "tuple" ∨ c = "str") ∧ Q (.bl (isK (kd H x) c)) H
theorem call_is {X : Cx} : CallR X (.builtin "isinstance") rIs := by
  intro pins s σ H xs us Q I r h
  obtain ⟨x, c, rfl, hk, hc, q⟩ := h
  obtain ⟨ty, hn⟩ := kd_ty (K := X.K) hk
  refine call_isi pins s σ H [x, .ty c] us Q I r ⟨x, .ty c, _, _, isK (kd H x) c, rfl, ClsV.ty c, ty, kit_ty ?_, q⟩
  rcases hn with e | e | e | e | e | e | e <;> rw [e] <;> rcases hc with z | z | z | z | z <;> subst z <;> decide +kernel

/-! ### what gives what -/
/-- te gives v, from every heap behind H -/
def Ev (T : List (Addr × Str)) (te : TE) (σ : L2.St) (H : Hp) (v : V) : Prop := ∀ H1, Ex T H H1 → ∀ Q : VK, (∀ H2, Ex T H1 H2 → Q v H2) → te σ H1 Q
/-- te gives what R says, of the heap ahead, the value, the heap behind -/
def EvR (T : List (Addr × Str)) (te : TE) (σ : L2.St) (H : Hp) (R : Hp → V → Hp → Prop) : Prop := ∀ H1, Ex T H H1 → ∀ Q : VK, (∀ v H2, Ex T H1 H2 → R H1 v H2 → Q v H2) → te σ H1 Q
def newL (xs : List V) : Hp → V → Hp → Prop := fun H v H' => ∃ p, v = .ref p ∧ nod H p ∧ H' p = some (.lst xs)
def newU (xs : List V) : Hp → V → Hp → Prop := fun H v H' => ∃ p, v = .ref p ∧ nod H p ∧ H' p = some (.tup xs)
abbrev EvL (T : List (Addr × Str)) (te : TE) (σ : L2.St) (H : Hp) (xs : List V) : Prop := EvR T te σ H (newL xs)
abbrev EvU (T : List (Addr × Str)) (te : TE) (σ : L2.St) (H : Hp) (xs : List V) : Prop := EvR T te σ H (newU xs)
def EvT (T : List (Addr × Str)) (tt : TT) (σ : L2.St) (H : Hp) (b : Bool) : Prop := ∀ H1, Ex T H H1 → ∀ Q : Bool → Hp → Prop, (∀ H2, Ex T H1 H2 → Q b H2) → tt σ H1 Q
def EvA (T : List (Addr × Str)) (ta : TA) (σ : L2.St) (H : Hp) (vs : List V) : Prop := ∀ H1, Ex T H H1 → ∀ Q : List V → Hp → Prop, (∀ H2, Ex T H1 H2 → Q vs H2) → ta σ H1 Q
def EvAR (T : List (Addr × Str)) (ta : TA) (σ : L2.St) (H : Hp) (R : Hp → List V → Hp → Prop) : Prop := ∀ H1, Ex T H H1 → ∀ Q : List V → Hp → Prop, (∀ vs H2, Ex T H1 H2 → R H1 vs H2 → Q vs H2) → ta σ H1 Q
def EvO (T : List (Addr × Str)) (to : TO) (σ : L2.St) (H : Hp) (o : Option Int) : Prop := ∀ H1, Ex T H H1 → ∀ Q : Option Int → Hp → Prop, (∀ H2, Ex T H1 H2 → Q o H2) → to σ H1 Q
def RV (T : List (Addr × Str)) (r : R2) (x y : V) (H : Hp) (z : V) : Prop := ∀ H1, Ex T H H1 → ∀ Q : VK, (∀ H2, Ex T H1 H2 → Q z H2) → r x y H1 Q
def RVR (T : List (Addr × Str)) (r : R2) (x y : V) (H : Hp) (R : Hp → V → Hp → Prop) : Prop := ∀ H1, Ex T H H1 → ∀ Q : VK, (∀ v H2, Ex T H1 H2 → R H1 v H2 → Q v H2) → r x y H1 Q
def RC (T : List (Addr × Str)) (r : List V → Hp → VK → Prop) (vs : List V) (H : Hp) (z : V) : Prop := ∀ H1, Ex T H H1 → ∀ Q : VK, (∀ H2, Ex T H1 H2 → Q z H2) → r vs H1 Q
def RCR (T : List (Addr × Str)) (r : List V → Hp → VK → Prop) (vs : List V) (H : Hp) (R : Hp → V → Hp → Prop) : Prop := ∀ H1, Ex T H H1 → ∀ Q : VK, (∀ v H2, Ex T H1 H2 → R H1 v H2 → Q v H2) → r vs H1 Q
def SpV (T : List (Addr × Str)) (sp : Sp) (vs : List V) (H : Hp) (z : V) : Prop := ∀ H1, Ex T H H1 → ∀ Q : VK, (∀ H2, Ex T H1 H2 → Q z H2) → ∀ E : XK, sp vs H1 Q E
def SpR (T : List (Addr × Str)) (sp : Sp) (vs : List V) (H : Hp) (R : Hp → V → Hp → Prop) : Prop := ∀ H1, Ex T H H1 → ∀ Q : VK, (∀ v H2, Ex T H1 H2 → R H1 v H2 → Q v H2) → ∀ E : XK, sp vs H1 Q E

section
variable {T : List (Addr × Str)} {K : PySem.W.Frag} {σ : L2.St} {H H' : Hp} {ta tb te tx : TE} {t u : TT} {x y z v : V} {r : R2} {R R' R1 : Hp → V → Hp → Prop}
theorem Ev.mono (e : Ex T H H') (h : Ev T te σ H v) : Ev T te σ H' v := fun H1 a Q q => h H1 (e.trans a) Q q
theorem EvR.mono (e : Ex T H H') (h : EvR T te σ H R) : EvR T te σ H' R := fun H1 a Q q => h H1 (e.trans a) Q q
theorem EvT.mono {b : Bool} (e : Ex T H H') (h : EvT T t σ H b) : EvT T t σ H' b := fun H1 a Q q => h H1 (e.trans a) Q q
theorem EvA.mono {ta : TA} {vs : List V} (e : Ex T H H') (h : EvA T ta σ H vs) : EvA T ta σ H' vs := fun H1 a Q q => h H1 (e.trans a) Q q
theorem EvR.imp (h : EvR T te σ H R) (i : ∀ H1 v H2, Ex T H H1 → Ex T H1 H2 → R H1 v H2 → R' H1 v H2) : EvR T te σ H R' := fun H1 a Q q => h H1 a Q fun v H2 e r => q v H2 e (i H1 v H2 a e r)
theorem Ev.toR (h : Ev T te σ H v) : EvR T te σ H (fun _ w _ => w = v) := fun H1 a Q q => h H1 a Q fun H2 e => q v H2 e rfl
theorem EvR.toV (h : EvR T te σ H (fun _ w _ => w = v)) : Ev T te σ H v := fun H1 a Q q => h H1 a Q fun w H2 e z => by rw [z]; exact q H2 e
theorem ev_is {w : V} (h : Ev T te σ H v) (e : v = w) : Ev T te σ H w := e ▸ h
theorem et_is {a b : Bool} (h : EvT T t σ H a) (e : a = b) : EvT T t σ H b := e ▸ h
theorem ev_var {i : Nat} (h : σ[i]? = some (some v)) : Ev T (tVar i) σ H v := fun H1 _ _ q => ⟨v, h, q H1 Mv.refl⟩
theorem ev_c : Ev T (tC v) σ H v := fun H1 _ _ q => q H1 Mv.refl
theorem ev_op (ha : Ev T ta σ H x) (hb : Ev T tb σ H y) (hr : RV T r x y H z) : Ev T (tOp r ta tb) σ H z := fun H1 e Q q =>
  ha H1 e _ fun H2 e2 => hb H2 (e.trans e2) _ fun H3 e3 => hr H3 ((e.trans e2).trans e3) Q fun H4 e4 => q H4 ((e2.trans e3).trans e4)
/-- both, one, or none of the two is told by a relation; what is made of them as well -/
theorem er_op (ha : EvR T ta σ H R) (hb : ∀ H1 x H2, Ex T H H1 → Ex T H1 H2 → R H1 x H2 → EvR T tb σ H2 R') (hr : ∀ H1 x H2 y H3, Ex T H H1 → Ex T H1 H2 → R H1 x H2 → Ex T H2 H3 → R' H2 y H3 → RVR T r x y H3 fun _ v H4 => Ex T H3 H4 → R1 H1 v H4) :
    EvR T (tOp r ta tb) σ H R1 := fun H1 e Q q =>
  ha H1 e _ fun x H2 e2 r2 => hb H1 x H2 e e2 r2 H2 Mv.refl _ fun y H3 e3 r3 => hr H1 x H2 y H3 e e2 r2 e3 r3 H3 Mv.refl Q fun w H4 e4 r4 => q w H4 ((e2.trans e3).trans e4) (r4 e4)
theorem ev_opLL {xs ys : List V} (ha : EvL T ta σ H xs) (hb : ∀ H1, Ex T H H1 → EvL T tb σ H1 ys) (hr : ∀ p q H1, H1 p = some (.lst xs) → H1 q = some (.lst ys) → Ex T H H1 → RV T r (.ref p) (.ref q) H1 z) : Ev T (tOp r ta tb) σ H z := fun H1 e Q k =>
  ha H1 e _ fun _ H2 e2 ⟨p, ep, _, hp⟩ => hb H2 (e.trans e2) H2 Mv.refl _ fun _ H3 e3 ⟨q, eq, _, hq⟩ => by
    subst ep eq
    exact hr p q H3 (e3.at hp) hq ((e.trans e2).trans e3) H3 Mv.refl Q fun H4 e4 => k H4 ((e2.trans e3).trans e4)
theorem ev_opVL {ys : List V} (ha : Ev T ta σ H x) (hb : EvL T tb σ H ys) (hr : ∀ q H1, H1 q = some (.lst ys) → Ex T H H1 → RV T r x (.ref q) H1 z) : Ev T (tOp r ta tb) σ H z := fun H1 e Q k =>
  ha H1 e _ fun H2 e2 => hb H2 (e.trans e2) _ fun _ H3 e3 ⟨q, eq, _, hq⟩ => by
    subst eq
    exact hr q H3 hq ((e.trans e2).trans e3) H3 Mv.refl Q fun H4 e4 => k H4 ((e2.trans e3).trans e4)
theorem ev_opVU {ys : List V} (ha : Ev T ta σ H x) (hb : EvU T tb σ H ys) (hr : ∀ q H1, H1 q = some (.tup ys) → Ex T H H1 → RV T r x (.ref q) H1 z) : Ev T (tOp r ta tb) σ H z := fun H1 e Q k =>
  ha H1 e _ fun H2 e2 => hb H2 (e.trans e2) _ fun _ H3 e3 ⟨q, eq, _, hq⟩ => by
    subst eq
    exact hr q H3 hq ((e.trans e2).trans e3) H3 Mv.refl Q fun H4 e4 => k H4 ((e2.trans e3).trans e4)
theorem ev_opLV {xs : List V} (ha : EvL T ta σ H xs) (hb : Ev T tb σ H y) (hr : ∀ q H1, H1 q = some (.lst xs) → Ex T H H1 → RV T r (.ref q) y H1 z) : Ev T (tOp r ta tb) σ H z := fun H1 e Q k =>
  ha H1 e _ fun _ H2 e2 ⟨q, eq, _, hq⟩ => hb H2 (e.trans e2) _ fun H3 e3 => by
    subst eq
    exact hr q H3 (e3.at hq) ((e.trans e2).trans e3) H3 Mv.refl Q fun H4 e4 => k H4 ((e2.trans e3).trans e4)
theorem ev_opUU {xs ys : List V} (ha : EvU T ta σ H xs) (hb : ∀ H1, Ex T H H1 → EvU T tb σ H1 ys) (hr : ∀ p q H1, H1 p = some (.tup xs) → H1 q = some (.tup ys) → Ex T H H1 → RV T r (.ref p) (.ref q) H1 z) : Ev T (tOp r ta tb) σ H z := fun H1 e Q k =>
  ha H1 e _ fun _ H2 e2 ⟨p, ep, _, hp⟩ => hb H2 (e.trans e2) H2 Mv.refl _ fun _ H3 e3 ⟨q, eq, _, hq⟩ => by
    subst ep eq
    exact hr p q H3 (e3.at hp) hq ((e.trans e2).trans e3) H3 Mv.refl Q fun H4 e4 => k H4 ((e2.trans e3).trans e4)
theorem ev_un {f : V → Hp → VK → Prop} (ha : Ev T ta σ H x) (hr : ∀ H1, Ex T H H1 → ∀ Q : VK, (∀ H2, Ex T H1 H2 → Q z H2) → f x H1 Q) : Ev T (tUn f ta) σ H z := fun H1 e Q q =>
  ha H1 e _ fun H2 e2 => hr H2 (e.trans e2) Q fun H3 e3 => q H3 (e2.trans e3)
theorem ev_neg {i : Int} (ha : Ev T ta σ H (.int i)) : Ev T (tUn (rU fun i => .int (-i)) ta) σ H (.int (-i)) := ev_un ha fun H1 _ _ q => ⟨i, rfl, q H1 Mv.refl⟩
theorem ev_rep {k : Int} {xs ys : List V} (ha : EvL T ta σ H xs) (hb : Ev T tb σ H (.int k)) (h1 : 0 ≤ k ∧ k ≤ 1000) (h2 : xs.length ≤ 100) (h3 : (List.replicate k.toNat xs).flatten = ys) : EvL T (tOp rRep ta tb) σ H ys := fun H1 e Q q =>
  ha H1 e _ fun _ H2 e2 ⟨p, ep, np, hp⟩ => hb H2 (e.trans e2) _ fun H3 e3 => by
    subst ep
    have hz : xs.length * k.toNat ≤ 100 * 1000 := Nat.mul_le_mul h2 (by omega)
    have hb := e3.at hp
    refine ⟨p, k, xs, rfl, rfl, hb, by omega, by omega, sz hz, fun q' hq' => ?_⟩
    exact q _ _ ((e2.trans e3).trans (Mv.new hq')) ⟨q', rfl, e2.dm _ (e3.nod hq'), by rw [upd_same, ← h3]⟩
/-! operators on values -/
theorem rv_i0 {g : Int → Int → V} {i j : Int} : RV T (rI0 g) (.int i) (.int j) H (g i j) := fun H1 _ _ q => ⟨i, j, rfl, rfl, q H1 Mv.refl⟩
theorem rv_i {C : Int → Int → Prop} {g : Int → Int → V} {i j : Int} (hc : C i j) : RV T (rI C g) (.int i) (.int j) H (g i j) := fun H1 _ _ q => ⟨i, j, rfl, rfl, hc, q H1 Mv.refl⟩
theorem rv_eq (h : scal x y = true) : RV T rEq x y H (.bl (decide (x = y))) := fun H1 _ _ q => ⟨h, q H1 Mv.refl⟩
theorem rv_ne (h : scal x y = true) : RV T rNe x y H (.bl (!decide (x = y))) := fun H1 _ _ q => ⟨h, q H1 Mv.refl⟩
theorem rv_eqI {i j : Int} : RV T rEq (.int i) (.int j) H (.bl (decide (i = j))) := fun H1 e Q q => rv_eq rfl H1 e Q fun H2 e2 => by
  rw [show decide (V.int i = V.int j) = decide (i = j) by simp]
  exact q H2 e2
theorem rv_neI {i j : Int} : RV T rNe (.int i) (.int j) H (.bl (!decide (i = j))) := fun H1 e Q q => rv_ne rfl H1 e Q fun H2 e2 => by
  rw [show decide (V.int i = V.int j) = decide (i = j) by simp]
  exact q H2 e2
theorem rv_eqB {i j : Bool} : RV T rEq (.bl i) (.bl j) H (.bl (i == j)) := fun H1 e Q q => rv_eq rfl H1 e Q fun H2 e2 => by
  rw [show decide (V.bl i = V.bl j) = (i == j) by cases i <;> cases j <;> rfl]
  exact q H2 e2
theorem rv_neB {i j : Bool} : RV T rNe (.bl i) (.bl j) H (.bl (i != j)) := fun H1 e Q q => rv_ne rfl H1 e Q fun H2 e2 => by
  rw [show (!decide (V.bl i = V.bl j)) = (i != j) by cases i <;> cases j <;> rfl]
  exact q H2 e2
theorem rv_eqS {i j : Str} : RV T rEq (.str i) (.str j) H (.bl (decide (i = j))) := fun H1 e Q q => rv_eq rfl H1 e Q fun H2 e2 => by
  rw [show decide (V.str i = V.str j) = decide (i = j) by simp]
  exact q H2 e2
theorem rv_isN : RV T (fun x y H Q => y = .non ∧ Q (.bl (decide (x = .non))) H) x .non H (.bl (decide (x = .non))) := fun H1 _ _ q => ⟨rfl, q H1 Mv.refl⟩
theorem rv_notN : RV T (fun x y H Q => y = .non ∧ Q (.bl (!decide (x = .non))) H) x .non H (.bl (!decide (x = .non))) := fun H1 _ _ q => ⟨rfl, q H1 Mv.refl⟩
theorem rv_ixL {p : Addr} {xs : List V} {i : Int} (h : SqL K H p xs) (ha : atI xs i = some v) : RV T (rIxL K) (.ref p) (.int i) H v := fun H1 e _ q => ⟨p, xs, i, v, rfl, rfl, e.l h, ha, q H1 Mv.refl⟩
theorem rv_ixT {p : Addr} {xs : List V} {i : Int} (h : SqT K H p xs) (ha : atI xs i = some v) : RV T (rIxT K) (.ref p) (.int i) H v := fun H1 e _ q => ⟨p, xs, i, v, rfl, rfl, e.t h, ha, q H1 Mv.refl⟩
theorem rv_in {neg : Bool} {p : Addr} {xs : List V} (h : SqL K H p xs ∨ SqT K H p xs) (hx : flatV x = true) (ha : xs.all flatV = true) : RV T (rIn K neg) x (.ref p) H (.bl (if neg then !inV x xs else inV x xs)) :=
  fun H1 e _ q => ⟨p, xs, rfl, h.imp e.l e.t, hx, ha, q H1 Mv.refl⟩
theorem inV_int {i : Int} {ns : List Int} : inV (.int i) (ns.map V.int) = decide (i ∈ ns) := by
  unfold inV
  rw [List.any_map, Bool.eq_iff_iff]
  simp [List.any_eq_true, eqV]
theorem flat_ints : ∀ ns : List Int, (ns.map V.int).all flatV = true := fun ns => by simp [List.all_eq_true, flatV]
theorem rv_inI {i : Int} {p : Addr} {ns : List Int} (h : SqL K H p (ns.map V.int)) : RV T (rIn K false) (.int i) (.ref p) H (.bl (decide (i ∈ ns))) := by
  have q := rv_in (T := T) (neg := false) (x := .int i) (.inl h) rfl (flat_ints ns)
  rw [inV_int] at q
  exact q
theorem rv_niI {i : Int} {p : Addr} {ns : List Int} (h : SqL K H p (ns.map V.int)) : RV T (rIn K true) (.int i) (.ref p) H (.bl (!decide (i ∈ ns))) := by
  have q := rv_in (T := T) (neg := true) (x := .int i) (.inl h) rfl (flat_ints ns)
  rw [inV_int] at q
  exact q
theorem rv_isB {a b : Bool} : RV T rIsB (.bl a) (.bl b) H (.bl (decide (a = b))) := fun H1 _ _ q => ⟨a, b, rfl, rfl, q H1 Mv.refl⟩
/-! tests, and, or, not -/
theorem et_test {b : Bool} (h : Ev T te σ H (.bl b)) : EvT T (tTest te) σ H b := fun H1 e _ q => h H1 e _ fun H2 e2 => ⟨b, rfl, q H2 e2⟩
theorem et_B {b : Bool} (h : Ev T te σ H (.bl b)) : EvT T (tB te) σ H b := fun H1 e _ q => h H1 e _ fun H2 e2 => ⟨b, rfl, q H2 e2⟩
theorem et_and {a b : Bool} (h1 : EvT T t σ H a) (h2 : a = true → EvT T u σ H b) : EvT T (tAnd t u) σ H (a && b) := fun H1 e Q q => h1 H1 e _ fun H2 e2 => by
  cases a with
  | true => exact h2 rfl H2 (e.trans e2) Q fun H3 e3 => q H3 (e2.trans e3)
  | false => exact q H2 e2
theorem et_or {a b : Bool} (h1 : EvT T t σ H a) (h2 : a = false → EvT T u σ H b) : EvT T (tOr t u) σ H (a || b) := fun H1 e Q q => h1 H1 e _ fun H2 e2 => by
  cases a with
  | true => exact q H2 e2
  | false => exact h2 rfl H2 (e.trans e2) Q fun H3 e3 => q H3 (e2.trans e3)
theorem et_not {a : Bool} (h1 : EvT T t σ H a) : EvT T (tNot t) σ H (!a) := fun H1 e _ q => h1 H1 e _ fun H2 e2 => q H2 e2
theorem ev_and {a b : Bool} (h1 : Ev T ta σ H (.bl a)) (h2 : a = true → Ev T tb σ H (.bl b)) : Ev T (tAndV ta tb) σ H (.bl (a && b)) := fun H1 e Q q => h1 H1 e _ fun H2 e2 => ⟨a, rfl, by
  cases a with
  | true => exact h2 rfl H2 (e.trans e2) Q fun H3 e3 => q H3 (e2.trans e3)
  | false => exact q H2 e2⟩
theorem ev_or {a b : Bool} (h1 : Ev T ta σ H (.bl a)) (h2 : a = false → Ev T tb σ H (.bl b)) : Ev T (tOrV ta tb) σ H (.bl (a || b)) := fun H1 e Q q => h1 H1 e _ fun H2 e2 => ⟨a, rfl, by
  cases a with
  | true => exact q H2 e2
  | false => exact h2 rfl H2 (e.trans e2) Q fun H3 e3 => q H3 (e2.trans e3)⟩
theorem ev_not {a : Bool} (h1 : Ev T ta σ H (.bl a)) : Ev T (tNotV ta) σ H (.bl (!a)) := fun H1 e _ q => h1 H1 e _ fun H2 e2 => ⟨a, rfl, q H2 e2⟩
/-- a op b op' c, on whole numbers -/
theorem ev_chain {tc : TE} {g g' : Int → Int → Bool} {i j k : Int} (ha : Ev T ta σ H (.int i)) (hb : Ev T tb σ H (.int j)) (hc : g i j = true → Ev T tc σ H (.int k)) :
    Ev T (tChain (rI0 fun i j => .bl (g i j)) (rI0 fun i j => .bl (g' i j)) ta tb tc) σ H (.bl (g i j && g' j k)) := fun H1 e Q q =>
  ha H1 e _ fun H2 e2 => hb H2 (e.trans e2) _ fun H3 e3 => ⟨i, j, rfl, rfl, g i j, rfl, by
    cases h : g i j with
    | true =>
      rw [h] at q
      show tc σ H3 _
      exact hc h H3 ((e.trans e2).trans e3) _ fun H4 e4 => ⟨j, k, rfl, rfl, q H4 ((e2.trans e3).trans e4)⟩
    | false =>
      rw [h] at q
      exact q H3 (e2.trans e3)⟩
theorem ev_if {b : Bool} (h : EvT T t σ H b) (h1 : b = true → Ev T ta σ H v) (h2 : b = false → Ev T tb σ H v) : Ev T (tIf t ta tb) σ H v := fun H1 e Q q => h H1 e _ fun H2 e2 => by
  cases b with
  | true => exact h1 rfl H2 (e.trans e2) Q fun H3 e3 => q H3 (e2.trans e3)
  | false => exact h2 rfl H2 (e.trans e2) Q fun H3 e3 => q H3 (e2.trans e3)
/-! arguments, displays, calls -/
theorem ea_nil : EvA T tNil σ H [] := fun H1 _ _ q => q H1 Mv.refl
theorem ea_cons {tr : TA} {vs : List V} (h : Ev T ta σ H x) (hr : EvA T tr σ H vs) : EvA T (tCons ta tr) σ H (x :: vs) := fun H1 e _ q =>
  h H1 e _ fun H2 e2 => hr H2 (e.trans e2) _ fun H3 e3 => q H3 (e2.trans e3)
theorem EvA.toR {ta : TA} {vs : List V} (h : EvA T ta σ H vs) : EvAR T ta σ H (fun _ w _ => w = vs) := fun H1 a Q q => h H1 a Q fun H2 e => q vs H2 e rfl
theorem ear_nil : EvAR T tNil σ H (fun _ w _ => w = []) := ea_nil.toR
/-- arguments, each told by a relation that later extensions keep -/
theorem ear_cons {tr : TA} {RA RB : Hp → List V → Hp → Prop} (h : EvR T te σ H R) (hr : ∀ H1 x H2, Ex T H H1 → Ex T H1 H2 → R H1 x H2 → EvAR T tr σ H2 RA) (hm : ∀ H1 x H2 xs H3, Ex T H H1 → Ex T H1 H2 → R H1 x H2 → Ex T H2 H3 → RA H2 xs H3 → RB H1 (x :: xs) H3) : EvAR T (tCons te tr) σ H RB := fun H1 e Q q =>
  h H1 e _ fun x H2 e2 r2 => hr H1 x H2 e e2 r2 H2 Mv.refl _ fun xs H3 e3 r3 => q _ H3 (e2.trans e3) (hm H1 x H2 xs H3 e e2 r2 e3 r3)
theorem eu_tup {ta : TA} {vs : List V} (h : EvA T ta σ H vs) (hl : vs.length ≤ 100000) : EvU T (tTup ta) σ H vs := fun H1 e _ q =>
  h H1 e _ fun H2 e2 => ⟨sz hl, fun p hp => q _ _ (e2.trans (Mv.new hp)) ⟨p, rfl, e2.nod hp, upd_same⟩⟩
theorem el_lst {ta : TA} {vs : List V} (h : EvA T ta σ H vs) (hl : vs.length ≤ 100000) : EvL T (tLst ta) σ H vs := fun H1 e _ q =>
  h H1 e _ fun H2 e2 => ⟨sz hl, fun p hp => q _ _ (e2.trans (Mv.new hp)) ⟨p, rfl, e2.nod hp, upd_same⟩⟩
theorem er_tup {ta : TA} {RA : Hp → List V → Hp → Prop} (h : EvAR T ta σ H RA) (hl : ∀ H1 vs H2, Ex T H H1 → Ex T H1 H2 → RA H1 vs H2 → vs.length ≤ 100000 ∧ ∀ p, H2 p = none → R H1 (.ref p) (upd H2 p (.tup vs))) : EvR T (tTup ta) σ H R := fun H1 e _ q =>
  h H1 e _ fun vs H2 e2 r2 => ⟨sz (hl H1 vs H2 e e2 r2).1, fun p hp => q _ _ (e2.trans (Mv.new hp)) ((hl H1 vs H2 e e2 r2).2 p hp)⟩
theorem er_lst {ta : TA} {RA : Hp → List V → Hp → Prop} (h : EvAR T ta σ H RA) (hl : ∀ H1 vs H2, Ex T H H1 → Ex T H1 H2 → RA H1 vs H2 → vs.length ≤ 100000 ∧ ∀ p, H2 p = none → R H1 (.ref p) (upd H2 p (.lst vs))) : EvR T (tLst ta) σ H R := fun H1 e _ q =>
  h H1 e _ fun vs H2 e2 r2 => ⟨sz (hl H1 vs H2 e e2 r2).1, fun p hp => q _ _ (e2.trans (Mv.new hp)) ((hl H1 vs H2 e e2 r2).2 p hp)⟩
theorem ev_cb {rc : List V → Hp → VK → Prop} {ta : TA} {vs : List V} (h : EvA T ta σ H vs) (hr : RC T rc vs H z) : Ev T (tCB rc ta) σ H z := fun H1 e Q q =>
  h H1 e _ fun H2 e2 => hr H2 (e.trans e2) Q fun H3 e3 => q H3 (e2.trans e3)
theorem er_cb {rc : List V → Hp → VK → Prop} {ta : TA} {RA : Hp → List V → Hp → Prop} (h : EvAR T ta σ H RA) (hr : ∀ H1 vs H2, Ex T H H1 → Ex T H1 H2 → RA H1 vs H2 → RCR T rc vs H2 fun _ v H3 => Ex T H2 H3 → R H1 v H3) : EvR T (tCB rc ta) σ H R := fun H1 e Q q =>
  h H1 e _ fun vs H2 e2 r2 => hr H1 vs H2 e e2 r2 H2 Mv.refl Q fun v H3 e3 r3 => q v H3 (e2.trans e3) (r3 e3)
theorem ev_call {sp : Sp} {dvs vs ws : List V} {E : XK} {ta : TA} (h : EvA T ta σ H vs) (hw : vs ++ dvs = ws) (hs : SpV T sp ws H z) : Ev T (tCall sp dvs E ta) σ H z := fun H1 e Q q =>
  h H1 e _ fun H2 e2 => by
    rw [hw]
    exact hs H2 (e.trans e2) Q (fun H3 e3 => q H3 (e2.trans e3)) E
theorem er_call {sp : Sp} {dvs vs ws : List V} {E : XK} {ta : TA} (h : EvA T ta σ H vs) (hw : vs ++ dvs = ws) (hs : SpR T sp ws H R) (hm : ∀ H1 H2 v H3, Ex T H H1 → Ex T H1 H2 → Ex T H2 H3 → R H2 v H3 → R H1 v H3) : EvR T (tCall sp dvs E ta) σ H R := fun H1 e Q q =>
  h H1 e _ fun H2 e2 => by
    rw [hw]
    exact hs H2 (e.trans e2) Q (fun v H3 e3 r => q v H3 (e2.trans e3) (hm H1 H2 v H3 e e2 e3 r)) E
theorem newL_back {xs : List V} : ∀ H1 H2 v H3, Ex T H H1 → Ex T H1 H2 → Ex T H2 H3 → newL xs H2 v H3 → newL xs H1 v H3 := fun _ _ _ _ _ e _ ⟨p, h1, h2, h3⟩ => ⟨p, h1, e.dm p h2, h3⟩
theorem newU_back {xs : List V} : ∀ H1 H2 v H3, Ex T H H1 → Ex T H1 H2 → Ex T H2 H3 → newU xs H2 v H3 → newU xs H1 v H3 := fun _ _ _ _ _ e _ ⟨p, h1, h2, h3⟩ => ⟨p, h1, e.dm p h2, h3⟩
/-- a call whose arguments are told by a relation -/
theorem er_callR {sp : Sp} {E : XK} {ta : TA} {RA : Hp → List V → Hp → Prop} (h : EvAR T ta σ H RA) (hs : ∀ H1 vs H2, Ex T H H1 → Ex T H1 H2 → RA H1 vs H2 → SpR T sp vs H2 fun _ v H3 => Ex T H2 H3 → R H1 v H3) : EvR T (tCall sp [] E ta) σ H R := fun H1 e Q q =>
  h H1 e _ fun vs H2 e2 r2 => by
    rw [List.append_nil]
    exact hs H1 vs H2 e e2 r2 H2 Mv.refl Q (fun v H3 e3 r3 => q v H3 (e2.trans e3) (r3 e3)) E
/-! built-ins -/
def rLen (K : PySem.W.Frag) : List V → Hp → VK → Prop := fun xs H Q => ∃ p ys, xs = [.ref p] ∧ (SqL K H p ys ∨ SqT K H p ys) ∧ Q (.int ys.length) H
def rLst (K : PySem.W.Frag) : List V → Hp → VK → Prop := fun xs H Q => ∃ p ys, xs = [.ref p] ∧ (SqL K H p ys ∨ SqT K H p ys) ∧ ∀ l, H l = none → Q (.ref l) (upd H l (.lst ys))
theorem rc_is {c : String} {k : String} (h : kd H x = k) (hk : k ≠ "") (hc : c = "int" ∨ c = "bool" ∨ c = "list" ∨ c = "tuple" ∨ c = "str") : RC T rIs [x, .ty c] H (.bl (isK k c)) := fun H1 e _ q => by
  have h1 := kd_ex e h hk
  exact ⟨x, c, rfl, by rw [h1]; exact hk, hc, by rw [h1]; exact q H1 Mv.refl⟩
theorem rc_len {p : Addr} {xs : List V} (h : SqL K H p xs ∨ SqT K H p xs) : RC T (rLen K) [.ref p] H (.int xs.length) := fun H1 e _ q => ⟨p, xs, rfl, h.imp e.l e.t, q H1 Mv.refl⟩
theorem rc_lenI {p : Addr} {ns : List Int} (h : SqL K H p (ns.map V.int)) : RC T (rLen K) [.ref p] H (.int ns.length) := fun H1 e Q q => rc_len (.inl h) H1 e Q fun H2 e2 => by
  rw [List.length_map]
  exact q H2 e2
theorem el_list {p : Addr} {xs : List V} (ha : Ev T ta σ H (.ref p)) (h : SqL K H p xs ∨ SqT K H p xs) : EvL T (tCB (rLst K) (tCons ta tNil)) σ H xs := fun H1 e Q q =>
  ha H1 e _ fun H2 e2 => ⟨p, xs, rfl, h.imp (e.trans e2).l (e.trans e2).t, fun l hl => q _ _ (e2.trans (Mv.new hl)) ⟨l, rfl, e2.nod hl, upd_same⟩⟩
/-! slices of lists -/
theorem eo_no : EvO T tNoPart σ H none := fun H1 _ _ q => q H1 Mv.refl
theorem eo_part {i : Int} (h : Ev T te σ H (.int i)) : EvO T (tPart te) σ H (some i) := fun H1 e _ q => h H1 e _ fun H2 e2 => ⟨i, rfl, q H2 e2⟩
theorem el_sl {p : Addr} {xs : List V} {tl th : TO} {lo hi : Option Int} (ha : Ev T ta σ H (.ref p)) (hl : EvO T tl σ H lo) (hh : EvO T th σ H hi) (h : SqL K H p xs) : EvL T (tSl (rSlL K) ta tl th) σ H (cutV xs lo hi) := fun H1 e Q q =>
  ha H1 e _ fun H2 e2 => hl H2 (e.trans e2) _ fun H3 e3 => hh H3 ((e.trans e2).trans e3) _ fun H4 e4 =>
    ⟨p, xs, rfl, (((e.trans e2).trans e3).trans e4).l h, fun l hn => q _ _ (((e2.trans e3).trans e4).trans (Mv.new hn)) ⟨l, rfl, e2.dm l (e3.dm l (e4.nod hn)), upd_same⟩⟩
/-! ### statements; H0 is the heap in which all is known -/
variable {D : Ends} {tu tw : TS} {g : TG} {H0 : Hp}
theorem s_asg {i : Nat} (e : Ex T H0 H) (h : Ev T te σ H0 v) (k : ∀ H1, Ex T H0 H1 → Ex T H H1 → D.nx (σ.set i (some v)) H1) : tAsg te (gName i) D σ H := h H e _ fun H1 e1 => k H1 (e.trans e1) e1
theorem s_asgR {i : Nat} (e : Ex T H0 H) (h : EvR T te σ H0 R) (k : ∀ w H1, Ex T H0 H1 → Ex T H H1 → R H w H1 → D.nx (σ.set i (some w)) H1) : tAsg te (gName i) D σ H := h H e _ fun w H1 e1 r => k w H1 (e.trans e1) e1 r
theorem s_ret (e : Ex T H0 H) (h : Ev T te σ H0 v) (k : ∀ H1, Ex T H0 H1 → D.rt v H1) : tRet te D σ H := h H e _ fun H1 e1 => k H1 (e.trans e1)
theorem s_retR (e : Ex T H0 H) (h : EvR T te σ H0 R) (k : ∀ w H1, Ex T H0 H1 → Ex T H H1 → R H w H1 → D.rt w H1) : tRet te D σ H := h H e _ fun w H1 e1 r => k w H1 (e.trans e1) e1 r
theorem s_if {b : Bool} (e : Ex T H0 H) (h : EvT T t σ H0 b) (h1 : b = true → ∀ H1, Ex T H0 H1 → Ex T H H1 → tu D σ H1) (h2 : b = false → ∀ H1, Ex T H0 H1 → Ex T H H1 → tw D σ H1) : tIfS t tu tw D σ H := h H e _ fun H1 e1 => by
  cases b with
  | true => exact h1 rfl H1 (e.trans e1) e1
  | false => exact h2 rfl H1 (e.trans e1) e1
theorem s_drop (e : Ex T H0 H) (h : Ev T te σ H0 v) (k : ∀ H1, Ex T H0 H1 → Ex T H H1 → D.nx σ H1) : tDrop te D σ H := h H e _ fun H1 e1 => k H1 (e.trans e1) e1
/-- a cut: what follows is shown once, from Mid -/
theorem s_cut (Mid : L2.St → Hp → Prop) (h1 : tu { D with nx := Mid } σ H) (h2 : ∀ σ' H', Mid σ' H' → tw D σ' H') (hm : ∀ {D1 D2 : Ends}, (∀ σ H, D1.nx σ H → D2.nx σ H) → D1.rt = D2.rt → D1.bk = D2.bk → D1.ct = D2.ct → ∀ σ H, tu D1 σ H → tu D2 σ H) : tSeq tu tw D σ H :=
  hm (D1 := { D with nx := Mid }) (D2 := { D with nx := tw D }) (fun σ' H' => h2 σ' H') rfl rfl rfl σ H h1
/-- xs.append(e), xs known at l -/
theorem s_app {l : Addr} {xs : List V} (e : Ex T H0 H) (hl : H l = some (.lst xs)) (ha : Ev T ta σ H0 (.ref l)) (h : Ev T te σ H0 v) (hz : xs.length < 100000) (k : ∀ H1, Ex T H0 H1 → Ex T H H1 → D.nx σ (upd H1 l (.lst (xs ++ [v])))) :
    tDrop (tBM K "list" rAppend ta (tCons te tNil)) D σ H := ha H e _ fun H1 e1 =>
  ⟨.inl ⟨rfl, xs, .inl (.inl (e1.at hl))⟩, h H1 (e.trans e1) _ fun H2 e2 => ⟨l, xs, v, rfl, rfl, e2.at (e1.at hl), szl hz, k H2 ((e.trans e1).trans e2) (e1.trans e2)⟩⟩
theorem s_appR {l : Addr} {xs : List V} (e : Ex T H0 H) (hl : H l = some (.lst xs)) (ha : Ev T ta σ H0 (.ref l)) (h : EvR T te σ H0 R) (hz : xs.length < 100000) (k : ∀ w H1 H2, Ex T H0 H1 → Ex T H H1 → Ex T H1 H2 → R H1 w H2 → D.nx σ (upd H2 l (.lst (xs ++ [w])))) :
    tDrop (tBM K "list" rAppend ta (tCons te tNil)) D σ H := ha H e _ fun H1 e1 =>
  ⟨.inl ⟨rfl, xs, .inl (.inl (e1.at hl))⟩, h H1 (e.trans e1) _ fun w H2 e2 r => ⟨l, xs, w, rfl, rfl, e2.at (e1.at hl), szl hz, k w H1 H2 (e.trans e1) e1 e2 r⟩⟩
/-- xs[i] = e -/
theorem s_setL {l : Addr} {xs : List V} {i : Int} {j : Nat} (e : Ex T H0 H) (hl : H l = some (.lst xs)) (h : Ev T te σ H0 v) (ho : Ev T ta σ H0 (.ref l)) (hi : Ev T tb σ H0 (.int i)) (hj : ixN xs.length i = some j) (k : ∀ H1, Ex T H0 H1 → Ex T H H1 → D.nx σ (upd H1 l (.lst (xs.set j v)))) :
    tAsg te (gSub ta tb rSetL) D σ H := h H e _ fun H1 e1 => ho H1 (e.trans e1) _ fun H2 e2 => hi H2 ((e.trans e1).trans e2) _ fun H3 e3 =>
  ⟨l, xs, i, j, rfl, rfl, e3.at (e2.at (e1.at hl)), hj, k H3 (((e.trans e1).trans e2).trans e3) ((e1.trans e2).trans e3)⟩
/-! loops -/
theorem s_forR {ta : TA} {j : Nat} {n : Int} (e : Ex T H0 H) (h : EvA T ta σ H0 [.int n]) (hn : -100000 ≤ n ∧ n ≤ 100000) (Pv : Nat → L2.St → Hp → Prop) (h0 : ∀ H1, Ex T H0 H1 → Ex T H H1 → Pv 0 σ H1)
    (hs : ∀ (i : Nat) σ' H', (i : Int) < n → Pv i σ' H' → tu { D with nx := Pv (i + 1), ct := Pv (i + 1), bk := D.nx } (σ'.set j (some (.int (i : Int)))) H') (hd : ∀ σ' H', Pv n.toNat σ' H' → D.nx σ' H') : tFor (iRng1 ta) (gName j) tu D σ H :=
  h H e _ fun H1 e1 => ⟨n, rfl, by omega, by omega, for_range (lo := 0) (n := n.toNat) Pv (h0 H1 (e.trans e1) e1) (fun i σ' H' hi p => by
    have z : (0 : Int) + (i : Int) = (i : Int) := Int.zero_add _
    show tu { D with nx := Pv (i + 1), ct := Pv (i + 1), bk := D.nx } (σ'.set j (some (.int ((0 : Int) + (i : Int))))) H'
    rw [z]
    exact hs i σ' H' (by omega) p) hd⟩
theorem s_forL {a : Addr} {xs : List V} {tl : TE} (e : Ex T H0 H) (h : Ev T tl σ H0 (.ref a)) (hx : SqL K H0 a xs) (Pv : Nat → L2.St → Hp → Prop) (h0 : ∀ H1, Ex T H0 H1 → Ex T H H1 → Pv 0 σ H1) (hl : ∀ i σ' H', i ≤ xs.length → Pv i σ' H' → SqL K H' a xs)
    (hs : ∀ i x σ' H', xs[i]? = some x → Pv i σ' H' → g x σ' H' fun σ2 H2 => tu { D with nx := Pv (i + 1), ct := Pv (i + 1), bk := D.nx } σ2 H2) (hd : ∀ σ' H', Pv xs.length σ' H' → D.nx σ' H') : tFor (iList K tl) g tu D σ H :=
  h H e _ fun H1 e1 => ⟨a, rfl, ⟨xs, (e.trans e1).l hx⟩, for_list Pv (h0 H1 (e.trans e1) e1) hl hs hd⟩
theorem s_forNL {xs : List V} {tl : TE} (e : Ex T H0 H) (h : EvL T tl σ H0 xs) (Pv : Addr → Nat → L2.St → Hp → Prop) (h0 : ∀ p H1, nod H p → Ex T H0 H1 → Ex T H H1 → H1 p = some (.lst xs) → Pv p 0 σ H1) (hl : ∀ p i σ' H', i ≤ xs.length → Pv p i σ' H' → SqL K H' p xs)
    (hs : ∀ p i x σ' H', xs[i]? = some x → Pv p i σ' H' → g x σ' H' fun σ2 H2 => tu { D with nx := Pv p (i + 1), ct := Pv p (i + 1), bk := D.nx } σ2 H2) (hd : ∀ p σ' H', Pv p xs.length σ' H' → D.nx σ' H') : tFor (iList K tl) g tu D σ H :=
  h H e _ fun _ H1 e1 ⟨p, ep, np, hp⟩ => by
    subst ep
    exact ⟨p, rfl, ⟨xs, .inl (.inl hp)⟩, for_list (Pv p) (h0 p H1 np (e.trans e1) e1 hp) (hl p) (hs p) (hd p)⟩
theorem s_forT {a : Addr} {xs : List V} {tl : TE} (e : Ex T H0 H) (h : Ev T tl σ H0 (.ref a)) (hx : SqT K H0 a xs) (Pv : Nat → L2.St → Hp → Prop) (h0 : ∀ H1, Ex T H0 H1 → Ex T H H1 → Pv 0 σ H1) (hl : ∀ i σ' H', i ≤ xs.length → Pv i σ' H' → SqT K H' a xs)
    (hs : ∀ i x σ' H', xs[i]? = some x → Pv i σ' H' → g x σ' H' fun σ2 H2 => tu { D with nx := Pv (i + 1), ct := Pv (i + 1), bk := D.nx } σ2 H2) (hd : ∀ σ' H', Pv xs.length σ' H' → D.nx σ' H') : tFor (iTup K tl) g tu D σ H :=
  h H e _ fun H1 e1 => ⟨a, rfl, ⟨xs, (e.trans e1).t hx⟩, for_tup Pv (h0 H1 (e.trans e1) e1) hl hs hd⟩
end
end Fp

namespace Fp
open PySem PySem.Spec PyProof.Rows L2 LamX
open PySem.W (EachIs KeyPure)

/-! ### the order -/
/-- the rank of a line -/
def rk (rs : List Int) (i : Int) : Int := rs.getD i.toNat 0
/-- comes ahead, or is the same -/
def ordLe (rs : List Int) (p q : Int) : Bool := decide (rk rs p < rk rs q ∨ (rk rs p = rk rs q ∧ p ≤ q))
def inOrd (rs ls : List Int) : List Int := ls.mergeSort (ordLe rs)

/-! ### sorted(lines, key=lambda line: (ranks[line], line)) -/
abbrev lamB (a1 a2 a3 a4 a5 : Pos) : Expr := .Tuple [.Subscript (.Name "ranks" a1) (.Name "line" a2) a3, .Name "line" a4] 0 a5
abbrev lamSc : Scope := { kind := .function, names := [("line", .local), ("ranks", .free)], isGenerator := false, isCoroutine := false, more := [] }
theorem lk1 {α : Type} {k : Str} {v : α} : List.lookup k [(k, v)] = some v := by simp [List.lookup]
theorem lam_line : lamSc.names.lookup ("line" : Str) = some NameKind.local := by decide +kernel
theorem lam_ranks : lamSc.names.lookup ("ranks" : Str) = some NameKind.free := by decide +kernel
section
variable {prog : Program} {w : World} {A : Around} {s : Shared}
/-- one call of the key -/
theorem key_turn {f c' cr r : Addr} {q : Str} {params : Arguments} {a1 a2 a3 a4 a5 : Pos} {pm ctv : Value} {its : List Value} {rs : List Int} {orr oc occ : Obj} {vs : Array Value} {tq t : Tok} {n : Nat} {i : Int}
    (hroom : A.depth < recursionLimit) (hlim : s.heap.NoLimit) (hf : s.heap.get? f = some (PySem.W.kla_obj "<lambda>" q params (lamB a1 a2 a3 a4 a5) lamSc [("ranks", cr)] pm c' ctv))
    (hoc : s.heap.get? c' = some oc) (hdc : oc.data = .fields vs) (hvc : vs[1]? = some (.str q tq))
    (hbind : ∀ v, bindArgs (PySem.W.kla_fn "<lambda>" q params (lamB a1 a2 a3 a4 a5) lamSc [("ranks", cr)] pm (.ref c') ctv) ⟨[v], []⟩ = pure [(("line" : Str), v)])
    (hcc : s.heap.get? cr = some occ) (hcd : occ.data = .cell (some (.ref r))) (hr : s.heap.get? r = some orr) (hrc : orr.cls = .type "list") (hrd : orr.data = .seq its.toArray n) (hv : Vals (rs.map V.int) its)
    (h0 : 0 ≤ i) (h1 : i < rs.length) (hz : rs.length ≤ sizeLine) :
    wpAny (model prog w) A (call (.ref f) [.int i t]) (KeyPure (.tuple [.int (rk rs i), .int i]) s) (fun _ _ => False) s := by
  refine wpAny_call (PySem.W.kla_callFunE hroom hf rfl rfl rfl rfl ⟨c', oc, vs, tq, rfl, hoc, hdc, hvc⟩ ?_)
  rw [hbind]
  refine wpAny_pure (wpAny_newFunctionEnv (show ∀ x ∈ lamSc.names, x.2 ≠ .cell by decide) (fun x hx => by rw [List.mem_singleton] at hx; rw [hx]; exact lam_line) (fun h₁ hns hsb => ⟨hlim.fresh _ hsb, ?_⟩) rfl)
  show codeAny _ _ (.expr (lamB a1 a2 a3 a4 a5) (PySem.W.envX q lamSc s.heap.objs.size f (.ref c') [("ranks", cr)])) _ _
  have kp : ∀ b o, s.heap.get? b = some o → h₁.get? b = some o := fun b o e => hsb.extBut b o (Nat.ne_of_lt (Heap.lt_size e)) (Heap.get?_push_of_some _ e)
  obtain ⟨u, hu, ru⟩ := hv.get (i := i.toNat) (x := .int (rk rs i)) (by
    rw [List.getElem?_map, List.getElem?_eq_getElem (by omega)]
    simp [rk, List.getD_eq_getElem?_getD, List.getElem?_eq_getElem (show i.toNat < rs.length by omega)])
  obtain ⟨t2, rfl⟩ := ru
  have hn := line63
  have fin : ∀ (tk : Nat), KeyPure (.tuple [.int (rk rs i), .int i]) s (.ref h₁.objs.size) { s with heap := h₁.push { cls := .type "tuple", data := .seq #[.int (rk rs i) t2, .int i t] }, toks := tk } := fun tk =>
    ⟨_, _, rfl, fun b o e => Heap.get?_push_of_some _ (kp b o e), Reads.tuple (Heap.get?_push_size _ rfl) rfl rfl (ReadsAll.cons (Reads.int _ _) (ReadsAll.cons (Reads.int _ _) ReadsAll.nil))⟩
  refine PySem.W.kla_codeExpr (wpAny_mono (E := fun _ _ => False) (Q := fun v s' => KeyPure (.tuple [.int (rk rs i), .int i]) s v s') ?_ (fun v s' z => z) fun _ _ z => z.elim)
  refine wpAny_Tuple_spliced ?_
  show wpAny _ _ (spliced ((false, eval (.Subscript (.Name "ranks" a1) (.Name "line" a2) a3) _) :: (false, eval (.Name "line" a4) _) :: [])) _ _ _
  refine Calls.spliced_cons (Subscript_ (wpAny_Name (wpAny_loadName_free rfl lam_ranks (c := cr) lk1 ⟨_, kp _ _ hcc, hcd⟩ ?_) (by decide)))
  refine wpAny_Name (wpAny_loadName_local rfl lam_line hns (v := .int i t) lk1 ?_) (by decide)
  refine item_listR (x := .int (rk rs i) t2) ⟨orr, kp _ _ hr, hrc, n, hrd⟩ h0 (by omega) (by simpa using hu) ?_ (by intros; rfl)
  refine Calls.spliced_cons (wpAny_Name (wpAny_loadName_local rfl lam_line hns (v := .int i t) lk1 ?_) (by decide))
  exact Calls.spliced_nil ⟨by show 2 ≤ sizeLine; decide, fin _⟩
end
theorem Mv.ofN {T : List (Addr × Str)} {H H1 : Hp} (e : ExtN H H1) (t : Tabs T H1) : Ex T H H1 :=
  have k : ∀ b o, H b = some o → dat o = true → H1 b = some o := fun b o h d => e b o h fun ps z => by subst z; cases d
  ⟨fun b o h d _ => k b o h d, fun b n o h => by
    cases d : dat o with
    | false => rfl
    | true => exact d.symm.trans (n o (k b o h d)), fun _ => t⟩
theorem clo_ranks {cells : List (Str × Addr)} {c : Addr} (h : cells.lookup ("ranks" : Str) = some c) : cloFrom cells lamSc.names [] = [(("ranks" : Str), c)] := by
  simp [cloFrom, h]
/-- what the two handed things are -/
structure Kys (K : PySem.W.Frag) (H : Hp) (l r : Addr) (rs ls : List Int) : Prop where
  l : SqL K H l (ls.map V.int)
  r : SqL K H r (rs.map V.int)
  lo : ∀ i ∈ ls, 0 ≤ i ∧ i < rs.length
def rSortK (K : PySem.W.Frag) (T : List (Addr × Str)) (σ : L2.St) (ir : Nat) (Q : VK) : List V → Hp → Prop := fun vs H1 => ∃ (l r : Addr) (rs ls : List Int), vs = [.ref l] ∧ σ[ir]? = some (some (.ref r)) ∧ Kys K H1 l r rs ls ∧ Tabs T H1 ∧
  ∀ v H2, Ex T H1 H2 → newL ((inOrd rs ls).map V.int) H1 v H2 → Q v H2
def tSortK (K : PySem.W.Frag) (T : List (Addr × Str)) (ir : Nat) (ta : TA) : TE := fun σ H Q => ta σ H (rSortK K T σ ir Q)
section
variable {X : Cx} {T : List (Addr × Str)} {e : Expr} {ta : TA} {c P : Addr} {ir k : Nat} {p a1 a2 a3 a4 a5 lpos kpos pos : Pos} {params : Arguments}
theorem vals_each : ∀ {ls : List Int} {its : List Value}, Vals (ls.map V.int) its → EachIs (fun v i => ∃ t, v = Value.int i t) its ls
  | [], [], _ => .nil
  | _ :: _, _ :: _, .cons r t => .cons r (vals_each t)
theorem each_vals : ∀ {ls : List Int} {its : List Value}, EachIs (fun v i => ∃ t, v = Value.int i t) its ls → Vals (ls.map V.int) its
  | [], [], _ => .nil
  | _ :: _, _ :: _, .cons r t => .cons r (each_vals t)
/-- sorted(e, key=lambda line: (ranks[line], line)) -/
theorem pe_sortK (ha : PA X [e] ta) (hr : Room k X.A) (hg : Gl X "sorted") (hm : X.mg "sorted" = none) (TB : TabB X.base X.mg c P) (hcode : X.env.code = .ref c) (hmT : (P, X.env.qual ++ "<lambda>") ∈ T) (hu : ∀ p ∈ T, p.1 = P → p.2 = X.env.qual ++ "<lambda>")
    (hN : X.N[ir]? = some ("ranks" : Str)) (hk : X.env.scope.names.lookup ("ranks" : Str) = some NameKind.cell) (hdef : defaultsOf params X.env = ([], []))
    (hbind : ∀ (q : Str) (cl : List (Str × Addr)) (pm cv ctv v : Value), bindArgs (PySem.W.kla_fn "<lambda>" q params (lamB a1 a2 a3 a4 a5) lamSc cl pm cv ctv) ⟨[v], []⟩ = pure [(("line" : Str), v)])
    (h1 : backTo pos (starEach [e] X.env) = (false, eval e X.env) :: backTo pos (starEach [] X.env) := by rfl) (h2 : (backTo pos (starEach [e] X.env)).any (·.1) = false := by rfl)
    (h3 : (backToKw pos (keywordEach [⟨some "key", .Lambda params (lamB a1 a2 a3 a4 a5) lamSc lpos, kpos⟩] X.env)).all (·.1.isSome) = true := by rfl) (h4 : (backToKw pos (keywordEach [⟨some "key", .Lambda params (lamB a1 a2 a3 a4 a5) lamSc lpos, kpos⟩] X.env)).any (·.1.isNone) = false := by rfl)
    (h5 : (backToKw pos (keywordEach [⟨some "key", .Lambda params (lamB a1 a2 a3 a4 a5) lamSc lpos, kpos⟩] X.env)).filterMap (·.1) = [("key" : Str)] := by rfl) :
    PE X (.Call (.Name "sorted" p) [e] [⟨some "key", .Lambda params (lamB a1 a2 a3 a4 a5) lamSc lpos, kpos⟩] pos) (tSortK X.K T ir ta) := by
  refine ⟨fun pins s σ H Q I h => wpAny_Call_Name_kw (ld_blt (u := .builtin "sorted") I hg hm (by decide +kernel) (PyProof.Rows.callWith_kw (thn (ha.run pos pins s σ H (rSortK X.K T σ ir Q) I h) fun us s1 hh => ?_) h1 h2 h3 h4))⟩
  obtain ⟨vs, H1, I1, rv, l, r, rs, ls, rfl, er, ky, tb, q⟩ := hh
  obtain ⟨v1, rfl, rfl⟩ := vals1 rv
  have hfree : ∀ y ∈ lamSc.names, y.2 = .free → ∃ c, X.env.cells.lookup y.1 = some c := fun y hy e => I1.ok.has y.1 (.inl (by
    have e2 : y = (("ranks" : Str), NameKind.free) := by
      rcases List.mem_cons.mp hy with z | z
      · rw [z] at e; cases e
      · exact List.mem_singleton.mp z
    rw [e2]
    exact hk))
  show wpAny _ _ (evalAll ((do let v ← eval (.Lambda params (lamB a1 a2 a3 a4 a5) lamSc lpos) X.env; standAt pos; pure v) :: [])) _ _ s1
  refine wpAny_evalAll_cons (wpAny_bind (lam_make2 I1 TB hcode hmT hu tb hdef hfree fun f c' pm ctv H2 s2 I2 eN t2 hf hfn hfr hco => ?_))
  refine wpAny_bind (wpAny_standAt (wpAny_pure (wpAny_evalAll_nil ?_)))
  rw [h5]
  show wpAny _ _ (call (.builtin "sorted") [.ref l] [(("key" : Str), .ref f)]) _ _ s2
  have e2 : Ex T H1 H2 := Mv.ofN eN t2
  obtain ⟨itl, rl, pl, zl⟩ := I2.list (e2.l ky.l)
  obtain ⟨itr, rr, ⟨orr, nr, hr1, hr2, hr3, hr4⟩, zr⟩ := I2.list (e2.l ky.r)
  obtain ⟨m, hn, hl⟩ := I2.loc
  obtain ⟨u, ru, lk⟩ := hl ir ("ranks" : Str) (.ref r) hN er (.inr (.inl hk))
  obtain rfl : u = Value.ref r := ru
  obtain ⟨cr, hcr, occ, hoc1, hoc2⟩ : ∃ cr, X.env.cells.lookup ("ranks" : Str) = some cr ∧ s2.heap.IsCell cr (some (.ref r)) := by
    rcases lk with ⟨z, _⟩ | ⟨_, c, z1, z2⟩
    · rw [show X.env.kindOf ("ranks" : Str) = X.env.scope.names.lookup ("ranks" : Str) from rfl, hk] at z; cases z
    · exact ⟨c, z1, z2⟩
  rw [clo_ranks hcr] at hf
  obtain ⟨⟨oc, vc, tc, k1, k2, k3⟩, _, _⟩ := I2.hok c' _ hco
  have zl2 : ls.length ≤ sizeLine := by rw [List.length_map] at zl; exact zl
  have zr2 : rs.length ≤ sizeLine := by rw [List.length_map] at zr; exact zr
  refine PySem.W.sorted_key_data (s := s2) (vs := itl) (bs := ls) (R := fun v i => ∃ t, v = Value.int i t) (b := false) (fun i => .tuple [.int (rk rs i), .int i]) pl.isList (vals_each rl) (PySem.W.AllAlike.of fun _ _ => rfl) (PySem.W.Sortable.tuples fun _ => ⟨_, _, rfl⟩) zl2
    (fun x _ => by have z := hr.un; show X.A.units + 2 + 1 < cLine; omega) (PyProof.Rows.ksk_s1 _ _) (fun _ => PyProof.Rows.ksk_l1 _ _) (fun x => PyProof.Rows.ksk_t1 f x) (fun v i hv hi h tk kp => ?_) (fun out cc h' tk kp hne hout hlen heach => ?_)
  · obtain ⟨t, rfl⟩ := hv
    obtain ⟨b0, b1⟩ := ky.lo i hi
    have hd : X.A.in1.in1.depth < recursionLimit := by have z := hr.dp; show X.A.depth < recursionLimit; omega
    exact key_turn (s := { s2 with heap := h, toks := tk }) hd (I2.nolimit.keeps kp) (kp _ _ hf) (kp _ _ k1) k2 k3 (fun v => hbind _ _ _ _ _ v) (kp _ _ hoc1) hoc2 (kp _ _ hr1) hr2 hr4 rr b0 b1 zr2
  · rw [PySem.W.dataLe_ii (rk rs) (fun i => i)] at heach
    have rv : Vals ((inOrd rs ls).map V.int) out := each_vals heach
    have zo : ((inOrd rs ls).map V.int).length ≤ sizeLine := by
      rw [List.length_map]
      unfold inOrd
      rw [List.length_mergeSort]
      exact zl2
    have fr : H2 (s2.heap.objs.size + 1) = none := I2.hok.fresh (Nat.le_succ _)
    exact ⟨.ref (s2.heap.objs.size + 1), upd H2 (s2.heap.objs.size + 1) (.lst ((inOrd rs ls).map V.int)), I2.laid (t' := tk) kp (Nat.le_succ _) ⟨zo, out, cc, rv, hout⟩, rfl, q _ _ (e2.trans (Mv.new fr)) ⟨_, rfl, e2.nod fr, upd_same⟩⟩
end
end Fp

namespace Fp
open PySem PySem.Spec PyProof.Rows L2 LamX
/-! ### defs by name -/
/-- a def of the module that keeps a promise -/
structure Gd (P : Program) (w : World) (K : PySem.W.Frag) (mg : Str → Option Value) (base : Heap) (CX : CXT) (k : Nat) (x : Str) (ps : List Str) (sp : Sp) : Prop where
  ex : ∃ f fd, FnOk P w K mg base CX k f fd ps sp ∧ mg x = some (.ref f) ∧ PySem.W.keepIn K (.ref f) = true ∧ L2.Binds K fd ps []
/-- where a def stands -/
structure Df (K : PySem.W.Frag) (mg : Str → Option Value) (x : Str) (st : Stmt) : Prop where
  ex : ∃ f fd, FunD K x x (defArgs st) (defBody st) (defScope st) [] [] f fd ∧ mg x = some (.ref f) ∧ f = He.fAd K (x, none)
/-- the built-in names that the module leaves alone -/
structure Bi (mg : Str → Option Value) : Prop where
  len : mg "len" = none
  isinstance : mg "isinstance" = none
  sorted : mg "sorted" = none
  range : mg "range" = none
  list : mg "list" = none
  int : mg "int" = none
  bool : mg "bool" = none
  all : mg "all" = none
  zip : mg "zip" = none
  tuple : mg "tuple" = none
  str : mg "str" = none
  enumerate : mg "enumerate" = none
  min : mg "min" = none
  ve : mg "ValueError" = none
section
variable {X : Cx} {CX : CXT} {k : Nat} {x : Str} {ps : List Str} {sp : Sp} {E : XK} {p pos : Pos} {e : Expr} {es : List Expr} {t : TA}
theorem pe_g (G : Gd X.prog X.w X.K X.mg X.base CX k x ps sp) (hr : Room k X.A) (hg : Gl X x) (hx : Passes CX X E) (ha : PA X (e :: es) t) (hdb : (x == ("__debug__" : Str)) = false := by decide)
    (he : starEach (e :: es) X.env = (false, eval e X.env) :: starEach es X.env := by rfl) (hpl : (backTo pos (starEach es X.env)).any (·.1) = false := by rfl) : PE X (.Call (.Name x p) (e :: es) [] pos) (tCall sp [] E t) := by
  obtain ⟨f, fd, F, h1, h2, h3⟩ := G.ex
  exact pe_call F hr hg h1 h2 h3 .nil hx ha hdb he hpl
end
section
variable {P : Program} {w : World} {K : PySem.W.Frag} {mg : Str → Option Value} {base : Heap} {x : Str} {st : Stmt} {N ps : List Str} {k : Nat} {sp : Sp}
/-- a def that lets nothing out -/
theorem Df.ok0 (D : Df K mg x st) (S : FnScope N ps (defScope st)) (len : ∀ vs H Q E, sp vs H Q E → vs.length = ps.length)
    (hb : ∀ (kV doc pm : Value) (an : Option Addr) (cdv ct : Value) (us : List Value), us.length = ps.length → bindArgs (PySem.W.fnOf x x (defArgs st) (defBody st) (defScope st) .none kV doc pm an cdv ct) ⟨us, []⟩ = pure (ps.zip us))
    (hbody : ∀ (f : Addr) (cdv : Value) (A : Around) (outer : List Env) (s : Shared) (H : Hp) (vs : List V) (Q : VK) (E : XK), Room k (A.deeper (envOfC x (defScope st) s.heap.objs.size f cdv)) → sp vs H Q E →
      ∃ t, PSs (cxOf CX0 P w K mg base N x (defScope st) f cdv A outer s H E).nox (defBody st) t ∧ t { nx := fun _ H' => Q .non H', rt := Q } (start N vs) H) : Gd P w K mg base CX0 (k + 1) x ps sp := by
  obtain ⟨f, fd, F, hm, hf⟩ := D.ex
  refine ⟨f, fd, F.ok S len (fun cdv A outer s H vs Q E hr h => ?_), hm, F.kp, F.bindsN hb⟩
  obtain ⟨t, h1, h2⟩ := hbody f cdv A outer s H vs Q E hr h
  exact ⟨t, h1.nox, h2⟩
/-- a def that may raise -/
theorem Df.okX (D : Df K mg x st) (S : FnScope N ps (defScope st)) (len : ∀ vs H Q E, sp vs H Q E → vs.length = ps.length)
    (hb : ∀ (kV doc pm : Value) (an : Option Addr) (cdv ct : Value) (us : List Value), us.length = ps.length → bindArgs (PySem.W.fnOf x x (defArgs st) (defBody st) (defScope st) .none kV doc pm an cdv ct) ⟨us, []⟩ = pure (ps.zip us))
    (hbody : ∀ (f : Addr) (cdv : Value) (A : Around) (outer : List Env) (s : Shared) (H : Hp) (vs : List V) (Q : VK) (E : XK), Room k (A.deeper (envOfC x (defScope st) s.heap.objs.size f cdv)) → sp vs H Q E →
      ∃ t, PSs (cxOf (L2.CX P w) P w K mg base N x (defScope st) f cdv A outer s H E) (defBody st) t ∧ t { nx := fun _ H' => Q .non H', rt := Q } (start N vs) H) : Gd P w K mg base (L2.CX P w) (k + 1) x ps sp := by
  obtain ⟨f, fd, F, hm, hf⟩ := D.ex
  exact ⟨f, fd, F.ok S len (fun cdv A outer s H vs Q E hr h => hbody f cdv A outer s H vs Q E hr h), hm, F.kp, F.bindsN hb⟩
/-- a def whose own code object is wanted -/
theorem Df.okC (D : Df K mg x st) (S : FnScope N ps (defScope st)) (len : ∀ vs H Q E, sp vs H Q E → vs.length = ps.length)
    (hb : ∀ (kV doc pm : Value) (an : Option Addr) (cdv ct : Value) (us : List Value), us.length = ps.length → bindArgs (PySem.W.fnOf x x (defArgs st) (defBody st) (defScope st) .none kV doc pm an cdv ct) ⟨us, []⟩ = pure (ps.zip us))
    (hbody : ∀ (f : Addr) (cdv : Value) (A : Around) (outer : List Env) (s : Shared) (H : Hp) (vs : List V) (Q : VK) (E : XK), cdv = .ref (He.codeOf K (x, none)) → Room k (A.deeper (envOfC x (defScope st) s.heap.objs.size f cdv)) → sp vs H Q E →
      ∃ t, PSs (cxOf CX0 P w K mg base N x (defScope st) f cdv A outer s H E).nox (defBody st) t ∧ t { nx := fun _ H' => Q .non H', rt := Q } (start N vs) H) : Gd P w K mg base CX0 (k + 1) x ps sp := by
  obtain ⟨f, fd, F, hm, hf⟩ := D.ex
  refine ⟨f, fd, ?_, hm, F.kp, F.bindsN hb⟩
  obtain ⟨oc, od, dV, kV, doc, pm, an, cdv, ct, osl, rfl, lk, hcd, _, _⟩ := F.ex
  obtain ⟨c, hc⟩ := He.codeIn_ref hcd
  refine fn_of lk hcd S len fun A outer s H vs Q E hr hsp => ?_
  obtain ⟨t, h, q⟩ := hbody f cdv A outer s H vs Q E (hc.trans (congrArg Value.ref (He.codeOf_eq (p := (x, none)) (by rw [← hf]; exact lk) hc).symm)) hr hsp
  exact ⟨t, h.nox, q⟩
end
/-! ### statements in a row; the slots told anew -/
section
variable {T : List (Addr × Str)} {K : PySem.W.Frag} {σ σ2 : L2.St} {H H0 : Hp} {te ta tb : TE} {t : TT} {v : V} {R : Hp → V → Hp → Prop} {D : Ends} {u tu tw : TS} {i : Nat}
theorem q_asg (e : Ex T H0 H) (h : Ev T te σ H0 v) (hs : σ.set i (some v) = σ2) (k : ∀ H1, Ex T H0 H1 → Ex T H H1 → u D σ2 H1) : tSeq (tAsg te (gName i)) u D σ H := h H e _ fun H1 e1 => by
  show u D (σ.set i (some v)) H1
  rw [hs]
  exact k H1 (e.trans e1) e1
theorem q_asgR (e : Ex T H0 H) (h : EvR T te σ H0 R) (k : ∀ w H1 σ2, σ.set i (some w) = σ2 → Ex T H0 H1 → Ex T H H1 → R H w H1 → u D σ2 H1) : tSeq (tAsg te (gName i)) u D σ H := h H e _ fun w H1 e1 r => k w H1 _ rfl (e.trans e1) e1 r
theorem q_if {b : Bool} (e : Ex T H0 H) (h : EvT T t σ H0 b) (h1 : b = true → ∀ H1, Ex T H0 H1 → Ex T H H1 → tu { D with nx := u D } σ H1) (h2 : b = false → ∀ H1, Ex T H0 H1 → Ex T H H1 → tw { D with nx := u D } σ H1) : tSeq (tIfS t tu tw) u D σ H := s_if e h h1 h2
theorem q_drop (e : Ex T H0 H) (h : Ev T te σ H0 v) (k : ∀ H1, Ex T H0 H1 → Ex T H H1 → u D σ H1) : tSeq (tDrop te) u D σ H := s_drop e h k
theorem q_cut (Mid : L2.St → Hp → Prop) (h1 : tu { D with nx := Mid } σ H) (h2 : ∀ σ' H', Mid σ' H' → tw D σ' H') : Evl.tCut tu tw D σ H := ⟨Mid, h1, h2⟩
theorem q_next (h : D.nx σ H) : tNext D σ H := h
end
end Fp
namespace Fp
open PySem PySem.Spec PyProof.Rows L2 LamX
/-! ### operators by short names -/
abbrev oAdd : R2 := rI0 fun i j => .int (i + j)
abbrev oSub : R2 := rI0 fun i j => .int (i - j)
abbrev oMul : R2 := rI CMul fun i j => .int (i * j)
abbrev oMod : R2 := rI (fun _ j => 0 < j) fun i j => .int (i % j)
abbrev oDiv : R2 := rI CDivW fun i j => .int (i / j)
abbrev oPow : R2 := rI CPow fun i j => .int (i ^ j.toNat)
abbrev oLt : R2 := rI0 fun i j => .bl (decide (i < j))
abbrev oLe : R2 := rI0 fun i j => .bl (decide (i ≤ j))
abbrev oGt : R2 := rI0 fun i j => .bl (decide (j < i))
abbrev oGe : R2 := rI0 fun i j => .bl (decide (j ≤ i))
abbrev oIsN : R2 := fun x y H Q => y = .non ∧ Q (.bl (decide (x = .non))) H
abbrev oNotN : R2 := fun x y H Q => y = .non ∧ Q (.bl (!decide (x = .non))) H
def rInsert : V → List V → Hp → VK → Prop := fun x vs H Q => ∃ (l : Addr) (xs : List V) (i : Int) (y : V), x = .ref l ∧ vs = [.int i, y] ∧ H l = some (.lst xs) ∧ xs.length < sizeLine ∧ 0 ≤ i ∧ i < 2 ^ 63 ∧ Q .non (upd H l (.lst (xs.take i.toNat ++ [y] ++ xs.drop i.toNat)))
def rInt1 : List V → Hp → VK → Prop := fun xs H Q => (∃ i, xs = [.int i] ∧ Q (.int i) H) ∨ ∃ k, xs = [.bl k] ∧ Q (.int (if k then 1 else 0)) H
def rMin2 : List V → Hp → VK → Prop := fun xs H Q => ∃ i j, xs = [.int i, .int j] ∧ Q (.int (if j < i then j else i)) H
section
variable {T : List (Addr × Str)} {K : PySem.W.Frag} {σ : L2.St} {H H0 : Hp} {te ta tb : TE} {v z : V} {R : Hp → V → Hp → Prop}
theorem ev_call0 {sp : Sp} {vs : List V} {E : XK} {ta : TA} (h : EvA T ta σ H vs) (hs : SpV T sp vs H z) : Ev T (tCall sp [] E ta) σ H z := ev_call h (List.append_nil vs) hs
theorem er_call0 {sp : Sp} {vs : List V} {E : XK} {ta : TA} (h : EvA T ta σ H vs) (hs : SpR T sp vs H R) (hm : ∀ H1 H2 v H3, Ex T H H1 → Ex T H1 H2 → Ex T H2 H3 → R H2 v H3 → R H1 v H3) : EvR T (tCall sp [] E ta) σ H R := er_call h (List.append_nil vs) hs hm
theorem el_call0 {sp : Sp} {vs xs : List V} {E : XK} {ta : TA} (h : EvA T ta σ H vs) (hs : SpR T sp vs H (newL xs)) : EvL T (tCall sp [] E ta) σ H xs := er_call h (List.append_nil vs) hs newL_back
theorem ev_p60 : Ev T (tOp oPow (tC (.int 10)) (tC (.int 60))) σ H (.int 1000000000000000000000000000000000000000000000000000000000000) := ev_is (ev_op ev_c ev_c (rv_i ⟨by decide, by decide, by decide⟩)) (by decide +kernel)
theorem ev_p59 : Ev T (tOp oPow (tC (.int 10)) (tC (.int 59))) σ H (.int 100000000000000000000000000000000000000000000000000000000000) := ev_is (ev_op ev_c ev_c (rv_i ⟨by decide, by decide, by decide⟩)) (by decide +kernel)
theorem ev_p58 : Ev T (tOp oPow (tC (.int 10)) (tC (.int 58))) σ H (.int 10000000000000000000000000000000000000000000000000000000000) := ev_is (ev_op ev_c ev_c (rv_i ⟨by decide, by decide, by decide⟩)) (by decide +kernel)
theorem ev_p57 : Ev T (tOp oPow (tC (.int 10)) (tC (.int 57))) σ H (.int 1000000000000000000000000000000000000000000000000000000000) := ev_is (ev_op ev_c ev_c (rv_i ⟨by decide, by decide, by decide⟩)) (by decide +kernel)
theorem ev_p30 : Ev T (tOp oPow (tC (.int 10)) (tC (.int 30))) σ H (.int 1000000000000000000000000000000) := ev_is (ev_op ev_c ev_c (rv_i ⟨by decide, by decide, by decide⟩)) (by decide +kernel)
/-- an item of a list of whole numbers -/
theorem ix_int {ns : List Int} {i : Int} (h0 : 0 ≤ i) (h1 : i < ns.length) : atI (ns.map V.int) i = some (.int (rk ns i)) := by
  have e : ((i.toNat : Nat) : Int) = i := by omega
  have z : atI (ns.map V.int) ((i.toNat : Nat) : Int) = some (.int (rk ns i)) := atI_nat (by
    rw [List.getElem?_map, List.getElem?_eq_getElem (by omega)]
    simp [rk, List.getD_eq_getElem?_getD, List.getElem?_eq_getElem (show i.toNat < ns.length by omega)])
  rwa [e] at z
theorem rv_ixI {p : Addr} {ns : List Int} {i : Int} (h : SqL K H p (ns.map V.int)) (h0 : 0 ≤ i) (h1 : i < ns.length) : RV T (rIxL K) (.ref p) (.int i) H (.int (rk ns i)) := rv_ixL h (ix_int h0 h1)
/-- the last item, by -1 -/
theorem ix_neg {xs : List V} {v : V} (h : xs.getLast? = some v) : atI xs (-1) = some v := by
  obtain ⟨ys, rfl⟩ := List.getLast?_eq_some_iff.mp h
  exact atI_last _ _
theorem kd_l {H : Hp} {a : Addr} {xs : List V} (h : H a = some (.lst xs)) : kd H (.ref a) = "list" := by simp only [kd, h]
theorem kd_t {H : Hp} {a : Addr} {xs : List V} (h : H a = some (.tup xs)) : kd H (.ref a) = "tuple" := by simp only [kd, h]
theorem rc_isB {b : Bool} {c : String} (hc : c = "int" ∨ c = "bool" ∨ c = "list" ∨ c = "tuple" ∨ c = "str") : RC T rIs [.bl b, .ty c] H (.bl (isK "bool" c)) := rc_is rfl (by decide) hc
theorem rc_isI {i : Int} {c : String} (hc : c = "int" ∨ c = "bool" ∨ c = "list" ∨ c = "tuple" ∨ c = "str") : RC T rIs [.int i, .ty c] H (.bl (isK "int" c)) := rc_is rfl (by decide) hc
theorem rc_isS {i : Str} {c : String} (hc : c = "int" ∨ c = "bool" ∨ c = "list" ∨ c = "tuple" ∨ c = "str") : RC T rIs [.str i, .ty c] H (.bl (isK "str" c)) := rc_is rfl (by decide) hc
theorem rc_isN {c : String} (hc : c = "int" ∨ c = "bool" ∨ c = "list" ∨ c = "tuple" ∨ c = "str") : RC T rIs [.non, .ty c] H (.bl (isK "NoneType" c)) := rc_is rfl (by decide) hc
theorem rc_isL {a : Addr} {xs : List V} {c : String} (h : H a = some (.lst xs)) (hc : c = "int" ∨ c = "bool" ∨ c = "list" ∨ c = "tuple" ∨ c = "str") : RC T rIs [.ref a, .ty c] H (.bl (isK "list" c)) := rc_is (kd_l h) (by decide) hc
theorem rc_isT {a : Addr} {xs : List V} {c : String} (h : H a = some (.tup xs)) (hc : c = "int" ∨ c = "bool" ∨ c = "list" ∨ c = "tuple" ∨ c = "str") : RC T rIs [.ref a, .ty c] H (.bl (isK "tuple" c)) := rc_is (kd_t h) (by decide) hc
/-- whether a thing is a whole number -/
def isI : V → Bool
  | .int _ => true
  | _ => false
theorem isI_kd {H : Hp} {x : V} : (isK (kd H x) "int" && !isK (kd H x) "bool") = isI x := by
  cases x with
  | ref a =>
    show (isK (match H a with | some (.lst _) => "list" | some (.tup _) => "tuple" | some (.dK _) => "dict" | some (.frz _ (.lst _)) => "list" | _ => "") "int" && _) = false
    split <;> rfl
  | _ => rfl
theorem et_orT {t u : TT} (h : EvT T t σ H true) : EvT T (tOr t u) σ H true := et_is (et_or (b := true) h fun z => nomatch z) rfl
theorem et_andF {t u : TT} (h : EvT T t σ H false) : EvT T (tAnd t u) σ H false := et_is (et_and (b := true) h fun z => nomatch z) rfl
theorem et_orF {t u : TT} {b : Bool} (h : EvT T t σ H false) (h2 : EvT T u σ H b) : EvT T (tOr t u) σ H b := et_is (et_or (b := b) h fun _ => h2) (Bool.false_or b)
theorem et_andT {t u : TT} {b : Bool} (h : EvT T t σ H true) (h2 : EvT T u σ H b) : EvT T (tAnd t u) σ H b := et_is (et_and (b := b) h fun _ => h2) (Bool.true_and b)
theorem nextI {D : Ends} {σ : L2.St} {H : Hp} (h : D.nx σ H) : tNext D σ H := h
end
end Fp

local macro_rules | `(tactic| walk_at "fact") => `(tactic| first | assumption | exact Or.inl (Or.inl ‹_›) | exact Or.inl ‹_› | exact Or.inr ‹_› | exact Or.inl (Or.inl (Or.inl ‹_›)))
local macro_rules | `(tactic| walk_at "num") => `(tactic| first | assumption | omega | decide | (refine And.intro ?_ ?_ <;> walk_at "num") | (refine Or.inl ?_; walk_at "num") | (refine Or.inr ?_; walk_at "num") | (simp only [List.length_map, List.length_append, List.length_cons, List.length_nil] at *; omega))
local macro_rules | `(tactic| walk_at "hyp") => `(tactic| (intro h; (try simp only [decide_eq_true_eq, Bool.not_eq_true', decide_eq_false_iff_not, Bool.and_eq_true, Bool.or_eq_false_iff] at h)))
local macro_rules | `(tactic| walk_at "rv") => `(tactic| with_reducible first | apply Fp.rv_i0 | (apply Fp.rv_i; with_unfolding_all walk_at "num") | apply Fp.rv_eqI | apply Fp.rv_neI | apply Fp.rv_eqB | apply Fp.rv_neB | apply Fp.rv_eqS | apply Fp.rv_isN | apply Fp.rv_notN | (apply Fp.rv_ixI; (· walk_at "fact"); (· walk_at "num"); (· walk_at "num")) | (apply Fp.rv_inI; walk_at "fact") | (apply Fp.rv_niI; walk_at "fact") | apply Fp.rv_isB | (apply Fp.rv_ixL; (· walk_at "fact"); (· first | assumption | with_unfolding_all rfl)) | (apply Fp.rv_ixT; (· walk_at "fact"); (· first | assumption | with_unfolding_all rfl)) | (apply Fp.rv_eq; with_unfolding_all rfl) | (apply Fp.rv_ne; with_unfolding_all rfl))
local macro_rules | `(tactic| walk_at "rc") => `(tactic| with_reducible first | (apply Fp.rc_lenI; walk_at "fact") | (apply Fp.rc_len; walk_at "fact") | (apply Fp.rc_isB; decide) | (apply Fp.rc_isI; decide) | (apply Fp.rc_isS; decide) | (apply Fp.rc_isN; decide) | (apply Fp.rc_isL; (· assumption); (· decide)) | (apply Fp.rc_isT; (· assumption); (· decide)) | (apply Fp.rc_is; (· first | assumption | with_unfolding_all rfl); (· first | assumption | decide); (· decide)))
local macro_rules | `(tactic| walk_at "ev") => `(tactic| with_reducible first | (apply Fp.ev_var; with_unfolding_all rfl) | apply Fp.ev_c | apply Fp.ev_p60 | apply Fp.ev_p59 | apply Fp.ev_p58 | apply Fp.ev_p57 | apply Fp.ev_p30 | (apply Fp.ev_op; (· walk_at "ev"); (· walk_at "ev"); (· walk_at "rv")) | (apply Fp.ev_neg; walk_at "ev") | (apply Fp.ev_cb; (· walk_at "ea"); (· walk_at "rc")) | (apply Fp.ev_call0; (· walk_at "ea"); (· walk_at "sp")) | (apply Fp.ev_and; (· walk_at "ev"); (· walk_at "hyp"; walk_at "ev")) | (apply Fp.ev_or; (· walk_at "ev"); (· walk_at "hyp"; walk_at "ev")) | (apply Fp.ev_not; walk_at "ev") | (apply Fp.ev_chain; (· walk_at "ev"); (· walk_at "ev"); (· walk_at "hyp"; walk_at "ev")))
local macro_rules | `(tactic| walk_at "ea") => `(tactic| with_reducible first | apply Fp.ea_nil | (apply Fp.ea_cons; (· walk_at "ev"); (· walk_at "ea")))
local macro_rules | `(tactic| walk_at "et") => `(tactic| with_reducible first | (apply Fp.et_not; walk_at "et") | (apply Fp.et_and; (· walk_at "et"); (· walk_at "hyp"; walk_at "et")) | (apply Fp.et_or; (· walk_at "et"); (· walk_at "hyp"; walk_at "et")) | (apply Fp.et_test; walk_at "ev") | (apply Fp.et_B; walk_at "ev"))
local macro_rules | `(tactic| walk_at "slot") => `(tactic| (simp only [List.set_cons_zero, List.set_cons_succ]))
namespace Fp
open PySem PySem.Spec PyProof.Rows L2 LamX
/-! ### ranks: what is meant -/
/-- a line comes before another one -/
def bef (rs : List Int) (i j : Int) : Bool := decide (rk rs i < rk rs j ∨ (rk rs i = rk rs j ∧ i < j))
def fstStep (rs : List Int) (f : Option Int) (i : Int) : Option Int := match f with
  | none => some i
  | some j => if bef rs i j = true then some i else some j
def fstOf (rs ls : List Int) : Option Int := ls.foldl (fstStep rs) none
/-- a whole number or None -/
def oI : Option Int → V
  | none => .non
  | some i => .int i
/-- a number that is a line's -/
def inR (rs : List Int) (i : Int) : Prop := 0 ≤ i ∧ i < rs.length

def sp_is_whole (_K : PySem.W.Frag) (T : List (Addr × Str)) : Sp := fun vs H Q _ => ∃ x, vs = [x] ∧ kd H x ≠ "" ∧ ∀ H', Ex T H H' → Q (.bl (isI x)) H'
def sp_before (K : PySem.W.Frag) (T : List (Addr × Str)) : Sp := fun vs H Q _ => ∃ r i j rs, vs = [.ref r, .int i, .int j] ∧ SqL K H r (rs.map V.int) ∧ inR rs i ∧ inR rs j ∧ ∀ H', Ex T H H' → Q (.bl (bef rs i j)) H'
def sp_in_order (K : PySem.W.Frag) (T : List (Addr × Str)) : Sp := fun vs H Q _ => ∃ r l rs ls, vs = [.ref r, .ref l] ∧ Kys K H l r rs ls ∧ Tabs T H ∧ ∀ v H', Ex T H H' → newL ((inOrd rs ls).map V.int) H v H' → Q v H'
def sp_first_of (K : PySem.W.Frag) (T : List (Addr × Str)) : Sp := fun vs H Q _ => ∃ r l rs ls, vs = [.ref r, .ref l] ∧ Kys K H l r rs ls ∧ ∀ H', Ex T H H' → Q (oI (fstOf rs ls)) H'
theorem len_is_whole {K : PySem.W.Frag} {T : List (Addr × Str)} : ∀ vs H Q E, sp_is_whole K T vs H Q E → vs.length = 1 := fun vs H Q E h => by
  obtain ⟨_, rfl, _⟩ := h
  exact rfl
theorem len_before {K : PySem.W.Frag} {T : List (Addr × Str)} : ∀ vs H Q E, sp_before K T vs H Q E → vs.length = 3 := fun vs H Q E h => by
  obtain ⟨_, _, _, _, rfl, _⟩ := h
  exact rfl
theorem len_in_order {K : PySem.W.Frag} {T : List (Addr × Str)} : ∀ vs H Q E, sp_in_order K T vs H Q E → vs.length = 2 := fun vs H Q E h => by
  obtain ⟨_, _, _, _, rfl, _⟩ := h
  exact rfl
theorem len_first_of {K : PySem.W.Frag} {T : List (Addr × Str)} : ∀ vs H Q E, sp_first_of K T vs H Q E → vs.length = 2 := fun vs H Q E h => by
  obtain ⟨_, _, _, _, rfl, _⟩ := h
  exact rfl
section
variable {K : PySem.W.Frag} {T : List (Addr × Str)} {H : Hp} {Q : VK} {E : XK} {vs : List V}
theorem v_is_whole {x : V} (h : kd H x ≠ "") : SpV T (sp_is_whole K T) [x] H (.bl (isI x)) := fun H1 e Q q E => ⟨x, rfl, by rw [kd_ex e rfl h]; exact h, q⟩
theorem v_before {r : Addr} {rs : List Int} {i j : Int} (h : SqL K H r (rs.map V.int)) (hi : inR rs i) (hj : inR rs j) : SpV T (sp_before K T) [.ref r, .int i, .int j] H (.bl (bef rs i j)) := fun H1 e Q q E => ⟨r, i, j, rs, rfl, e.l h, hi, hj, q⟩
theorem Kys.ex {H1 : Hp} {l r : Addr} {rs ls : List Int} (k : Kys K H l r rs ls) (e : Ex T H H1) : Kys K H1 l r rs ls := ⟨e.l k.l, e.l k.r, k.lo⟩
theorem v_in_order {r l : Addr} {rs ls : List Int} (k : Kys K H l r rs ls) (t : Tabs T H) : SpR T (sp_in_order K T) [.ref r, .ref l] H (newL ((inOrd rs ls).map V.int)) := fun H1 e Q q E => ⟨r, l, rs, ls, rfl, k.ex e, e.tb t, q⟩
theorem v_first_of {r l : Addr} {rs ls : List Int} (k : Kys K H l r rs ls) : SpV T (sp_first_of K T) [.ref r, .ref l] H (oI (fstOf rs ls)) := fun H1 e Q q E => ⟨r, l, rs, ls, rfl, k.ex e, q⟩
end
def r_is_whole (K : PySem.W.Frag) (T : List (Addr × Str)) : TS :=
  (tRet (tAndV (tCB rIs (tCons (tVar 0) (tCons (tC (.ty "int")) tNil))) (tNotV (tCB rIs (tCons (tVar 0) (tCons (tC (.ty "bool")) tNil))))))
def r_before (K : PySem.W.Frag) (T : List (Addr × Str)) : TS :=
  (tSeq (tIfS (tTest (tOp rNe (tOp (rIxL K) (tVar 0) (tVar 1)) (tOp (rIxL K) (tVar 0) (tVar 2)))) (tRet (tOp oLt (tOp (rIxL K) (tVar 0) (tVar 1)) (tOp (rIxL K) (tVar 0) (tVar 2)))) tNext)
  (tRet (tOp oLt (tVar 1) (tVar 2))))
def r_in_order (K : PySem.W.Frag) (T : List (Addr × Str)) : TS :=
  (tRet (tSortK K T 0 (tCons (tVar 1) tNil)))
def r_first_of (K : PySem.W.Frag) (T : List (Addr × Str)) : TS :=
  (tSeq (tAsg (tC .non) (gName 2))
  (tSeq (tFor (iList K (tVar 1)) (gName 3) (tIfS (tOr (tTest (tOp oIsN (tVar 2) (tC .non))) (tB (tCall (sp_before K T) [] E0 (tCons (tVar 0) (tCons (tVar 3) (tCons (tVar 2) tNil)))))) (tAsg (tVar 3) (gName 2)) tNext))
  (tRet (tVar 2))))
end Fp
local macro_rules | `(tactic| walk_at "sp") => `(tactic| first | exact Fp.v_is_whole (by first | assumption | decide) | exact Fp.v_before (by walk_at "fact") (by assumption) (by assumption) | exact Fp.v_first_of (by assumption))
namespace Fp
open PySem PySem.Spec PyProof.Rows L2 LamX
section
variable {K : PySem.W.Frag} {T : List (Addr × Str)} {H : Hp} {Q : VK} {E : XK} {vs : List V}
theorem p_is_whole (h : sp_is_whole K T vs H Q E) : r_is_whole K T { nx := fun _ H' => Q .non H', rt := Q } (start ["thing"] vs) H := by
  obtain ⟨x, rfl, hx, k⟩ := h
  have a := (rfl : kd H x = kd H x)
  exact s_ret (Mv.of T H) (ev_is (ev_and (ev_cb (by walk_at "ea") (rc_is a hx (by decide))) fun _ => ev_not (ev_cb (by walk_at "ea") (rc_is a hx (by decide)))) (by rw [isI_kd])) k
theorem p_before (h : sp_before K T vs H Q E) : r_before K T { nx := fun _ H' => Q .non H', rt := Q } (start ["ranks", "one", "other"] vs) H := by
  obtain ⟨r, i, j, rs, rfl, hr, ⟨i0, i1⟩, ⟨j0, j1⟩, k⟩ := h
  unfold r_before
  refine q_if (Mv.of T H) (by walk_at "et") (fun hb H1 e _ => ?_) (fun hb H1 e _ => ?_)
  · refine s_ret e (ev_is (by walk_at "ev") ?_) k
    simp only [Bool.not_eq_true', decide_eq_false_iff_not] at hb
    simp [bef, hb]
  · refine nextI ?_
    dsimp only
    refine s_ret e (ev_is (by walk_at "ev") ?_) k
    simp only [Bool.not_eq_false', decide_eq_true_eq] at hb
    simp [bef, hb]
theorem p_in_order (h : sp_in_order K T vs H Q E) : r_in_order K T { nx := fun _ H' => Q .non H', rt := Q } (start ["ranks", "lines"] vs) H := by
  obtain ⟨r, l, rs, ls, rfl, ky, tb, k⟩ := h
  exact ⟨_, rfl, l, r, rs, ls, rfl, rfl, ky, tb, k⟩
theorem item_int {ns : List Int} {i : Nat} {y : V} (h : (ns.map V.int)[i]? = some y) : ∃ z, ns[i]? = some z ∧ y = V.int z := by
  rw [List.getElem?_map] at h
  cases e : ns[i]? with
  | none => rw [e] at h; cases h
  | some z => rw [e] at h; exact ⟨z, rfl, (Option.some.inj h).symm⟩
theorem take_snoc {α : Type} {l : List α} {i : Nat} {x : α} (h : l[i]? = some x) : l.take (i + 1) = l.take i ++ [x] := by
  rw [List.take_add_one, h]
  rfl
theorem fst_snoc {rs ls : List Int} {i : Nat} {z : Int} (h : ls[i]? = some z) : fstOf rs (ls.take (i + 1)) = fstStep rs (fstOf rs (ls.take i)) z := by
  unfold fstOf
  rw [take_snoc h, List.foldl_append]
  rfl
theorem fst_mem {rs : List Int} : ∀ {ls : List Int} {f : Option Int} {z : Int}, ls.foldl (fstStep rs) f = some z → f = some z ∨ z ∈ ls
  | [], f, z, h => .inl h
  | a :: ls, f, z, h => by
    rcases fst_mem (ls := ls) h with e | e
    · cases f with
      | none => exact .inr (by cases e; exact List.mem_cons_self)
      | some j =>
        unfold fstStep at e
        dsimp only at e
        split at e
        · cases e; exact .inr List.mem_cons_self
        · exact .inl e
    · exact .inr (List.mem_cons_of_mem _ e)
theorem p_first_of (h : sp_first_of K T vs H Q E) : r_first_of K T { nx := fun _ H' => Q .non H', rt := Q } (start ["ranks", "lines", "found", "line"] vs) H := by
  obtain ⟨r, l, rs, ls, rfl, ky, k⟩ := h
  unfold r_first_of
  refine q_asg (Mv.of T H) ev_c rfl fun H1 e1 _ => ?_
  refine s_forL (xs := ls.map V.int) e1 (by walk_at "ev") ky.l (fun i σ' H' => ∃ v, σ' = [some (.ref r), some (.ref l), some (oI (fstOf rs (ls.take i))), v] ∧ Ex T H H') (fun H2 e2 _ => ⟨none, rfl, e2⟩) (fun i σ' H' _ ⟨_, _, e⟩ => e.l ky.l) ?_ ?_
  · rintro i x σ' H' hi ⟨v, rfl, e⟩
    obtain ⟨z, hz, rfl⟩ := item_int hi
    have hzl := List.mem_of_getElem? hz
    have hk := ky.r
    have iz := ky.lo z hzl
    have step := fst_snoc (rs := rs) hz
    cases hf : fstOf rs (ls.take i) with
    | none =>
      refine s_if (b := true) e (et_orT (et_is (by walk_at "et") (by simp [oI]))) (fun _ H2 e2 _ => ?_) (fun hb => nomatch hb)
      refine s_asg e2 (by walk_at "ev") fun H3 e3 _ => ⟨some (.int z), ?_, e3⟩
      rw [step, hf]
      rfl
    | some j =>
      have jz : inR rs j := by
        rcases fst_mem hf with q | q
        · cases q
        · exact ky.lo j (List.mem_of_mem_take q)
      refine s_if (b := bef rs z j) e (et_orF (et_is (by walk_at "et") (by simp [oI])) (et_B (ev_call0 (by walk_at "ea") (v_before hk iz jz)))) (fun hb H2 e2 _ => ?_) (fun hb H2 e2 _ => ?_)
      · refine s_asg e2 (by walk_at "ev") fun H3 e3 _ => ⟨some (.int z), ?_, e3⟩
        rw [step, hf]
        simp only [fstStep, hb, if_true, oI]
        rfl
      · refine nextI ⟨some (.int z), ?_, e2⟩
        rw [step, hf]
        simp only [fstStep, hb, oI]
        rfl
  · rintro σ' H' ⟨v, rfl, e⟩
    rw [List.length_map, List.take_length]
    dsimp only
    exact s_ret e (by walk_at "ev") k
end
end Fp

namespace Fp
open PySem PySem.Spec PyProof.Rows L2 LamX
/-! ### data compared -/
mutual
theorem Dp.mv {K : PySem.W.Frag} {H H' : Hp} (m : ∀ a xs, SqL K H a xs → SqL K H' a xs) (t : ∀ a xs, SqT K H a xs → SqT K H' a xs) : ∀ {v : V} {d : PyData}, Dp K H v d → Dp K H' v d
  | _, _, .non => .non
  | _, _, .bl b => .bl b
  | _, _, .int i => .int i
  | _, _, .str x => .str x
  | _, _, .lst h a => .lst (m _ _ h) (DpAll.mv m t a)
  | _, _, .tup h a => .tup (t _ _ h) (DpAll.mv m t a)
theorem DpAll.mv {K : PySem.W.Frag} {H H' : Hp} (m : ∀ a xs, SqL K H a xs → SqL K H' a xs) (t : ∀ a xs, SqT K H a xs → SqT K H' a xs) : ∀ {vs : List V} {ds : List PyData}, DpAll K H vs ds → DpAll K H' vs ds
  | _, _, .nil => .nil
  | _, _, .cons h a => .cons (Dp.mv m t h) (DpAll.mv m t a)
end
section
variable {T : List (Addr × Str)} {K : PySem.W.Frag} {σ : L2.St} {H H' : Hp} {ta tb te : TE} {x y z v : V} {a : Addr} {d e : PyData} {ns ms : List Int}
theorem _root_.L2.Dp.ex (m : Ex T H H') (h : Dp K H v d) : Dp K H' v d := Dp.mv (fun _ _ => m.l) (fun _ _ => m.t) h
/-- a list of whole numbers -/
def dI (ns : List Int) : PyData := .list (ns.map PyData.int)
theorem dp_all : ∀ ns : List Int, DpAll K H (ns.map V.int) (ns.map PyData.int)
  | [] => .nil
  | n :: ns => .cons (.int n) (dp_all ns)
theorem dp_l (h : SqL K H a (ns.map V.int)) : Dp K H (.ref a) (dI ns) := .lst h (dp_all ns)
theorem dp_n (h : H a = some (.lst (ns.map V.int))) : Dp K H (.ref a) (dI ns) := dp_l (.inl (.inl h))
theorem lay_ints : ∀ ns : List Int, PyData.canLayAll0 (ns.map PyData.int) = true ∧ PyData.depthAll (ns.map PyData.int) = 0
  | [] => ⟨rfl, rfl⟩
  | n :: ns => by
    have ih := lay_ints ns
    constructor
    · simp [PyData.canLayAll0, PyData.canLay0, ih.1]
    · simp [PyData.depthAll, PyData.depth, ih.2]
theorem lay_dI : PyData.canLay0 (dI ns) = true ∧ PyData.depth (dI ns) = 1 := by
  have ih := lay_ints ns
  exact ⟨by unfold dI PyData.canLay0; exact ih.1, by unfold dI PyData.depth; rw [ih.2]⟩
theorem sh_dI : SeqAt.shaped (dI ns) = true := by
  have h := lay_dI (ns := ns)
  unfold SeqAt.shaped
  rw [h.1, h.2]
  decide
theorem eqv_all : ∀ ns ms : List Int, PyData.eqvAll (ns.map PyData.int) (ms.map PyData.int) = decide (ns = ms)
  | [], [] => rfl
  | [], _ :: _ => rfl
  | _ :: _, [] => rfl
  | n :: ns, m :: ms => by
    simp only [List.map_cons, PyData.eqvAll, PyData.eqv, eqv_all ns ms, List.cons.injEq, Bool.decide_and]
    rfl
theorem eqv_dI : PyData.eqv (dI ns) (dI ms) = decide (ns = ms) := by
  unfold dI PyData.eqv
  exact eqv_all ns ms
theorem rv_eqD (h1 : Dp K H x d) (h2 : Dp K H y e) (s1 : SeqAt.shaped d = true) (s2 : SeqAt.shaped e = true) : RV T (rEqD K) x y H (.bl (PyData.eqv d e)) := fun H1 m _ q => ⟨d, e, h1.ex m, h2.ex m, s1, s2, q H1 Mv.refl⟩
theorem rv_neD (h1 : Dp K H x d) (h2 : Dp K H y e) (s1 : SeqAt.shaped d = true) (s2 : SeqAt.shaped e = true) : RV T (rNeD K) x y H (.bl (!PyData.eqv d e)) := fun H1 m _ q => ⟨d, e, h1.ex m, h2.ex m, s1, s2, q H1 Mv.refl⟩
/-- the same data on both sides -/
theorem rv_eqDt (h1 : Dp K H x d) (h2 : Dp K H y d) (s1 : SeqAt.shaped d = true) : RV T (rEqD K) x y H (.bl true) := fun H1 m Q q => rv_eqD h1 h2 s1 s1 H1 m Q fun H2 e2 => by
  rw [SeqAt.eqv_refl d (SeqAt.canLay_of_shaped s1)]
  exact q H2 e2
theorem rv_neDf (h1 : Dp K H x d) (h2 : Dp K H y d) (s1 : SeqAt.shaped d = true) : RV T (rNeD K) x y H (.bl false) := fun H1 m Q q => rv_neD h1 h2 s1 s1 H1 m Q fun H2 e2 => by
  rw [SeqAt.eqv_refl d (SeqAt.canLay_of_shaped s1)]
  exact q H2 e2
theorem rv_eqDI (h1 : Dp K H x (dI ns)) (h2 : Dp K H y (dI ms)) : RV T (rEqD K) x y H (.bl (decide (ns = ms))) := fun H1 m Q q => rv_eqD h1 h2 sh_dI sh_dI H1 m Q fun H2 e2 => by
  rw [eqv_dI]
  exact q H2 e2
theorem rv_neDI (h1 : Dp K H x (dI ns)) (h2 : Dp K H y (dI ms)) : RV T (rNeD K) x y H (.bl (!decide (ns = ms))) := fun H1 m Q q => rv_neD h1 h2 sh_dI sh_dI H1 m Q fun H2 e2 => by
  rw [eqv_dI]
  exact q H2 e2
theorem last_of {ns : List Int} (h : ns ≠ []) : ∃ j, ns.getLast? = some j ∧ j ∈ ns := ⟨ns.getLast h, List.getLast?_eq_some_getLast h, List.getLast_mem h⟩
/-! ### a list made of a list -/
variable {α : Type} {tl tt : TE} {t : TT} {vs : List Nat} {j : Nat}
theorem el_lc {as : List α} {g f : α → V} {b : α → Bool} (ha : Ev T tl σ H (.ref a)) (hx : SqL K H a (as.map g)) (hz : as.length ≤ 100000) (hw : ∀ x, wipe ((wipe σ vs).set j (some x)) vs = wipe σ vs)
    (ht : ∀ z ∈ as, EvT T t ((wipe σ vs).set j (some (g z))) H (b z)) (he : ∀ z ∈ as, b z = true → Ev T te ((wipe σ vs).set j (some (g z))) H (f z)) : EvL T (tLc (iList K tl) (gName j) t te vs) σ H ((as.filter b).map f) := fun H1 e Q q =>
  ha H1 e _ fun H2 e2 => ⟨a, rfl, ⟨as.map g, (e.trans e2).l hx⟩, fun D hD => by
    have e3 : Ex T H2 (upd H2 D (.lst [])) := Mv.new hD
    refine lc_list (fun i H' => Ex T H2 H' ∧ H' D = some (.lst (((as.take i).filter b).map f))) ⟨e3, upd_same⟩ (fun i H' _ p => ((e.trans e2).trans p.1).l hx) (fun i x H' hi p => ?_) (fun H' p => ?_)
    · rw [List.getElem?_map] at hi
      cases hj : as[i]? with
      | none => rw [hj] at hi; cases hi
      | some z =>
        rw [hj] at hi
        obtain rfl := Option.some.inj hi
        have hm := List.mem_of_getElem? hj
        have ts : (as.take (i + 1)).filter b = (as.take i).filter b ++ (if b z = true then [z] else []) := by
          rw [List.take_add_one, hj, List.filter_append]
          congr 1
          cases bz : b z <;> simp [bz]
        refine ⟨hw _, ht z hm H' ((e.trans e2).trans p.1) _ fun H3 e3' => ?_⟩
        cases bz : b z with
        | false =>
          rw [bz] at ts
          refine ⟨p.1.trans e3', ?_⟩
          rw [e3'.at p.2, ts]
          simp
        | true =>
          rw [bz] at ts
          refine he z hm bz H3 (((e.trans e2).trans p.1).trans e3') _ fun H4 e4 => ?_
          have k4 := (e3'.trans e4).at p.2
          refine ⟨_, k4, ?_, ((p.1.trans e3').trans e4).set (.inr (.of hD)) k4, ?_⟩
          · refine Nat.lt_of_le_of_lt (Nat.le_trans ?_ (?_ : i ≤ 100000)) (by decide)
            · rw [List.length_map]
              exact Nat.le_trans (List.length_filter_le _ _) (by rw [List.length_take]; exact Nat.min_le_left _ _)
            · have := (List.getElem?_eq_some_iff.mp hj).1
              omega
          · rw [upd_same, ts]
            simp
    · rw [List.length_map, List.take_length] at p
      exact q _ H' (e2.trans p.1) ⟨D, rfl, e2.dm D (.of hD), p.2⟩⟩
theorem et_yes : EvT T tYes σ H true := fun H1 _ _ q => q H1 Mv.refl
theorem el_lcA {as : List α} {g f : α → V} (ha : Ev T tl σ H (.ref a)) (hx : SqL K H a (as.map g)) (hz : as.length ≤ 100000) (hw : ∀ x, wipe ((wipe σ vs).set j (some x)) vs = wipe σ vs)
    (he : ∀ z ∈ as, Ev T te ((wipe σ vs).set j (some (g z))) H (f z)) : EvL T (tLc (iList K tl) (gName j) tYes te vs) σ H (as.map f) := by
  have q := el_lc (b := fun _ => true) (t := tYes) (te := te) (f := f) ha hx hz hw (fun _ _ => et_yes) (fun z hm _ => he z hm)
  rwa [List.filter_eq_self.mpr (fun _ _ => rfl)] at q
theorem el_lcR {n : Nat} {f : Nat → V} {b : Nat → Bool} {ta : TA} (ha : EvA T ta σ H [.int n]) (hz : n ≤ 100000) (hw : ∀ x, wipe ((wipe σ vs).set j (some x)) vs = wipe σ vs)
    (ht : ∀ z, z < n → EvT T t ((wipe σ vs).set j (some (.int (z : Int)))) H (b z)) (he : ∀ z, z < n → b z = true → Ev T te ((wipe σ vs).set j (some (.int (z : Int)))) H (f z)) : EvL T (tLc (iRng1 ta) (gName j) t te vs) σ H (((List.range n).filter b).map f) := fun H1 e Q q =>
  ha H1 e _ fun H2 e2 => ⟨n, rfl, by omega, by omega, fun D hD => by
    have e3 : Ex T H2 (upd H2 D (.lst [])) := Mv.new hD
    refine lc_range (lo := 0) (n := n) (fun i H' => Ex T H2 H' ∧ H' D = some (.lst (((List.range i).filter b).map f))) ⟨e3, upd_same⟩ (fun i H' hi p => ?_) (fun H' p => ?_)
    · have z0 : (0 : Int) + (i : Int) = (i : Int) := Int.zero_add _
      rw [z0]
      have ts : (List.range (i + 1)).filter b = (List.range i).filter b ++ (if b i = true then [i] else []) := by
        rw [List.range_succ, List.filter_append]
        congr 1
        cases bz : b i <;> simp [bz]
      refine ⟨hw _, ht i hi H' ((e.trans e2).trans p.1) _ fun H3 e3' => ?_⟩
      cases bz : b i with
      | false =>
        rw [bz] at ts
        refine ⟨p.1.trans e3', ?_⟩
        rw [e3'.at p.2, ts]
        simp
      | true =>
        rw [bz] at ts
        refine he i hi bz H3 (((e.trans e2).trans p.1).trans e3') _ fun H4 e4 => ?_
        have k4 := (e3'.trans e4).at p.2
        refine ⟨_, k4, ?_, ((p.1.trans e3').trans e4).set (.inr (.of hD)) k4, ?_⟩
        · refine Nat.lt_of_le_of_lt (Nat.le_trans ?_ (?_ : i ≤ 100000)) (by decide)
          · rw [List.length_map]
            exact Nat.le_trans (List.length_filter_le _ _) (by rw [List.length_range]; exact Nat.le_refl _)
          · omega
        · rw [upd_same, ts]
          simp
    · exact q _ H' (e2.trans p.1) ⟨D, rfl, e2.dm D (.of hD), p.2⟩⟩
end
end Fp

namespace Fp
open PySem PySem.Spec PyProof.Rows L2 LamX
/-! ### methods and makings by name -/
/-- the method m of the class c keeps a promise -/
structure Gm (P : Program) (w : World) (K : PySem.W.Frag) (mg : Str → Option Value) (base : Heap) (CX : CXT) (k : Nat) (c m : Str) (ps : List Str) (dvs : List V) (sp : Sp) : Prop where
  cls : Cls K (He.ga K c)
  meth : Meth K (He.ga K c) m (He.ma K (He.ga K c) m)
  ex : ∃ fd ds, FnOk P w K mg base CX k (He.ma K (He.ga K c) m) fd ps sp ∧ L2.Binds K fd ps ds ∧ Vals dvs ds
/-- the class c is made by a promise of its __init__ -/
structure Gk (P : Program) (w : World) (K : PySem.W.Frag) (mg : Str → Option Value) (base : Heap) (CX : CXT) (k : Nat) (c : Str) (ps : List Str) (dvs : List V) (sp : Sp) : Prop where
  mkr : Mk K (He.ga K c) (He.ma K (He.ga K c) "__init__")
  at_ : mg c = some (.ref (He.ga K c))
  ex : ∃ fd ds, FnOk P w K mg base CX k (He.ma K (He.ga K c) "__init__") fd ps sp ∧ L2.Binds K fd ps ds ∧ Vals dvs ds
/-- where a method stands -/
structure Dm (K : PySem.W.Frag) (c m qual : Str) (st : Stmt) (dvs : List V) : Prop where
  cls : Cls K (He.ga K c)
  meth : Meth K (He.ga K c) m (He.ma K (He.ga K c) m)
  ex : ∃ fd, FunD K m qual (defArgs st) (defBody st) (defScope st) dvs [] (He.ma K (He.ga K c) m) fd
theorem passN {X : Cx} {E : XK} (h : ∀ c d H, ¬ E c d H) : Passes (L2.CX X.prog X.w) X E := fun _ _ _ _ _ _ _ ⟨_, _, _, _, _, _, _, _, _, _, _, _, z⟩ => (h _ _ _ z).elim
theorem passE {X : Cx} {E : XK} (tk : Takes X (fun c d _ H => E c d H)) : Passes (L2.CX X.prog X.w) X E := passes_call tk fun _ _ _ _ h => h
section
variable {X : Cx} {CX : CXT} {k : Nat} {c m : Str} {ps : List Str} {dvs : List V} {sp : Sp} {E : XK} {p pos apos : Pos} {e o : Expr} {es : List Expr} {t : TA} {ta : TE} {pl : Sem Bool}
theorem pe_m (G : Gm X.prog X.w X.K X.mg X.base CX k c m ps dvs sp) (hr : Room k X.A) (hx : Passes CX X E) (he : PE X o ta) (ha : PA X (e :: es) t)
    (h1 : starEach (e :: es) X.env = (false, eval e X.env) :: starEach es X.env := by rfl) (h2 : (backTo pos (starEach es X.env)).any (·.1) = false := by rfl)
    (h3 : eval (.Call (.Attribute o m apos) (e :: es) [] pos) X.env = (do
      let a ← eval o X.env
      standAt apos.atName
      let (g, b) ← holding [a] (getMethod a m pl)
      callWith pos g b (backTo pos (starEach (e :: es) X.env)) (backToKw pos (keywordEach [] X.env))) := by rfl) :
    PE X (.Call (.Attribute o m apos) (e :: es) [] pos) (tMeth (He.ga X.K c) m sp dvs E ta t) := by
  obtain ⟨fd, ds, F, b, hd⟩ := G.ex
  exact pe_meth he G.cls G.meth F hr b hd hx ha h1 h2 h3
theorem pe_m0 (G : Gm X.prog X.w X.K X.mg X.base CX k c m ps dvs sp) (hr : Room k X.A) (hx : Passes CX X E) (he : PE X o ta)
    (h3 : eval (.Call (.Attribute o m apos) [] [] pos) X.env = (do
      let a ← eval o X.env
      standAt apos.atName
      let (g, b) ← holding [a] (getMethod a m pl)
      callWith pos g b (backTo pos (starEach [] X.env)) (backToKw pos (keywordEach [] X.env))) := by rfl) :
    PE X (.Call (.Attribute o m apos) [] [] pos) (tMeth (He.ga X.K c) m sp dvs E ta tNil) := by
  obtain ⟨fd, ds, F, b, hd⟩ := G.ex
  exact pe_meth0 he G.cls G.meth F hr b hd hx h3
theorem pe_k (G : Gk X.prog X.w X.K X.mg X.base CX k c ps dvs sp) (hr : Room (k + 1) X.A) (hg : Gl X c) (hx : Passes CX X E) (ha : PA X (e :: es) t)
    (h0 : (c == ("__debug__" : Str)) = false := by decide) (h1 : starEach (e :: es) X.env = (false, eval e X.env) :: starEach es X.env := by rfl) (h2 : (backTo pos (starEach es X.env)).any (·.1) = false := by rfl) :
    PE X (.Call (.Name c p) (e :: es) [] pos) (tMake (He.ga X.K c) sp dvs E t) := by
  obtain ⟨fd, ds, F, b, hd⟩ := G.ex
  exact pe_make G.mkr F hr hg G.at_ b hd hx ha h0 h1 h2
/-! in the body of a try: what is let out is wished of the slots as they are -/
def tMakeS (C : Addr) (sp : Sp) (dvs : List V) (E : L2.St → XK) (t : TA) : TE := fun σ H Q => tMake C sp dvs (E σ) t σ H Q
def tMethS1 (C : Addr) (m : Str) (sp : Sp) (dvs : List V) (E : L2.St → XK) (ta : TE) (t : TA) : TE := fun σ H Q => tMeth C m sp dvs (E σ) ta t σ H Q
theorem run_mkS {pins : List (Addr × Obj)} {σ : L2.St} {H : Hp} {s : Shared} {Q : VK} {us ds : List Value} {vs : List V} {C f : Addr} {fd : FuncData} {W : XK} (M : Mk X.K C f) (F : FnOk X.prog X.w X.K X.mg X.base CX k f fd ps sp) (hr : Room (k + 1) X.A)
    (b : L2.Binds X.K fd ps ds) (hd : Vals dvs ds) (hx : PassesAt CX X σ W) (I : Inv X pins σ H s) (r : Vals vs us)
    (h : ∀ y d, H y = none → H d = none → d ≠ y → sp (.ref y :: (vs ++ dvs)) (upd (upd H d (.own y)) y (.ins C d [])) (fun v H2 => v = .non ∧ Q (.ref y) H2) W) : wpAny (model X.prog X.w) X.A (call (.ref C) us) (EP X pins σ Q) X.xe s := by
  have I2 := Inv.made (C := C) I
  have z := h _ _ (I.hok.fresh (Nat.le_succ s.heap.objs.size)) (I.hok.fresh (Nat.le_refl s.heap.objs.size)) (Nat.ne_of_lt (Nat.lt_succ_self _))
  have rr : Vals (V.ref (s.heap.objs.size + 1) :: (vs ++ dvs)) (.ref (s.heap.objs.size + 1) :: (us ++ ds)) := .cons rfl (r.append hd)
  have n : (Value.ref (s.heap.objs.size + 1) :: us ++ ds).length = ps.length := (F.len _ _ _ _ z) ▸ rr.length.symm
  refine wpAny_call (make_map (f := f) I.kIn M.makes M.init (beq_iff_eq.mp M.fn) (codeAny_mono
    (F.run _ X.stack _ _ ⟨.ref (s.heap.objs.size + 1) :: us, []⟩ _ _ _ W (hr.make C us []) (I2.env0.make C us []) (b _ (.ref (s.heap.objs.size + 1) :: us) I2.kIn n) rr z) fun g s' q => ?_))
  match g, q with
  | .error e, q => exact hx pins _ _ e s' I2 q
  | .ok (.ret u), q =>
    obtain ⟨v, H', I3, rv, rfl, q3⟩ := I2.after q
    exact ⟨rv, ⟨.ref (s.heap.objs.size + 1), H', I3, rfl, q3⟩⟩
  | .ok .next, q => exact q.elim
  | .ok .brk, q => exact q.elim
  | .ok .cont, q => exact q.elim
theorem pe_kS {W : L2.St → XK} (G : Gk X.prog X.w X.K X.mg X.base CX k c ps dvs sp) (hr : Room (k + 1) X.A) (hg : Gl X c) (hx : ∀ σ, PassesAt CX X σ (W σ)) (ha : PA X (e :: es) t)
    (h0 : (c == ("__debug__" : Str)) = false := by decide) (h1 : starEach (e :: es) X.env = (false, eval e X.env) :: starEach es X.env := by rfl) (h2 : (backTo pos (starEach es X.env)).any (·.1) = false := by rfl) :
    PE X (.Call (.Name c p) (e :: es) [] pos) (tMakeS (He.ga X.K c) sp dvs W t) := by
  obtain ⟨fd, ds, F, b, hd⟩ := G.ex
  refine ⟨fun pins s σ H Q I h => wpAny_Call_Name_kw (ld_glob I hg G.at_ (PySem.W.callWith_K (h₀ := X.base) I.ok.mod.kin G.mkr.kp (thn (ha.run pos pins s σ H _ I h) fun us s1 ⟨vs, H1, I1, r, q⟩ => ⟨I1.kIn, run_mkS G.mkr F hr b hd (hx σ) I1 r q⟩) h1 h2) h0)⟩
theorem pe_mS {W : L2.St → XK} (G : Gm X.prog X.w X.K X.mg X.base CX k c m ps [] sp) (hr : Room k X.A) (hx : ∀ σ, PassesAt CX X σ (W σ)) (he : PE X o ta) (ha : PA X (e :: es) t)
    (h1 : starEach (e :: es) X.env = (false, eval e X.env) :: starEach es X.env := by rfl) (h2 : (backTo pos (starEach es X.env)).any (·.1) = false := by rfl)
    (h3 : eval (.Call (.Attribute o m apos) (e :: es) [] pos) X.env = (do
      let a ← eval o X.env
      standAt apos.atName
      let (g, b) ← holding [a] (getMethod a m pl)
      callWith pos g b (backTo pos (starEach (e :: es) X.env)) (backToKw pos (keywordEach [] X.env))) := by rfl) :
    PE X (.Call (.Attribute o m apos) (e :: es) [] pos) (tMethS1 (He.ga X.K c) m sp [] W ta t) := by
  obtain ⟨fd, ds, F, b, hd⟩ := G.ex
  obtain rfl : ds = [] := by cases hd; rfl
  refine ⟨fun pins s σ H Q I h => PySem.W.methodCall_KW (pl := pl) (thn (he.run pins s σ H _ I h) fun u s1 ⟨x, H1, I1, rx, a, dx, fs, ex, ea, l, q⟩ => ?_) h3⟩
  subst ex
  obtain rfl : u = Value.ref a := rx
  refine getmeth_ok I1 ea G.cls G.meth l ?_
  refine PySem.W.callWith_K (h₀ := X.base) (first := [.ref a]) I1.ok.mod.kin G.meth.kp (thn (ha.run pos pins s1 σ H1 _ I1 q) fun us s2 ⟨vs, H2, I2, r, q2⟩ => ⟨I2.kIn, ?_⟩) h1 h2
  have q2 : sp (.ref a :: (vs ++ [])) H2 Q (W σ) := q2
  rw [List.append_nil] at q2
  exact run_fnS (us := .ref a :: us) (vs := .ref a :: vs) F hr b (hx σ) I2 (.cons rfl r) q2
end
section
variable {P : Program} {w : World} {K : PySem.W.Frag} {mg : Str → Option Value} {base : Heap} {c m qual : Str} {st : Stmt} {N ps : List Str} {k : Nat} {sp : Sp} {dvs : List V}
theorem bindN {f : Addr} {fd : FuncData} (hb : ∀ (kV doc pm : Value) (an : Option Addr) (cdv ct : Value) (us : List Value), us.length = ps.length → bindArgs (PySem.W.fnOf m qual (defArgs st) (defBody st) (defScope st) .none kV doc pm an cdv ct) ⟨us, []⟩ = pure (ps.zip us))
    (F : FunD K m qual (defArgs st) (defBody st) (defScope st) [] [] f fd) : ∃ ds, L2.Binds K fd ps ds ∧ Vals [] ds := ⟨[], F.bindsN hb, .nil⟩
/-- a method that lets nothing out -/
theorem Dm.fn0 (D : Dm K c m qual st dvs) (S : FnScope N ps (defScope st)) (len : ∀ vs H Q E, sp vs H Q E → vs.length = ps.length) (hb : ∀ f fd, FunD K m qual (defArgs st) (defBody st) (defScope st) dvs [] f fd → ∃ ds, L2.Binds K fd ps ds ∧ Vals dvs ds)
    (hbody : ∀ (f : Addr) (cdv : Value) (A : Around) (outer : List Env) (s : Shared) (H : Hp) (vs : List V) (Q : VK) (E : XK), Room k (A.deeper (envOfC qual (defScope st) s.heap.objs.size f cdv)) → sp vs H Q E →
      ∃ t, PSs (cxOf CX0 P w K mg base N qual (defScope st) f cdv A outer s H E).nox (defBody st) t ∧ t { nx := fun _ H' => Q .non H', rt := Q } (start N vs) H) :
    ∃ fd ds, FnOk P w K mg base CX0 (k + 1) (He.ma K (He.ga K c) m) fd ps sp ∧ L2.Binds K fd ps ds ∧ Vals dvs ds := by
  obtain ⟨fd, F⟩ := D.ex
  obtain ⟨ds, b, v⟩ := hb _ fd F
  refine ⟨fd, ds, F.ok S len (fun cdv A outer s H vs Q E hr h => ?_), b, v⟩
  obtain ⟨t, h1, h2⟩ := hbody _ cdv A outer s H vs Q E hr h
  exact ⟨t, h1.nox, h2⟩
/-- a method that may raise -/
theorem Dm.fnX (D : Dm K c m qual st dvs) (S : FnScope N ps (defScope st)) (len : ∀ vs H Q E, sp vs H Q E → vs.length = ps.length) (hb : ∀ f fd, FunD K m qual (defArgs st) (defBody st) (defScope st) dvs [] f fd → ∃ ds, L2.Binds K fd ps ds ∧ Vals dvs ds)
    (hbody : ∀ (f : Addr) (cdv : Value) (A : Around) (outer : List Env) (s : Shared) (H : Hp) (vs : List V) (Q : VK) (E : XK), Room k (A.deeper (envOfC qual (defScope st) s.heap.objs.size f cdv)) → sp vs H Q E →
      ∃ t, PSs (cxOf (L2.CX P w) P w K mg base N qual (defScope st) f cdv A outer s H E) (defBody st) t ∧ t { nx := fun _ H' => Q .non H', rt := Q } (start N vs) H) :
    ∃ fd ds, FnOk P w K mg base (L2.CX P w) (k + 1) (He.ma K (He.ga K c) m) fd ps sp ∧ L2.Binds K fd ps ds ∧ Vals dvs ds := by
  obtain ⟨fd, F⟩ := D.ex
  obtain ⟨ds, b, v⟩ := hb _ fd F
  exact ⟨fd, ds, F.ok S len (fun cdv A outer s H vs Q E hr h => hbody _ cdv A outer s H vs Q E hr h), b, v⟩
end
section
variable {P : Program} {w : World} {K : PySem.W.Frag} {mg : Str → Option Value} {base : Heap} {c m qual : Str} {st : Stmt} {N ps : List Str} {k : Nat} {sp : Sp} {dvs : List V} {CX : CXT}
theorem Dm.gm (D : Dm K c m qual st dvs) (h : ∃ fd ds, FnOk P w K mg base CX k (He.ma K (He.ga K c) m) fd ps sp ∧ L2.Binds K fd ps ds ∧ Vals dvs ds) : Gm P w K mg base CX k c m ps dvs sp := ⟨D.cls, D.meth, h⟩
/-- where an __init__ stands -/
structure Dk (K : PySem.W.Frag) (mg : Str → Option Value) (c qual : Str) (st : Stmt) (dvs : List V) : Prop where
  mkr : Mk K (He.ga K c) (He.ma K (He.ga K c) "__init__")
  at_ : mg c = some (.ref (He.ga K c))
  dm : Dm K c "__init__" qual st dvs
theorem Dk.gk (D : Dk K mg c qual st dvs) (h : ∃ fd ds, FnOk P w K mg base CX k (He.ma K (He.ga K c) "__init__") fd ps sp ∧ L2.Binds K fd ps ds ∧ Vals dvs ds) : Gk P w K mg base CX k c ps dvs sp := ⟨D.mkr, D.at_, h⟩
theorem pe_gi {X : Cx} {x : Str} {p : Pos} {i : Int} (h : ∃ t, X.mg x = some (.int i t)) (hg : Gl X x) (h0 : (x == ("__debug__" : Str)) = false := by decide) : PE X (.Name x p) (tC (.int i)) := by
  obtain ⟨t, e⟩ := h
  exact pe_glob hg e ⟨t, rfl⟩ h0
theorem pe_gS {X : Cx} {CX : CXT} {k : Nat} {x : Str} {ps : List Str} {sp : Sp} {E : L2.St → XK} {p pos : Pos} {e : Expr} {es : List Expr} {t : TA} (G : Gd X.prog X.w X.K X.mg X.base CX k x ps sp) (hr : Room k X.A) (hg : Gl X x) (hx : ∀ σ, PassesAt CX X σ (E σ)) (ha : PA X (e :: es) t) (h0 : (x == ("__debug__" : Str)) = false := by decide)
    (h1 : starEach (e :: es) X.env = (false, eval e X.env) :: starEach es X.env := by rfl) (h2 : (backTo pos (starEach es X.env)).any (·.1) = false := by rfl) : PE X (.Call (.Name x p) (e :: es) [] pos) (tCallS sp E t) := by
  obtain ⟨f, fd, F, g1, g2, g3⟩ := G.ex
  exact pe_callS F hr hg g1 g2 g3 hx ha h0 h1 h2
/-- try: .. except c as n: .., nothing else let out -/
def tTryAs (K : PySem.W.Frag) (c : Value) (i : Nat) (tb : WX → TS) (ts : Addr → Value → Option Addr → TS) : TS := fun D σ H => tb (wAs K c i ts (fun _ _ _ _ => False) D) D σ H
theorem ps_tryAs {X : Cx} {x n : Str} {c : Value} {i : Nat} {body suite : List Stmt} {b0 : Stmt} {np pos pos' : Pos} {tb : WX → TS} {ts : Addr → Value → Option Addr → TS} (hs : X.stack = X.env :: X.outer) (hf : X.env.frame = some X.env.locals) (hN : X.N.Nodup) (hi : X.N[i]? = some n) (hln : X.env.kindOf n = some .local) (hc : Names X x c)
    (hb : ∀ (W : WX) (pn : List (Addr × Obj)) (xe : Value → Shared → Prop), Takes (X.tr pn xe) W → PassesOwn (model X.prog X.w) X.A X.env xe → PSs (X.tr pn xe) body (tb W))
    (hsu : ∀ (a : Addr) (oe : Obj) (cls : Value) (d : Option Addr) (pn : List (Addr × Obj)), Zc cls d oe → (∃ vs, oe.data = .fields vs) → PSs (X.suite a ((a, oe) :: pn)) (b0 :: suite) (ts a cls d)) :
    PS X (.Try body [.ExceptHandler (some (.Name x np)) (some n) (b0 :: suite) pos'] [] [] pos) (tTryAs X.K c i tb ts) := ps_try_as hs hf hN hi hln hc L2.takes0 hb hsu
end
/-! ### classes of refusals -/
structure Ee (K : PySem.W.Frag) (mg : Str → Option Value) (c : Str) : Prop where
  g : mg c = some (.ref (He.ga K c))
  x : PySem.W.excIn K (He.ga K c) He.veBase "ValueError.__new__" = true
  k : PySem.W.keepIn K (.ref (He.ga K c)) = true
  b : PySem.W.subIn K (.ref (He.ga K c)) (.type "BaseException") = some true
  t : PySem.W.typeIn K (.ref (He.ga K c)) = some (.type "type")
def tRaise (E : XK) (c : Value) : TS := fun _ _ H => E c none H
theorem ps_no {X : Cx} {E : XK} {c z : Str} {j : Nat} {p p2 pos pos' : Pos} (R : Ee X.K X.mg c) (hc : X.calm = true) (tk : Takes X (fun c d _ H => E c d H)) (hg : Gl X c) (h0 : (c == ("__debug__" : Str)) = false := by decide) :
    PS X (.Raise (some (.Call (.Name c p) [.Constant (.str z) j p2] [] pos)) none pos') (tRaise E (.ref (He.ga X.K c))) := ps_raise hc tk (pmk_own PySem.F.excBase_ValueError R.x R.g R.k (raises_own R.b R.t) hg h0)
/-- a block whose walk rests on something that its reading tells -/
theorem pss_ex {α : Type} {X : Cx} {ss : List Stmt} {p : α → Prop} {t : α → TS} (h : ∀ a, p a → PSs X ss (t a)) : PSs X ss (fun D σ H => ∃ a, p a ∧ t a D σ H) := ⟨fun pins s σ H D I ⟨a, pa, q⟩ => (h a pa).run pins s σ H D I q⟩
/-! ### fields -/
section
variable {T : List (Addr × Str)} {K : PySem.W.Frag} {σ : L2.St} {H H0 : Hp} {te ta tb : TE} {v z : V} {R : Hp → V → Hp → Prop} {D : Ends} {u : TS} {a C dx : Addr} {fs : List (Str × V)} {f m : Str} {E : XK} {sp : Sp} {t : TA} {vs dvs ws : List V}
theorem Mv.seq {S S2 : Addr → Prop} {H1 H2 : Hp} (a : Mv T S H H1) (b : Mv T S2 H1 H2) (h : ∀ x, S2 x → S x ∨ Fp.nod H x) : Mv T S H H2 :=
  ⟨fun x o e d s => b.kp x o (a.kp x o e d s) d fun z => (h x z).elim s fun n => by rw [n o e] at d; exact Bool.noConfusion d, fun x n => a.dm x (b.dm x n), fun x => b.tb (a.tb x)⟩
theorem ev_fld (ho : Ev T ta σ H (.ref a)) (ha : H a = some (.ins C dx fs)) (c : Cls K C) (n : NoAttr K C f) (l : fs.lookup f = some v) : Ev T (tFld K ta f) σ H v := fun H1 e Q q =>
  ho H1 e _ fun H2 e2 => ⟨a, C, dx, fs, v, rfl, (e.trans e2).at ha, c, n, l, q H2 e2⟩
theorem ev_meth (ho : Ev T ta σ H (.ref a)) (ha : H a = some (.ins C dx fs)) (l : fs.lookup m = none) (h : EvA T t σ H vs) (hw : .ref a :: (vs ++ dvs) = ws) (hs : SpV T sp ws H z) : Ev T (tMeth C m sp dvs E ta t) σ H z := fun H1 e Q q =>
  ho H1 e _ fun H2 e2 => ⟨a, dx, fs, rfl, (e.trans e2).at ha, l, h H2 (e.trans e2) _ fun H3 e3 => by
    rw [hw]
    exact hs H3 ((e.trans e2).trans e3) Q (fun H4 e4 => q H4 ((e2.trans e3).trans e4)) E⟩
theorem er_meth (ho : Ev T ta σ H (.ref a)) (ha : H a = some (.ins C dx fs)) (l : fs.lookup m = none) (h : EvA T t σ H vs) (hw : .ref a :: (vs ++ dvs) = ws) (hs : SpR T sp ws H R) (hm : ∀ H1 H2 v H3, Ex T H H1 → Ex T H1 H2 → Ex T H2 H3 → R H2 v H3 → R H1 v H3) : EvR T (tMeth C m sp dvs E ta t) σ H R := fun H1 e Q q =>
  ho H1 e _ fun H2 e2 => ⟨a, dx, fs, rfl, (e.trans e2).at ha, l, h H2 (e.trans e2) _ fun H3 e3 => by
    rw [hw]
    exact hs H3 ((e.trans e2).trans e3) Q (fun v H4 e4 r => q v H4 ((e2.trans e3).trans e4) (hm H1 H3 v H4 e (e2.trans e3) e4 r)) E⟩
/-- o.f = e -/
theorem s_fld (e : Ex T H0 H) (h : Ev T te σ H0 v) (ho : Ev T ta σ H0 (.ref a)) (ha : H a = some (.ins C dx fs)) (c : Cls K C) (n : NoAttr K C f) (hl : fs.length ≤ 100) (k : ∀ H1, Ex T H0 H1 → Ex T H H1 → D.nx σ (upd H1 a (.ins C dx (putF f v fs)))) : sFld K ta te f D σ H :=
  h H e _ fun H1 e1 => ho H1 (e.trans e1) _ fun H2 e2 => ⟨a, C, dx, fs, rfl, e2.at (e1.at ha), c, n, by omega, k H2 ((e.trans e1).trans e2) (e1.trans e2)⟩
theorem s_fldR (e : Ex T H0 H) (h : EvR T te σ H0 R) (ho : Ev T ta σ H0 (.ref a)) (ha : H a = some (.ins C dx fs)) (c : Cls K C) (n : NoAttr K C f) (hl : fs.length ≤ 100) (k : ∀ w H1 H2, Ex T H0 H1 → Ex T H H1 → R H w H1 → Ex T H1 H2 → D.nx σ (upd H2 a (.ins C dx (putF f w fs)))) : sFld K ta te f D σ H :=
  h H e _ fun w H1 e1 r => ho H1 (e.trans e1) _ fun H2 e2 => ⟨a, C, dx, fs, rfl, e2.at (e1.at ha), c, n, by omega, k w H1 H2 (e.trans e1) e1 r e2⟩
/-- o.m(..), as a statement: what its promise asks -/
theorem s_meth (e : Ex T H0 H) (ho : Ev T ta σ H0 (.ref a)) (ha : H a = some (.ins C dx fs)) (l : fs.lookup m = none) (h : EvA T t σ H0 vs) (hw : .ref a :: (vs ++ dvs) = ws) (k : ∀ H1, Ex T H0 H1 → Ex T H H1 → sp ws H1 (fun _ H' => D.nx σ H') E) : tDrop (tMeth C m sp dvs E ta t) D σ H :=
  ho H e _ fun H2 e2 => ⟨a, dx, fs, rfl, e2.at ha, l, h H2 (e.trans e2) _ fun H3 e3 => by
    rw [hw]
    exact k H3 ((e.trans e2).trans e3) (e2.trans e3)⟩
theorem s_asgMeth {i : Nat} (e : Ex T H0 H) (ho : Ev T ta σ H0 (.ref a)) (ha : H a = some (.ins C dx fs)) (l : fs.lookup m = none) (h : EvA T t σ H0 vs) (hw : .ref a :: (vs ++ dvs) = ws) (k : ∀ H1, Ex T H0 H1 → Ex T H H1 → sp ws H1 (fun v H' => D.nx (σ.set i (some v)) H') E) : tAsg (tMeth C m sp dvs E ta t) (gName i) D σ H :=
  ho H e _ fun H2 e2 => ⟨a, dx, fs, rfl, e2.at ha, l, h H2 (e.trans e2) _ fun H3 e3 => by
    rw [hw]
    exact k H3 ((e.trans e2).trans e3) (e2.trans e3)⟩
/-- a def called as a statement -/
theorem s_call (e : Ex T H0 H) (h : EvA T t σ H0 vs) (k : ∀ H1, Ex T H0 H1 → Ex T H H1 → sp vs H1 (fun _ H' => D.nx σ H') E) : tDrop (tCall sp [] E t) D σ H := h H e _ fun H2 e2 => by
  rw [List.append_nil]
  exact k H2 (e.trans e2) e2
theorem q_fld (fs2 : V → List (Str × V)) (e : Ex T H0 H) (h : Ev T te σ H0 v) (ho : Ev T ta σ H0 (.ref a)) (ha : H a = some (.ins C dx fs)) (c : Cls K C) (n : NoAttr K C f) (hl : fs.length ≤ 100) (hf : ∀ w, putF f w fs = fs2 w) (k : ∀ H1, Ex T H0 H1 → Ex T H H1 → u D σ (upd H1 a (.ins C dx (fs2 v)))) : tSeq (sFld K ta te f) u D σ H :=
  s_fld (D := { D with nx := u D }) e h ho ha c n hl fun H1 z1 z2 => by
    rw [hf]
    exact k H1 z1 z2
theorem t_fld (fs2 : V → List (Str × V)) (e : Ex T H0 H) (h : Ev T te σ H0 v) (ho : Ev T ta σ H0 (.ref a)) (ha : H a = some (.ins C dx fs)) (c : Cls K C) (n : NoAttr K C f) (hl : fs.length ≤ 100) (hf : ∀ w, putF f w fs = fs2 w) (k : ∀ H1, Ex T H0 H1 → Ex T H H1 → D.nx σ (upd H1 a (.ins C dx (fs2 v)))) : sFld K ta te f D σ H :=
  s_fld e h ho ha c n hl fun H1 z1 z2 => by
    rw [hf]
    exact k H1 z1 z2
theorem q_fldR (fs2 : V → List (Str × V)) (e : Ex T H0 H) (h : EvR T te σ H0 R) (ho : Ev T ta σ H0 (.ref a)) (ha : H a = some (.ins C dx fs)) (c : Cls K C) (n : NoAttr K C f) (hl : fs.length ≤ 100) (hf : ∀ w, putF f w fs = fs2 w) (k : ∀ w H1 H2, Ex T H0 H1 → Ex T H H1 → R H w H1 → Ex T H1 H2 → u D σ (upd H2 a (.ins C dx (fs2 w)))) : tSeq (sFld K ta te f) u D σ H :=
  s_fldR (D := { D with nx := u D }) e h ho ha c n hl fun w H1 H2 z1 z2 z3 z4 => by
    rw [hf]
    exact k w H1 H2 z1 z2 z3 z4
theorem q_meth (e : Ex T H0 H) (ho : Ev T ta σ H0 (.ref a)) (ha : H a = some (.ins C dx fs)) (l : fs.lookup m = none) (h : EvA T t σ H0 vs) (hw : .ref a :: (vs ++ dvs) = ws) (k : ∀ H1, Ex T H0 H1 → Ex T H H1 → sp ws H1 (fun _ H' => u D σ H') E) : tSeq (tDrop (tMeth C m sp dvs E ta t)) u D σ H :=
  s_meth (D := { D with nx := u D }) e ho ha l h hw k
theorem first_at : ∀ {ns : List Int} {k : Int}, k ∈ ns → ∃ j : Nat, ns[j]? = some k ∧ (∀ m : Nat, m < j → ns[m]? ≠ some k) ∧ ns.eraseIdx j = ns.erase k
  | n :: ns, k, h => by
    by_cases e : n = k
    · subst e
      exact ⟨0, rfl, fun m z => absurd z (Nat.not_lt_zero _), by simp⟩
    · obtain ⟨j, h1, h2, h3⟩ := first_at ((List.mem_cons.mp h).resolve_left (fun z => e z.symm))
      refine ⟨j + 1, h1, fun m z => ?_, ?_⟩
      · cases m with
        | zero => exact fun q => e (Option.some.inj q)
        | succ m => exact h2 m (by omega)
      · rw [List.eraseIdx_cons_succ, h3, List.erase_cons_tail (by simpa using e)]
/-- xs.remove(k) -/
theorem s_rem {l : Addr} {ns : List Int} {k : Int} (e : Ex T H0 H) (hl : H l = some (.lst (ns.map V.int))) (ha : Ev T ta σ H0 (.ref l)) (h : Ev T te σ H0 (.int k)) (hk : k ∈ ns) (q : ∀ H1, Ex T H0 H1 → Ex T H H1 → D.nx σ (upd H1 l (.lst ((ns.erase k).map V.int)))) :
    tDrop (tBM K "list" rRemI ta (tCons te tNil)) D σ H := ha H e _ fun H1 e1 => by
  obtain ⟨j, h1, h2, h3⟩ := first_at hk
  exact ⟨.inl ⟨rfl, _, .inl (.inl (e1.at hl))⟩, h H1 (e.trans e1) _ fun H2 e2 => ⟨l, ns, k, j, rfl, rfl, e2.at (e1.at hl), h1, h2, by rw [h3]; exact q H2 ((e.trans e1).trans e2) (e1.trans e2)⟩⟩
theorem cut_lo {xs : List V} {m : Int} (h : 0 ≤ m) : cutV xs none (some m) = xs.take m.toNat := by
  obtain ⟨k, rfl⟩ := Int.eq_ofNat_of_zero_le h
  unfold cutV
  rw [HT.sIx_none, show HT.sIx xs.length xs.length (some (k : Int)) = min k xs.length from HT.sIx_nat _ _ k, List.drop_zero, Nat.sub_zero]
  show xs.take (min k xs.length) = xs.take k
  rw [← List.take_eq_take_min]
theorem cut_hi {xs : List V} {m : Int} (h : 0 ≤ m) : cutV xs (some m) none = xs.drop m.toNat := by
  obtain ⟨k, rfl⟩ := Int.eq_ofNat_of_zero_le h
  unfold cutV
  rw [HT.sIx_none, show HT.sIx xs.length 0 (some (k : Int)) = min k xs.length from HT.sIx_nat _ _ k]
  show (xs.drop (min k xs.length)).take (xs.length - min k xs.length) = xs.drop k
  have e : xs.drop (min k xs.length) = xs.drop k := by
    by_cases z : k ≤ xs.length
    · rw [Nat.min_eq_left z]
    · rw [Nat.min_eq_right (by omega), List.drop_length, List.drop_of_length_le (by omega)]
  rw [e, List.take_of_length_le]
  rw [List.length_drop]
  omega
theorem q_app {l : Addr} {xs : List V} (e : Ex T H0 H) (hl : H l = some (.lst xs)) (ha : Ev T ta σ H0 (.ref l)) (h : Ev T te σ H0 v) (hz : xs.length < 100000) (k : ∀ H1, Ex T H0 H1 → Ex T H H1 → u D σ (upd H1 l (.lst (xs ++ [v])))) : tSeq (tDrop (tBM K "list" rAppend ta (tCons te tNil))) u D σ H := s_app (D := { D with nx := u D }) e hl ha h hz k
/-- a + b, lists, the second one new -/
theorem el_cat {p : Addr} {xs ys : List V} (ha : Ev T ta σ H (.ref p)) (hp : H p = some (.lst xs)) (hb : EvL T tb σ H ys) (hz : xs.length + ys.length ≤ 100000) : EvL T (tOp rCat ta tb) σ H (xs ++ ys) := fun H1 e Q q =>
  ha H1 e _ fun H2 e2 => hb H2 (e.trans e2) _ fun _ H3 e3 ⟨b, eb, _, hb⟩ => by
    subst eb
    exact ⟨p, b, xs, ys, rfl, rfl, ((e.trans e2).trans e3).at hp, hb, sz hz, fun n hn => q _ _ ((e2.trans e3).trans (Mv.new hn)) ⟨n, rfl, (e2.trans e3).nod hn, upd_same⟩⟩
/-- a two-place call, the second argument a new list -/
theorem er_callVL {sp : Sp} {E : XK} {t1 t2 : TE} {x : V} {xs : List V} {R : Hp → V → Hp → Prop} (h1 : Ev T t1 σ H x) (h2 : EvL T t2 σ H xs) (hs : ∀ q H1, H1 q = some (.lst xs) → Ex T H H1 → SpR T sp [x, .ref q] H1 R) (hm : ∀ H1 H2 v H3, Ex T H H1 → Ex T H1 H2 → Ex T H2 H3 → R H2 v H3 → R H1 v H3) : EvR T (tCall sp [] E (tCons t1 (tCons t2 tNil))) σ H R := fun H1 e Q q =>
  h1 H1 e _ fun H2 e2 => h2 H2 (e.trans e2) _ fun _ H3 e3 ⟨b, eb, _, hb⟩ => by
    subst eb
    exact hs b H3 hb ((e.trans e2).trans e3) H3 Mv.refl Q (fun v H4 e4 r => q v H4 ((e2.trans e3).trans e4) (hm H1 H3 v H4 e (e2.trans e3) e4 r)) E
/-- xs.append(ys.pop()) -/
theorem s_appPop {l l2 : Addr} {xs ys : List V} {y : V} (e : Ex T H0 H) (ha : Ev T ta σ H0 (.ref l)) (hb : Ev T tb σ H0 (.ref l2)) (hl : H l = some (.lst xs)) (h2 : H l2 = some (.lst ys)) (ne : l ≠ l2) (hy : ys.getLast? = some y) (hz : xs.length < 100000)
    (k : ∀ H1, Ex T H H1 → D.nx σ (upd (upd H1 l2 (.lst ys.dropLast)) l (.lst (xs ++ [y])))) : tDrop (tBM K "list" rAppend ta (tCons (tBM0 K "list" rPop tb) tNil)) D σ H := ha H e _ fun H1 e1 =>
  ⟨.inl ⟨rfl, xs, .inl (.inl (e1.at hl))⟩, hb H1 (e.trans e1) _ fun H2 e2 => ⟨.inl ⟨rfl, ys, .inl (.inl (e2.at (e1.at h2)))⟩, l2, ys, y, rfl, rfl, e2.at (e1.at h2), by rw [← List.getLast?_eq_getElem?]; exact hy,
    l, xs, y, rfl, rfl, by rw [upd_ne ne]; exact e2.at (e1.at hl), szl hz, k H2 (e1.trans e2)⟩⟩
theorem er_callLV {sp : Sp} {E : XK} {t1 t2 : TE} {x : V} {xs : List V} (h1 : EvL T t1 σ H xs) (h2 : Ev T t2 σ H x) (hs : ∀ q H1, H1 q = some (.lst xs) → Ex T H H1 → SpR T sp [.ref q, x] H1 (fun _ v _ => v = z)) : EvR T (tCall sp [] E (tCons t1 (tCons t2 tNil))) σ H (fun _ v _ => v = z) := fun H1 e Q q =>
  h1 H1 e _ fun _ H2 e2 ⟨b, eb, _, hb⟩ => by
    subst eb
    exact h2 H2 (e.trans e2) _ fun H3 e3 => hs b H3 (e3.at hb) ((e.trans e2).trans e3) H3 Mv.refl Q (fun v H4 e4 r => q v H4 ((e2.trans e3).trans e4) r) E
theorem SpR.ofV (h : SpV T sp ws H z) : SpR T sp ws H (fun _ v _ => v = z) := fun H1 e Q q E => h H1 e Q (fun H2 e2 => q z H2 e2 rfl) E
end
end Fp

namespace Fp
open PySem PySem.Spec PyProof.Rows L2 LamX
/-! ### pegs: what is meant -/
structure PSt where
  ranks : List Int
  many : Int
  hung : List Int
  book : List Int
  came : Int
  laid : Int
  calls : Int
def PSt.make (rs : List Int) (m : Int) (ls : List Int) : PSt :=
  ⟨rs, m, (inOrd rs ls).take m.toNat, (inOrd rs ls).drop m.toNat, (ls.length : Int), ((inOrd rs ls).take m.toNat).length, 0⟩
/-- comes before the last of them -/
def lastBef (rs hs : List Int) (i : Int) : Bool := match hs.getLast? with
  | some j => bef rs i j
  | none => false
def PSt.press (s : PSt) (i : Int) : Bool := lastBef s.ranks s.hung i || (decide (s.book = []) && decide ((s.hung.length : Int) < s.many))
/-- a peg is made free -/
def PSt.yield (s : PSt) : PSt := if (s.hung.length : Int) = s.many then { s with hung := s.hung.dropLast, book := s.book ++ s.hung.getLast?.toList } else s
def PSt.hang (s : PSt) (i : Int) : PSt := { s with hung := inOrd s.ranks (s.hung ++ [i]), laid := s.laid + 1 }
def PSt.tick (s : PSt) : PSt := { s with came := s.came + 1 }
def PSt.come (s : PSt) (i : Int) : PSt := if s.press i = true then (s.tick.yield).hang i else { s.tick with book := s.book ++ [i] }
def PSt.call (s : PSt) : PSt := { s with hung := (inOrd s.ranks s.book).take s.many.toNat, book := (inOrd s.ranks s.book).drop s.many.toNat, laid := s.laid + ((inOrd s.ranks s.book).take s.many.toNat).length, calls := s.calls + 1 }
def PSt.drop (s : PSt) (i : Int) : PSt := if i ∈ s.hung then { s with hung := s.hung.erase i } else { s with book := s.book.erase i }
def PSt.go (s : PSt) (i : Int) : PSt := if (s.drop i).hung = [] ∧ (s.drop i).book ≠ [] then (s.drop i).call else s.drop i
/-- what holds of pegs -/
structure PWf (s : PSt) : Prop where
  m0 : 1 ≤ s.many
  m1 : s.many ≤ 16
  nr : s.ranks.length ≤ 60
  ih : ∀ i ∈ s.hung, inR s.ranks i
  ib : ∀ i ∈ s.book, inR s.ranks i
  lh : s.hung.length ≤ 100
  lb : s.book.length ≤ 100
/-! ### how they lie in the heap -/
structure PgC (K : PySem.W.Frag) : Prop where
  cls : Cls K (He.ga K "Pegs")
  na : ∀ f ∈ (["ranks", "many", "hung", "book", "came", "laid", "calls"] : List Str), NoAttr K (He.ga K "Pegs") f
abbrev pegF (r m h b c l k : V) : List (Str × V) := [("ranks", r), ("many", m), ("hung", h), ("book", b), ("came", c), ("laid", l), ("calls", k)]
structure PegA (K : PySem.W.Frag) (H : Hp) (a dx r h b : Addr) (s : PSt) : Prop where
  at_ : H a = some (.ins (He.ga K "Pegs") dx (pegF (.ref r) (.int s.many) (.ref h) (.ref b) (.int s.came) (.int s.laid) (.int s.calls)))
  rk : H r = some (.lst (s.ranks.map V.int))
  hg : H h = some (.lst (s.hung.map V.int))
  bk : H b = some (.lst (s.book.map V.int))
  rh : r ≠ h
  rb : r ≠ b
  hb : h ≠ b
structure PegO (K : PySem.W.Frag) (H : Hp) (a : Addr) (s : PSt) (S : Addr → Prop) : Prop where
  ex : ∃ dx r h b, PegA K H a dx r h b s ∧ S a ∧ S r ∧ S h ∧ S b
  pc : PgC K
  wf : PWf s
section
variable {T : List (Addr × Str)} {K : PySem.W.Frag} {H H' : Hp} {a dx r h b q : Addr} {s : PSt} {S S' : Addr → Prop} {σ : L2.St} {ta : TE}
theorem PegA.ex (A : PegA K H a dx r h b s) (e : Ex T H H') : PegA K H' a dx r h b s := ⟨e.at A.at_, e.at A.rk, e.at A.hg, e.at A.bk, A.rh, A.rb, A.hb⟩
theorem PegA.mv (A : PegA K H a dx r h b s) (m : Mv T S H H') (sa : ¬ S a) (sr : ¬ S r) (sh : ¬ S h) (sb : ¬ S b) : PegA K H' a dx r h b s := ⟨m.kp a _ A.at_ rfl sa, m.kp r _ A.rk rfl sr, m.kp h _ A.hg rfl sh, m.kp b _ A.bk rfl sb, A.rh, A.rb, A.hb⟩
theorem PegO.ex' (O : PegO K H a s S) (e : Ex T H H') : PegO K H' a s S := by
  obtain ⟨⟨dx, r, h, b, A, z⟩, pc, wf⟩ := O
  exact ⟨⟨dx, r, h, b, A.ex e, z⟩, pc, wf⟩
/-- pegs out of what is changed stay -/
theorem PegO.mv (O : PegO K H a s S) (m : Mv T S' H H') (d : ∀ x, S x → ¬ S' x) : PegO K H' a s S := by
  obtain ⟨⟨dx, r, h, b, A, sa, sr, sh, sb⟩, pc, wf⟩ := O
  exact ⟨⟨dx, r, h, b, A.mv m (d _ sa) (d _ sr) (d _ sh) (d _ sb), sa, sr, sh, sb⟩, pc, wf⟩
theorem PegO.wk (O : PegO K H a s S) (d : ∀ x, S x → S' x) : PegO K H a s S' := by
  obtain ⟨⟨dx, r, h, b, A, sa, sr, sh, sb⟩, pc, wf⟩ := O
  exact ⟨⟨dx, r, h, b, A, d _ sa, d _ sr, d _ sh, d _ sb⟩, pc, wf⟩
theorem PegA.ar (A : PegA K H a dx r h b s) : r ≠ a := ne_of A.rk A.at_ (fun z => nomatch z)
theorem PegA.ah (A : PegA K H a dx r h b s) : h ≠ a := ne_of A.hg A.at_ (fun z => nomatch z)
theorem PegA.ab (A : PegA K H a dx r h b s) : b ≠ a := ne_of A.bk A.at_ (fun z => nomatch z)
theorem PegA.lr (A : PegA K H a dx r h b s) : SqL K H r (s.ranks.map V.int) := .inl (.inl A.rk)
theorem PegA.lh (A : PegA K H a dx r h b s) : SqL K H h (s.hung.map V.int) := .inl (.inl A.hg)
theorem PegA.lb (A : PegA K H a dx r h b s) : SqL K H b (s.book.map V.int) := .inl (.inl A.bk)
theorem PegA.setF {m c l k : Int} (A : PegA K H a dx r h b s) : PegA K (upd H a (.ins (He.ga K "Pegs") dx (pegF (.ref r) (.int m) (.ref h) (.ref b) (.int c) (.int l) (.int k)))) a dx r h b { s with many := m, came := c, laid := l, calls := k } :=
  ⟨upd_same, by rw [upd_ne A.ar]; exact A.rk, by rw [upd_ne A.ah]; exact A.hg, by rw [upd_ne A.ab]; exact A.bk, A.rh, A.rb, A.hb⟩
theorem PegA.setH {xs : List Int} (A : PegA K H a dx r h b s) (hq : H q = some (.lst (xs.map V.int))) (n1 : r ≠ q) (n2 : q ≠ b) : PegA K (upd H a (.ins (He.ga K "Pegs") dx (pegF (.ref r) (.int s.many) (.ref q) (.ref b) (.int s.came) (.int s.laid) (.int s.calls)))) a dx r q b { s with hung := xs } :=
  ⟨upd_same, by rw [upd_ne A.ar]; exact A.rk, by rw [upd_ne (ne_of hq A.at_ (fun z => nomatch z))]; exact hq, by rw [upd_ne A.ab]; exact A.bk, n1, A.rb, n2⟩
theorem PegA.setB {xs : List Int} (A : PegA K H a dx r h b s) (hq : H q = some (.lst (xs.map V.int))) (n1 : r ≠ q) (n2 : h ≠ q) : PegA K (upd H a (.ins (He.ga K "Pegs") dx (pegF (.ref r) (.int s.many) (.ref h) (.ref q) (.int s.came) (.int s.laid) (.int s.calls)))) a dx r h q { s with book := xs } :=
  ⟨upd_same, by rw [upd_ne A.ar]; exact A.rk, by rw [upd_ne A.ah]; exact A.hg, by rw [upd_ne (ne_of hq A.at_ (fun z => nomatch z))]; exact hq, A.rh, n1, n2⟩
theorem PegA.putH {xs : List Int} (A : PegA K H a dx r h b s) : PegA K (upd H h (.lst (xs.map V.int))) a dx r h b { s with hung := xs } :=
  ⟨by rw [upd_ne (Ne.symm A.ah)]; exact A.at_, by rw [upd_ne A.rh]; exact A.rk, upd_same, by rw [upd_ne (Ne.symm A.hb)]; exact A.bk, A.rh, A.rb, A.hb⟩
theorem PegA.putB {xs : List Int} (A : PegA K H a dx r h b s) : PegA K (upd H b (.lst (xs.map V.int))) a dx r h b { s with book := xs } :=
  ⟨by rw [upd_ne (Ne.symm A.ab)]; exact A.at_, by rw [upd_ne A.rb]; exact A.rk, by rw [upd_ne A.hb]; exact A.hg, upd_same, A.rh, A.rb, A.hb⟩
/-! its fields -/
theorem PgC.no (pc : PgC K) {f : Str} (h : f ∈ (["ranks", "many", "hung", "book", "came", "laid", "calls"] : List Str) := by simp) : NoAttr K (He.ga K "Pegs") f := pc.na f h
theorem ep_ranks (A : PegA K H a dx r h b s) (pc : PgC K) (ho : Ev T ta σ H (.ref a)) : Ev T (tFld K ta "ranks") σ H (.ref r) := ev_fld ho A.at_ pc.cls pc.no rfl
theorem ep_many (A : PegA K H a dx r h b s) (pc : PgC K) (ho : Ev T ta σ H (.ref a)) : Ev T (tFld K ta "many") σ H (.int s.many) := ev_fld ho A.at_ pc.cls pc.no rfl
theorem ep_hung (A : PegA K H a dx r h b s) (pc : PgC K) (ho : Ev T ta σ H (.ref a)) : Ev T (tFld K ta "hung") σ H (.ref h) := ev_fld ho A.at_ pc.cls pc.no rfl
theorem ep_book (A : PegA K H a dx r h b s) (pc : PgC K) (ho : Ev T ta σ H (.ref a)) : Ev T (tFld K ta "book") σ H (.ref b) := ev_fld ho A.at_ pc.cls pc.no rfl
theorem ep_came (A : PegA K H a dx r h b s) (pc : PgC K) (ho : Ev T ta σ H (.ref a)) : Ev T (tFld K ta "came") σ H (.int s.came) := ev_fld ho A.at_ pc.cls pc.no rfl
theorem ep_laid (A : PegA K H a dx r h b s) (pc : PgC K) (ho : Ev T ta σ H (.ref a)) : Ev T (tFld K ta "laid") σ H (.int s.laid) := ev_fld ho A.at_ pc.cls pc.no rfl
theorem ep_calls (A : PegA K H a dx r h b s) (pc : PgC K) (ho : Ev T ta σ H (.ref a)) : Ev T (tFld K ta "calls") σ H (.int s.calls) := ev_fld ho A.at_ pc.cls pc.no rfl
end
end Fp

namespace Fp
open PySem PySem.Spec PyProof.Rows L2 LamX
/-- a count of pegs -/
def isPg : V → Bool
  | .int m => decide (1 ≤ m) && decide (m ≤ 16)
  | _ => false
/-- what a change of pegs has to tell -/
def MutO (K : PySem.W.Frag) (T : List (Addr × Str)) (H : Hp) (a : Addr) (S : Addr → Prop) (s' : PSt) (v : V) (Q : VK) : Prop := ∀ H' S', Mv T S H H' → PegO K H' a s' S' → (∀ x, S' x → S x ∨ nod H x) → Q v H'
def sp_Pegs_init (K : PySem.W.Frag) (T : List (Addr × Str)) : Sp := fun vs H Q E => ∃ x r y l, vs = [.ref x, .ref r, y, .ref l] ∧ kd H y ≠ "" ∧ ((isPg y = false ∧ ∀ H', Ex T H H' → E (.ref (He.ga K "NoPegs")) none H') ∨
  ∃ m dx rs ls, y = .int m ∧ 1 ≤ m ∧ m ≤ 16 ∧ H x = some (.ins (He.ga K "Pegs") dx []) ∧ Kys K H l r rs ls ∧ List.length rs ≤ 60 ∧ List.length ls ≤ 60 ∧ Tabs T H ∧ PgC K ∧ ∀ H' S, Mv T (fun b => b = x) H H' → PegO K H' x (.make rs m ls) S → (∀ b, S b → b = x ∨ nod H b) → Q .non H')
def sp_Pegs_is_pressing (K : PySem.W.Frag) (T : List (Addr × Str)) : Sp := fun vs H Q _ => ∃ a i s S, vs = [.ref a, .int i] ∧ PegO K H a s S ∧ inR s.ranks i ∧ ∀ H', Ex T H H' → Q (.bl (s.press i)) H'
def sp_Pegs_come (K : PySem.W.Frag) (T : List (Addr × Str)) : Sp := fun vs H Q _ => ∃ a i s S, vs = [.ref a, .int i] ∧ PegO K H a s S ∧ inR s.ranks i ∧ Tabs T H ∧ PWf (s.come i) ∧ MutO K T H a S (s.come i) .non Q
def sp_Pegs_go (K : PySem.W.Frag) (T : List (Addr × Str)) : Sp := fun vs H Q _ => ∃ a i s S, vs = [.ref a, .int i] ∧ PegO K H a s S ∧ (i ∈ s.hung ∨ i ∈ s.book) ∧ Tabs T H ∧ MutO K T H a S (s.go i) .non Q
def sp_Pegs_call_keeper (K : PySem.W.Frag) (T : List (Addr × Str)) : Sp := fun vs H Q _ => ∃ a s S, vs = [.ref a] ∧ PegO K H a s S ∧ Tabs T H ∧ MutO K T H a S s.call .non Q
def sp_Pegs_on_pegs (K : PySem.W.Frag) (T : List (Addr × Str)) : Sp := fun vs H Q _ => ∃ a s S, vs = [.ref a] ∧ PegO K H a s S ∧ ∀ v H', Ex T H H' → newL (s.hung.map V.int) H v H' → Q v H'
def sp_Pegs_waiting (K : PySem.W.Frag) (T : List (Addr × Str)) : Sp := fun vs H Q _ => ∃ a s S, vs = [.ref a] ∧ PegO K H a s S ∧ Tabs T H ∧ ∀ v H', Ex T H H' → newL ((inOrd s.ranks s.book).map V.int) H v H' → Q v H'
def sp_Pegs_first (K : PySem.W.Frag) (T : List (Addr × Str)) : Sp := fun vs H Q _ => ∃ a s S, vs = [.ref a] ∧ PegO K H a s S ∧ ∀ H', Ex T H H' → Q (oI s.hung.head?) H'
def sp_Pegs_tallies (K : PySem.W.Frag) (T : List (Addr × Str)) : Sp := fun vs H Q _ => ∃ a s S, vs = [.ref a] ∧ PegO K H a s S ∧ ∀ v H', Ex T H H' → newU [.int s.came, .int s.laid, .int s.calls] H v H' → Q v H'
theorem len_Pegs_init {K : PySem.W.Frag} {T : List (Addr × Str)} : ∀ vs H Q E, sp_Pegs_init K T vs H Q E → vs.length = 4 := fun vs H Q E h => by
  obtain ⟨_, _, _, _, rfl, _⟩ := h
  exact rfl
theorem len_Pegs_is_pressing {K : PySem.W.Frag} {T : List (Addr × Str)} : ∀ vs H Q E, sp_Pegs_is_pressing K T vs H Q E → vs.length = 2 := fun vs H Q E h => by
  obtain ⟨_, _, _, _, rfl, _⟩ := h
  exact rfl
theorem len_Pegs_come {K : PySem.W.Frag} {T : List (Addr × Str)} : ∀ vs H Q E, sp_Pegs_come K T vs H Q E → vs.length = 2 := fun vs H Q E h => by
  obtain ⟨_, _, _, _, rfl, _⟩ := h
  exact rfl
theorem len_Pegs_go {K : PySem.W.Frag} {T : List (Addr × Str)} : ∀ vs H Q E, sp_Pegs_go K T vs H Q E → vs.length = 2 := fun vs H Q E h => by
  obtain ⟨_, _, _, _, rfl, _⟩ := h
  exact rfl
theorem len_Pegs_call_keeper {K : PySem.W.Frag} {T : List (Addr × Str)} : ∀ vs H Q E, sp_Pegs_call_keeper K T vs H Q E → vs.length = 1 := fun vs H Q E h => by
  obtain ⟨_, _, _, rfl, _⟩ := h
  exact rfl
theorem len_Pegs_on_pegs {K : PySem.W.Frag} {T : List (Addr × Str)} : ∀ vs H Q E, sp_Pegs_on_pegs K T vs H Q E → vs.length = 1 := fun vs H Q E h => by
  obtain ⟨_, _, _, rfl, _⟩ := h
  exact rfl
theorem len_Pegs_waiting {K : PySem.W.Frag} {T : List (Addr × Str)} : ∀ vs H Q E, sp_Pegs_waiting K T vs H Q E → vs.length = 1 := fun vs H Q E h => by
  obtain ⟨_, _, _, rfl, _⟩ := h
  exact rfl
theorem len_Pegs_first {K : PySem.W.Frag} {T : List (Addr × Str)} : ∀ vs H Q E, sp_Pegs_first K T vs H Q E → vs.length = 1 := fun vs H Q E h => by
  obtain ⟨_, _, _, rfl, _⟩ := h
  exact rfl
theorem len_Pegs_tallies {K : PySem.W.Frag} {T : List (Addr × Str)} : ∀ vs H Q E, sp_Pegs_tallies K T vs H Q E → vs.length = 1 := fun vs H Q E h => by
  obtain ⟨_, _, _, rfl, _⟩ := h
  exact rfl
def r_Pegs_init (K : PySem.W.Frag) (T : List (Addr × Str)) (E : XK) : TS :=
  (tSeq (tIfS (tOr (tNot (tB (tCall (sp_is_whole K T) [] E0 (tCons (tVar 2) tNil)))) (tOr (tTest (tOp oLt (tVar 2) (tC (.int 1)))) (tTest (tOp oGt (tVar 2) (tC (.int 16)))))) (tRaise E (.ref (He.ga K "NoPegs"))) tNext)
  (tSeq (tAsg (tCall (sp_in_order K T) [] E0 (tCons (tVar 1) (tCons (tVar 3) tNil))) (gName 4))
  (tSeq (sFld K (tVar 0) (tCB (rLst K) (tCons (tVar 1) tNil)) "ranks")
  (tSeq (sFld K (tVar 0) (tVar 2) "many")
  (tSeq (sFld K (tVar 0) (tSl (rSlL K) (tVar 4) tNoPart (tPart (tVar 2))) "hung")
  (tSeq (sFld K (tVar 0) (tSl (rSlL K) (tVar 4) (tPart (tVar 2)) tNoPart) "book")
  (tSeq (sFld K (tVar 0) (tCB (rLen K) (tCons (tVar 4) tNil)) "came")
  (tSeq (sFld K (tVar 0) (tCB (rLen K) (tCons (tFld K (tVar 0) "hung") tNil)) "laid")
  (sFld K (tVar 0) (tC (.int 0)) "calls")))))))))
def r_Pegs_is_pressing (K : PySem.W.Frag) (T : List (Addr × Str)) : TS :=
  (tSeq (tIfS (tAnd (tTest (tOp (rNeD K) (tFld K (tVar 0) "hung") (tLst tNil))) (tB (tCall (sp_before K T) [] E0 (tCons (tFld K (tVar 0) "ranks") (tCons (tVar 1) (tCons (tOp (rIxL K) (tFld K (tVar 0) "hung") (tUn (rU fun i => .int (-i)) (tC (.int 1)))) tNil)))))) (tRet (tC (.bl true))) tNext)
  (tRet (tAndV (tOp (rEqD K) (tFld K (tVar 0) "book") (tLst tNil)) (tOp oLt (tCB (rLen K) (tCons (tFld K (tVar 0) "hung") tNil)) (tFld K (tVar 0) "many")))))
def r_Pegs_come (K : PySem.W.Frag) (T : List (Addr × Str)) : TS :=
  (tSeq (sFld K (tVar 0) (tOp oAdd (tFld K (tVar 0) "came") (tC (.int 1))) "came")
  (tSeq (tIfS (tNot (tB (tMeth (He.ga K "Pegs") "is_pressing" (sp_Pegs_is_pressing K T) [] E0 (tVar 0) (tCons (tVar 1) tNil)))) (tSeq (tDrop (tBM K "list" rAppend (tFld K (tVar 0) "book") (tCons (tVar 1) tNil)))
  tRetN) tNext)
  (Evl.tCut (tIfS (tTest (tOp rEq (tCB (rLen K) (tCons (tFld K (tVar 0) "hung") tNil)) (tFld K (tVar 0) "many"))) (tDrop (tBM K "list" rAppend (tFld K (tVar 0) "book") (tCons (tBM0 K "list" rPop (tFld K (tVar 0) "hung")) tNil))) tNext)
  (tSeq (sFld K (tVar 0) (tCall (sp_in_order K T) [] E0 (tCons (tFld K (tVar 0) "ranks") (tCons (tOp rCat (tFld K (tVar 0) "hung") (tLst (tCons (tVar 1) tNil))) tNil))) "hung")
  (sFld K (tVar 0) (tOp oAdd (tFld K (tVar 0) "laid") (tC (.int 1))) "laid")))))
def r_Pegs_go (K : PySem.W.Frag) (T : List (Addr × Str)) : TS :=
  (Evl.tCut (tIfS (tTest (tOp (rIn K false) (tVar 1) (tFld K (tVar 0) "hung"))) (tDrop (tBM K "list" rRemI (tFld K (tVar 0) "hung") (tCons (tVar 1) tNil))) (tDrop (tBM K "list" rRemI (tFld K (tVar 0) "book") (tCons (tVar 1) tNil))))
  (tIfS (tAnd (tTest (tOp (rEqD K) (tFld K (tVar 0) "hung") (tLst tNil))) (tTest (tOp (rNeD K) (tFld K (tVar 0) "book") (tLst tNil)))) (tDrop (tMeth (He.ga K "Pegs") "call_keeper" (sp_Pegs_call_keeper K T) [] E0 (tVar 0) tNil)) tNext))
def r_Pegs_call_keeper (K : PySem.W.Frag) (T : List (Addr × Str)) : TS :=
  (tSeq (tAsg (tCall (sp_in_order K T) [] E0 (tCons (tFld K (tVar 0) "ranks") (tCons (tFld K (tVar 0) "book") tNil))) (gName 1))
  (tSeq (sFld K (tVar 0) (tSl (rSlL K) (tVar 1) tNoPart (tPart (tFld K (tVar 0) "many"))) "hung")
  (tSeq (sFld K (tVar 0) (tSl (rSlL K) (tVar 1) (tPart (tFld K (tVar 0) "many")) tNoPart) "book")
  (tSeq (sFld K (tVar 0) (tOp oAdd (tFld K (tVar 0) "laid") (tCB (rLen K) (tCons (tFld K (tVar 0) "hung") tNil))) "laid")
  (sFld K (tVar 0) (tOp oAdd (tFld K (tVar 0) "calls") (tC (.int 1))) "calls")))))
def r_Pegs_on_pegs (K : PySem.W.Frag) (T : List (Addr × Str)) : TS :=
  (tRet (tCB (rLst K) (tCons (tFld K (tVar 0) "hung") tNil)))
def r_Pegs_waiting (K : PySem.W.Frag) (T : List (Addr × Str)) : TS :=
  (tRet (tCall (sp_in_order K T) [] E0 (tCons (tFld K (tVar 0) "ranks") (tCons (tFld K (tVar 0) "book") tNil))))
def r_Pegs_first (K : PySem.W.Frag) (T : List (Addr × Str)) : TS :=
  (tSeq (tIfS (tTest (tOp (rEqD K) (tFld K (tVar 0) "hung") (tLst tNil))) (tRet (tC .non)) tNext)
  (tRet (tOp (rIxL K) (tFld K (tVar 0) "hung") (tC (.int 0)))))
def r_Pegs_tallies (K : PySem.W.Frag) (T : List (Addr × Str)) : TS :=
  (tRet (tTup (tCons (tFld K (tVar 0) "came") (tCons (tFld K (tVar 0) "laid") (tCons (tFld K (tVar 0) "calls") tNil)))))
section
variable {K : PySem.W.Frag} {T : List (Addr × Str)} {H H0 : Hp} {Q : VK} {E : XK} {vs : List V} {a : Addr} {s : PSt} {S : Addr → Prop} {i : Int}
theorem v_pressing (O : PegO K H a s S) (hi : inR s.ranks i) : SpV T (sp_Pegs_is_pressing K T) [.ref a, .int i] H (.bl (s.press i)) := fun H1 e Q q E => ⟨a, i, s, S, rfl, O.ex' e, hi, q⟩
theorem v_on_pegs (O : PegO K H a s S) : SpR T (sp_Pegs_on_pegs K T) [.ref a] H (newL (s.hung.map V.int)) := fun H1 e Q q E => ⟨a, s, S, rfl, O.ex' e, q⟩
theorem v_waiting (O : PegO K H a s S) (t : Tabs T H) : SpR T (sp_Pegs_waiting K T) [.ref a] H (newL ((inOrd s.ranks s.book).map V.int)) := fun H1 e Q q E => ⟨a, s, S, rfl, O.ex' e, e.tb t, q⟩
theorem v_first (O : PegO K H a s S) : SpV T (sp_Pegs_first K T) [.ref a] H (oI s.hung.head?) := fun H1 e Q q E => ⟨a, s, S, rfl, O.ex' e, q⟩
theorem v_tallies (O : PegO K H a s S) : SpR T (sp_Pegs_tallies K T) [.ref a] H (newU [.int s.came, .int s.laid, .int s.calls]) := fun H1 e Q q E => ⟨a, s, S, rfl, O.ex' e, q⟩
end
end Fp
local macro_rules | `(tactic| walk_at "ev") => `(tactic| with_reducible first | (apply Fp.ep_ranks; (· assumption); (· assumption); (· walk_at "ev")) | (apply Fp.ep_many; (· assumption); (· assumption); (· walk_at "ev")) | (apply Fp.ep_hung; (· assumption); (· assumption); (· walk_at "ev")) | (apply Fp.ep_book; (· assumption); (· assumption); (· walk_at "ev")) | (apply Fp.ep_came; (· assumption); (· assumption); (· walk_at "ev")) | (apply Fp.ep_laid; (· assumption); (· assumption); (· walk_at "ev")) | (apply Fp.ep_calls; (· assumption); (· assumption); (· walk_at "ev")))
namespace Fp
open PySem PySem.Spec PyProof.Rows L2 LamX
section
variable {K : PySem.W.Frag} {T : List (Addr × Str)} {H H0 : Hp} {Q : VK} {E : XK} {vs : List V}
theorem p_Pegs_is_pressing (h : sp_Pegs_is_pressing K T vs H Q E) : r_Pegs_is_pressing K T { nx := fun _ H' => Q .non H', rt := Q } (start ["self", "line"] vs) H := by
  obtain ⟨a, i, s, S, rfl, ⟨⟨dx, r, h, b, A, _⟩, pc, wf⟩, hi, k⟩ := h
  unfold r_Pegs_is_pressing
  have lr := A.lr
  have lh := A.lh
  have lb := A.lb
  refine q_if (b := lastBef s.ranks s.hung i) (Mv.of T H) ?_ (fun hb H1 e _ => ?_) (fun hb H1 e _ => nextI ?_)
  · refine et_is (et_and (a := !decide (s.hung = [])) (b := lastBef s.ranks s.hung i) (et_test (ev_opVL (by walk_at "ev") (el_lst ea_nil (by decide)) fun q H1 hq e => ?_)) (fun hn => ?_)) ?_
    · exact rv_neDI (dp_n (e.at A.hg)) (dp_n (ns := []) hq)
    · have hn : s.hung ≠ [] := by simpa using hn
      obtain ⟨j, hj⟩ := last_of hn
      rw [show lastBef s.ranks s.hung i = bef s.ranks i j by unfold lastBef; rw [hj.1]]
      exact et_B (ev_call0 (ea_cons (by walk_at "ev") (ea_cons (by walk_at "ev") (ea_cons (ev_op (by walk_at "ev") (ev_neg ev_c) (rv_ixL lh (ix_neg (by rw [List.getLast?_map, hj.1]; rfl)))) ea_nil))) (v_before lr hi (wf.ih j hj.2)))
    · cases hh : s.hung with
      | nil => rfl
      | cons x xs => rfl
  · refine s_ret e (by walk_at "ev") fun H2 e2 => ?_
    have := k H2 e2
    unfold PSt.press at this
    rwa [hb, Bool.true_or] at this
  · dsimp only
    refine s_ret e (ev_is (ev_and (a := decide (s.book = [])) (b := decide ((s.hung.length : Int) < s.many)) (ev_opVL (by walk_at "ev") (el_lst ea_nil (by decide)) fun q H1 hq e => rv_eqDI (dp_n (e.at A.bk)) (dp_n (ns := []) hq)) fun _ => by walk_at "ev") ?_) k
    unfold PSt.press
    rw [hb, Bool.false_or]
theorem p_Pegs_on_pegs (h : sp_Pegs_on_pegs K T vs H Q E) : r_Pegs_on_pegs K T { nx := fun _ H' => Q .non H', rt := Q } (start ["self"] vs) H := by
  obtain ⟨a, s, S, rfl, ⟨⟨dx, r, h, b, A, _⟩, pc, wf⟩, k⟩ := h
  unfold r_Pegs_on_pegs
  exact s_retR (Mv.of T H) (el_list (by walk_at "ev") (.inl A.lh)) fun w H1 e1 _ z => k w H1 e1 z
theorem p_Pegs_waiting (h : sp_Pegs_waiting K T vs H Q E) : r_Pegs_waiting K T { nx := fun _ H' => Q .non H', rt := Q } (start ["self"] vs) H := by
  obtain ⟨a, s, S, rfl, ⟨⟨dx, r, h, b, A, _⟩, pc, wf⟩, tb, k⟩ := h
  unfold r_Pegs_waiting
  exact s_retR (Mv.of T H) (el_call0 (by walk_at "ea") (v_in_order ⟨A.lb, A.lr, wf.ib⟩ tb)) fun w H1 e1 _ z => k w H1 e1 z
theorem p_Pegs_first (h : sp_Pegs_first K T vs H Q E) : r_Pegs_first K T { nx := fun _ H' => Q .non H', rt := Q } (start ["self"] vs) H := by
  obtain ⟨a, s, S, rfl, ⟨⟨dx, r, h, b, A, _⟩, pc, wf⟩, k⟩ := h
  unfold r_Pegs_first
  have lh := A.lh
  refine q_if (b := decide (s.hung = [])) (Mv.of T H) (et_test (ev_opVL (by walk_at "ev") (el_lst ea_nil (by decide)) fun q H1 hq e => rv_eqDI (dp_n (e.at A.hg)) (dp_n (ns := []) hq))) (fun hb H1 e _ => ?_) (fun hb H1 e _ => nextI ?_)
  · have z := of_decide_eq_true hb
    rw [z] at k
    exact s_ret e (ev_is (by walk_at "ev") (by rfl)) k
  · have z := of_decide_eq_false hb
    dsimp only
    obtain ⟨x, xs, hx⟩ := List.exists_cons_of_ne_nil z
    rw [hx] at k lh
    exact s_ret e (ev_op (by walk_at "ev") ev_c (rv_ixI lh (by decide) (by simp))) k
theorem p_Pegs_tallies (h : sp_Pegs_tallies K T vs H Q E) : r_Pegs_tallies K T { nx := fun _ H' => Q .non H', rt := Q } (start ["self"] vs) H := by
  obtain ⟨a, s, S, rfl, ⟨⟨dx, r, h, b, A, _⟩, pc, wf⟩, k⟩ := h
  unfold r_Pegs_tallies
  exact s_retR (Mv.of T H) (eu_tup (by walk_at "ea") (by simp)) fun w H1 e1 _ z => k w H1 e1 z
theorem inOrd_mem {rs ls : List Int} {i : Int} : i ∈ inOrd rs ls ↔ i ∈ ls := (List.mergeSort_perm ls (ordLe rs)).mem_iff
theorem inOrd_len {rs ls : List Int} : (inOrd rs ls).length = ls.length := (List.mergeSort_perm ls (ordLe rs)).length_eq
theorem PWf.call {s : PSt} (wf : PWf s) : PWf s.call := ⟨wf.m0, wf.m1, wf.nr, fun i hi => wf.ib i (inOrd_mem.mp (List.mem_of_mem_take hi)), fun i hi => wf.ib i (inOrd_mem.mp (List.mem_of_mem_drop hi)),
  by
    show ((inOrd s.ranks s.book).take s.many.toNat).length ≤ 100
    have := wf.lb
    rw [List.length_take, inOrd_len]
    omega,
  by
    show ((inOrd s.ranks s.book).drop s.many.toNat).length ≤ 100
    have := wf.lb
    rw [List.length_drop, inOrd_len]
    omega⟩
theorem PWf.drop {s : PSt} (wf : PWf s) (i : Int) : PWf (s.drop i) := by
  unfold PSt.drop
  split
  · exact ⟨wf.m0, wf.m1, wf.nr, fun j hj => wf.ih j (List.mem_of_mem_erase hj), wf.ib, Nat.le_trans (List.length_erase_le) wf.lh, wf.lb⟩
  · exact ⟨wf.m0, wf.m1, wf.nr, wf.ih, fun j hj => wf.ib j (List.mem_of_mem_erase hj), wf.lh, Nat.le_trans (List.length_erase_le) wf.lb⟩
theorem PWf.go {s : PSt} (wf : PWf s) (i : Int) : PWf (s.go i) := by
  unfold PSt.go
  split
  · exact (wf.drop i).call
  · exact wf.drop i
theorem p_Pegs_call_keeper (h : sp_Pegs_call_keeper K T vs H Q E) : r_Pegs_call_keeper K T { nx := fun _ H' => Q .non H', rt := Q } (start ["self", "order"] vs) H := by
  obtain ⟨a, s, S, rfl, ⟨⟨dx, r, h, b, A, sa, sr, sh, sb⟩, pc, wf⟩, tb, k⟩ := h
  unfold r_Pegs_call_keeper
  have m0 : 0 ≤ s.many := by have := wf.m0; omega
  refine q_asgR (Mv.of T H) (el_call0 (by walk_at "ea") (v_in_order ⟨A.lb, A.lr, wf.ib⟩ tb)) fun v H1 σ2 hs e1 _ hv => ?_
  obtain ⟨o, rfl, no, ho⟩ := hv
  subst hs
  have A1 := A.ex e1
  have ho' : SqL K H1 o ((inOrd s.ranks s.book).map V.int) := .inl (.inl ho)
  have el := el_sl (T := T) (ta := tVar 1) (tl := tNoPart) (th := tPart (tFld K (tVar 0) "many")) (σ := [some (.ref a), some (.ref o)]) (by walk_at "ev") eo_no (eo_part (i := s.many) (by walk_at "ev")) ho'
  rw [cut_lo m0, ← List.map_take] at el
  refine q_fldR (fun w => pegF (.ref r) (.int s.many) w (.ref b) (.int s.came) (.int s.laid) (.int s.calls)) (Mv.of T H1) el (by walk_at "ev") A1.at_ pc.cls pc.no (by simp) (fun _ => rfl) fun v H2 H3 e2 _ hv e3 => ?_
  obtain ⟨h', rfl, nh, hh⟩ := hv
  have A3 := ((A1.ex e2).ex e3).setH (e3.at hh) (nh.ne A1.rk) (nh.ne A1.bk).symm
  have M3 : Mv T S H (upd H3 a (.ins (He.ga K "Pegs") dx (pegF (.ref r) (.int s.many) (.ref h') (.ref b) (.int s.came) (.int s.laid) (.int s.calls)))) := ((e1.trans e2).trans e3).mv.set (.inl sa) ((A1.ex e2).ex e3).at_
  have no3 := ne_of ho A1.at_ (fun z => nomatch z)
  have ho3 : (upd H3 a (.ins (He.ga K "Pegs") dx (pegF (.ref r) (.int s.many) (.ref h') (.ref b) (.int s.came) (.int s.laid) (.int s.calls)))) o = some (.lst ((inOrd s.ranks s.book).map V.int)) := by rw [upd_ne no3]; exact e3.at (e2.at ho)
  generalize (upd H3 a (.ins (He.ga K "Pegs") dx (pegF (.ref r) (.int s.many) (.ref h') (.ref b) (.int s.came) (.int s.laid) (.int s.calls)))) = H4 at A3 M3 ho3
  have ho4 : SqL K H4 o ((inOrd s.ranks s.book).map V.int) := .inl (.inl ho3)
  have el := el_sl (T := T) (ta := tVar 1) (th := tNoPart) (tl := tPart (tFld K (tVar 0) "many")) (σ := [some (.ref a), some (.ref o)]) (by walk_at "ev") (eo_part (i := s.many) (ev_is (ep_many A3 pc (by walk_at "ev")) rfl)) eo_no ho4
  rw [cut_hi m0, ← List.map_drop] at el
  refine q_fldR (fun w => pegF (.ref r) (.int s.many) (.ref h') w (.int s.came) (.int s.laid) (.int s.calls)) (Mv.of T H4) el (by walk_at "ev") A3.at_ pc.cls pc.no (by simp) (fun _ => rfl) fun v H5 H6 e5 _ hv e6 => ?_
  obtain ⟨b', rfl, nb, hb'⟩ := hv
  have A6 := ((A3.ex e5).ex e6).setB (e6.at hb') (nb.ne A3.rk) (nb.ne A3.hg)
  have M6 := (M3.trans (e5.trans e6).mv).set (o := .ins (He.ga K "Pegs") dx (pegF (.ref r) (.int s.many) (.ref h') (.ref b') (.int s.came) (.int s.laid) (.int s.calls))) (.inl sa) ((A3.ex e5).ex e6).at_
  generalize (upd H6 a (.ins (He.ga K "Pegs") dx (pegF (.ref r) (.int s.many) (.ref h') (.ref b') (.int s.came) (.int s.laid) (.int s.calls)))) = H7 at A6 M6
  have lh7 := A6.lh
  refine q_fld (v := .int (s.laid + ((inOrd s.ranks s.book).take s.many.toNat).length)) (fun w => pegF (.ref r) (.int s.many) (.ref h') (.ref b') (.int s.came) w (.int s.calls)) (Mv.of T H7) (ev_op (ev_is (w := .int s.laid) (ep_laid A6 pc (by walk_at "ev")) rfl) (ev_cb (ea_cons (ep_hung A6 pc (by walk_at "ev")) ea_nil) (rc_lenI lh7)) rv_i0) (by walk_at "ev") A6.at_ pc.cls pc.no (by simp) (fun _ => rfl) fun H8 e8 _ => ?_
  have A8 := (A6.ex e8).setF (m := s.many) (c := s.came) (l := s.laid + ((inOrd s.ranks s.book).take s.many.toNat).length) (k := s.calls)
  have M8 := (M6.trans e8.mv).set (o := .ins (He.ga K "Pegs") dx (pegF (.ref r) (.int s.many) (.ref h') (.ref b') (.int s.came) (.int (s.laid + ((inOrd s.ranks s.book).take s.many.toNat).length)) (.int s.calls))) (.inl sa) (A6.ex e8).at_
  generalize (upd H8 a _) = H9 at A8 M8
  refine t_fld (v := .int (s.calls + 1)) (fun w => pegF (.ref r) (.int s.many) (.ref h') (.ref b') (.int s.came) (.int (s.laid + ((inOrd s.ranks s.book).take s.many.toNat).length)) w) (Mv.of T H9) (ev_op (ev_is (w := .int s.calls) (ep_calls A8 pc (by walk_at "ev")) rfl) ev_c rv_i0) (by walk_at "ev") A8.at_ pc.cls pc.no (by simp) (fun _ => rfl) fun H10 e10 _ => ?_
  have A10 := (A8.ex e10).setF (m := s.many) (c := s.came) (l := s.laid + ((inOrd s.ranks s.book).take s.many.toNat).length) (k := s.calls + 1)
  refine k _ (fun x => S x ∨ nod H x) ((M8.trans e10.mv).set (.inl sa) (A8.ex e10).at_) ⟨⟨dx, r, h', b', A10, .inl sa, .inl sr, .inr (e1.dm _ nh), .inr (M3.dm _ nb)⟩, pc, wf.call⟩ (fun x z => z)
theorem PSt.hang_wf {s : PSt} {i : Int} (h : PWf (s.come i)) (hp : s.press i = true) : PWf (s.tick.yield.hang i) := by
  unfold PSt.come at h
  rwa [if_pos hp] at h
theorem p_Pegs_come (h : sp_Pegs_come K T vs H Q E) : r_Pegs_come K T { nx := fun _ H' => Q .non H', rt := Q } (start ["self", "line"] vs) H := by
  obtain ⟨a, i, s, S, rfl, ⟨⟨dx, r, h, b, A, sa, sr, sh, sb⟩, pc, wf⟩, hi, tb, wf2, k⟩ := h
  unfold r_Pegs_come
  refine q_fld (v := .int (s.came + 1)) (fun w => pegF (.ref r) (.int s.many) (.ref h) (.ref b) w (.int s.laid) (.int s.calls)) (Mv.of T H) (ev_op (ev_is (w := .int s.came) (ep_came A pc (by walk_at "ev")) rfl) ev_c rv_i0) (by walk_at "ev") A.at_ pc.cls pc.no (by simp) (fun _ => rfl) fun H1 e1 _ => ?_
  have A2 : PegA K _ a dx r h b s.tick := (A.ex e1).setF (m := s.many) (c := s.came + 1) (l := s.laid) (k := s.calls)
  have M2 := (e1.mv (S := S)).set (o := .ins (He.ga K "Pegs") dx (pegF (.ref r) (.int s.many) (.ref h) (.ref b) (.int (s.came + 1)) (.int s.laid) (.int s.calls))) (.inl sa) (A.ex e1).at_
  generalize (upd H1 a _) = H2 at A2 M2
  have wf3 : PWf s.tick := ⟨wf.m0, wf.m1, wf.nr, wf.ih, wf.ib, wf.lh, wf.lb⟩
  have O2 : PegO K H2 a s.tick S := ⟨⟨dx, r, h, b, A2, sa, sr, sh, sb⟩, pc, wf3⟩
  refine q_if (b := !s.press i) (Mv.of T H2) (et_not (et_B (ev_is (ev_meth (by walk_at "ev") A2.at_ rfl (by walk_at "ea") rfl (v_pressing O2 hi)) rfl))) (fun hb H3 e3 _ => ?_) (fun hb H3 e3 _ => nextI ?_)
  · have hb : s.press i = false := by simpa using hb
    have A3 := A2.ex e3
    refine q_app (Mv.of T H3) A3.bk (ep_book A3 pc (by walk_at "ev")) (v := .int i) (by walk_at "ev") (by rw [List.length_map]; exact Nat.lt_of_le_of_lt wf.lb (by decide)) fun H4 e4 _ => ?_
    have A4 := A3.ex e4
    have A5 := A4.putB (xs := s.book ++ [i])
    rw [List.map_append] at A5
    have es : s.come i = { s.tick with book := s.book ++ [i] } := by
      unfold PSt.come
      rw [if_neg (by rw [hb]; simp)]
    rw [es] at k wf2
    exact k _ S (((M2.trans e3.mv).trans e4.mv).set (.inl sb) A4.bk) ⟨⟨dx, r, h, b, A5, sa, sr, sh, sb⟩, pc, wf2⟩ fun x z => .inl z
  · have hb : s.press i = true := by simpa using hb
    have A3 := A2.ex e3
    have es : s.come i = s.tick.yield.hang i := by
      unfold PSt.come
      rw [if_pos hb]
    rw [es] at k wf2
    have lh3 := A3.lh
    dsimp only
    refine q_cut (fun σ' H' => σ' = [some (.ref a), some (.int i)] ∧ Mv T S H H' ∧ PegA K H' a dx r h b s.tick.yield) ?_ ?_
    · refine s_if (b := decide ((s.hung.length : Int) = s.many)) (Mv.of T H3) (et_test (ev_op (ev_cb (ea_cons (ep_hung A3 pc (by walk_at "ev")) ea_nil) (rc_lenI lh3)) (ev_is (w := .int s.many) (ep_many A3 pc (by walk_at "ev")) rfl) rv_eqI)) (fun hm H4 e4 _ => ?_) (fun hm H4 e4 _ => nextI ⟨rfl, (M2.trans e3.mv).trans e4.mv, ?_⟩)
      · have hm := of_decide_eq_true hm
        have A4 := A3.ex e4
        have hne : s.hung ≠ [] := by
          intro z
          rw [z] at hm
          have := wf.m0
          simp at hm
          omega
        obtain ⟨j, hj, _⟩ := last_of hne
        have ey : s.tick.yield = { s.tick with hung := s.hung.dropLast, book := s.book ++ [j] } := by
          unfold PSt.yield
          rw [if_pos (show (s.tick.hung.length : Int) = s.tick.many from hm)]
          show { s.tick with hung := s.hung.dropLast, book := s.book ++ s.hung.getLast?.toList } = _
          rw [hj]
          rfl
        rw [ey]
        refine s_appPop (y := .int j) (Mv.of T H4) (ep_book A4 pc (by walk_at "ev")) (ep_hung A4 pc (by walk_at "ev")) A4.bk A4.hg (Ne.symm A4.hb) ?_ ?_ fun H6 e6 => ?_
        · show (s.hung.map V.int).getLast? = _
          rw [List.getLast?_map, hj]
          rfl
        · rw [List.length_map]
          exact Nat.lt_of_le_of_lt wf.lb (by decide)
        · have A6 := A4.ex e6
          have A7 := A6.putH (xs := s.hung.dropLast)
          have M7 := (((M2.trans e3.mv).trans e4.mv).trans (e6.mv (S := S))).set (o := .lst (s.hung.dropLast.map V.int)) (.inl sh) A6.hg
          have A8 := A7.putB (xs := s.book ++ [j])
          have M8 := M7.set (o := .lst ((s.book ++ [j]).map V.int)) (.inl sb) A7.bk
          rw [List.map_append, List.map_dropLast] at A8 M8
          exact ⟨rfl, M8, A8⟩
      · have hm := of_decide_eq_false hm
        have ey : s.tick.yield = s.tick := by
          unfold PSt.yield
          rw [if_neg (show ¬ (s.tick.hung.length : Int) = s.tick.many from hm)]
        rw [ey]
        exact A3.ex e4
    · rintro σ' H4 ⟨rfl, M4, A4⟩
      have hr4 : s.tick.yield.ranks = s.ranks := by unfold PSt.yield; split <;> rfl
      have hih : ∀ x ∈ s.tick.yield.hung ++ [i], inR s.tick.yield.ranks x := fun x hx => by
        have := wf2.ih x (inOrd_mem.mpr hx)
        exact this
      refine q_fldR (fun w => pegF (.ref r) (.int s.tick.yield.many) w (.ref b) (.int s.tick.yield.came) (.int s.tick.yield.laid) (.int s.tick.yield.calls)) (Mv.of T H4) (er_callVL (R := newL ((inOrd s.tick.yield.ranks (s.tick.yield.hung ++ [i])).map V.int)) (ep_ranks A4 pc (by walk_at "ev")) (el_cat (ep_hung A4 pc (by walk_at "ev")) A4.hg (el_lst (ea_cons (x := .int i) (by walk_at "ev") ea_nil) (by simp)) ?_) (fun q H1 hq e => v_in_order ⟨.inl (.inl ?_), (A4.ex e).lr, hih⟩ ((M4.trans e.mv).tb tb)) newL_back) (by walk_at "ev") A4.at_ pc.cls pc.no (by simp) (fun _ => rfl) fun v H5 H6 e5 _ hv e6 => ?_
      · have := wf2.lh
        have z : (s.tick.yield.hang i).hung.length = s.tick.yield.hung.length + 1 := by
          show (inOrd _ _).length = _
          rw [inOrd_len, List.length_append, List.length_singleton]
        rw [List.length_map, List.length_singleton]
        omega
      · rw [List.map_append]
        exact hq
      · obtain ⟨h', rfl, nh, hh⟩ := hv
        have A6 := ((A4.ex e5).ex e6).setH (e6.at hh) (nh.ne A4.rk) (nh.ne A4.bk).symm
        have M6 := ((M4.trans e5.mv).trans (e6.mv (S := S))).set (o := .ins (He.ga K "Pegs") dx (pegF (.ref r) (.int s.tick.yield.many) (.ref h') (.ref b) (.int s.tick.yield.came) (.int s.tick.yield.laid) (.int s.tick.yield.calls))) (.inl sa) ((A4.ex e5).ex e6).at_
        generalize (upd H6 a _) = H7 at A6 M6
        refine t_fld (v := .int (s.tick.yield.laid + 1)) (fun w => pegF (.ref r) (.int s.tick.yield.many) (.ref h') (.ref b) (.int s.tick.yield.came) w (.int s.tick.yield.calls)) (Mv.of T H7) (ev_op (ev_is (w := .int s.tick.yield.laid) (ep_laid A6 pc (by walk_at "ev")) rfl) ev_c rv_i0) (by walk_at "ev") A6.at_ pc.cls pc.no (by simp) (fun _ => rfl) fun H8 e8 _ => ?_
        have A8 := (A6.ex e8).setF (m := s.tick.yield.many) (c := s.tick.yield.came) (l := s.tick.yield.laid + 1) (k := s.tick.yield.calls)
        exact k _ (fun x => S x ∨ nod H x) ((M6.trans e8.mv).set (.inl sa) (A6.ex e8).at_) ⟨⟨dx, r, h', b, A8, .inl sa, .inl sr, .inr (M4.dm _ nh), .inl sb⟩, pc, wf2⟩ (fun x z => z)
theorem p_Pegs_go (h : sp_Pegs_go K T vs H Q E) : r_Pegs_go K T { nx := fun _ H' => Q .non H', rt := Q } (start ["self", "line"] vs) H := by
  obtain ⟨a, i, s, S, rfl, ⟨⟨dx, r, h, b, A, sa, sr, sh, sb⟩, pc, wf⟩, hi, tb, k⟩ := h
  unfold r_Pegs_go
  have lh := A.lh
  have wd := wf.drop i
  refine q_cut (fun σ' H' => σ' = [some (.ref a), some (.int i)] ∧ Mv T S H H' ∧ PegA K H' a dx r h b (s.drop i)) ?_ ?_
  · refine s_if (b := decide (i ∈ s.hung)) (Mv.of T H) (et_test (ev_op (by walk_at "ev") (ep_hung A pc (by walk_at "ev")) (rv_inI lh))) (fun hb H1 e1 _ => ?_) (fun hb H1 e1 _ => ?_)
    · have hb := of_decide_eq_true hb
      have A1 := A.ex e1
      have ed : s.drop i = { s with hung := s.hung.erase i } := by unfold PSt.drop; rw [if_pos hb]
      rw [ed]
      exact s_rem (Mv.of T H1) A1.hg (ep_hung A1 pc (by walk_at "ev")) (by walk_at "ev") hb fun H2 e2 _ => ⟨rfl, (e1.trans e2).mv.set (.inl sh) (A1.ex e2).hg, (A1.ex e2).putH⟩
    · have hb := of_decide_eq_false hb
      have A1 := A.ex e1
      have ed : s.drop i = { s with book := s.book.erase i } := by unfold PSt.drop; rw [if_neg hb]
      rw [ed]
      exact s_rem (Mv.of T H1) A1.bk (ep_book A1 pc (by walk_at "ev")) (by walk_at "ev") (hi.resolve_left hb) fun H2 e2 _ => ⟨rfl, (e1.trans e2).mv.set (.inl sb) (A1.ex e2).bk, (A1.ex e2).putB⟩
  · rintro σ' H1 ⟨rfl, M1, A1⟩
    refine s_if (b := decide ((s.drop i).hung = []) && !decide ((s.drop i).book = [])) (Mv.of T H1) (et_and (et_test (ev_opVL (ep_hung A1 pc (by walk_at "ev")) (el_lst ea_nil (by decide)) fun q H2 hq e => rv_eqDI (dp_n (e.at A1.hg)) (dp_n (ns := []) hq))) fun _ => et_test (ev_opVL (ep_book A1 pc (by walk_at "ev")) (el_lst ea_nil (by decide)) fun q H2 hq e => rv_neDI (dp_n (e.at A1.bk)) (dp_n (ns := []) hq))) (fun hb H2 e2 _ => ?_) (fun hb H2 e2 _ => nextI ?_)
    · have hb : (s.drop i).hung = [] ∧ (s.drop i).book ≠ [] := by simpa using hb
      have eg : s.go i = (s.drop i).call := by unfold PSt.go; rw [if_pos hb]
      rw [eg] at k
      have A2 := A1.ex e2
      refine s_meth (Mv.of T H2) (by walk_at "ev") A2.at_ rfl ea_nil rfl fun H3 e3 _ => ⟨a, s.drop i, S, rfl, ⟨⟨dx, r, h, b, A2.ex e3, sa, sr, sh, sb⟩, pc, wd⟩, ((M1.trans e2.mv).trans e3.mv).tb tb, fun H4 S4 m4 O4 n4 => ?_⟩
      have m3 := (M1.trans e2.mv).trans e3.mv
      exact k H4 S4 (m3.trans m4) O4 fun x hx => (n4 x hx).imp id (m3.dm x)
    · have hb : ¬ ((s.drop i).hung = [] ∧ (s.drop i).book ≠ []) := by
        rintro ⟨z1, z2⟩
        simp [z1, z2] at hb
      have eg : s.go i = s.drop i := by unfold PSt.go; rw [if_neg hb]
      rw [eg] at k
      exact k H2 S (M1.trans e2.mv) ⟨⟨dx, r, h, b, A1.ex e2, sa, sr, sh, sb⟩, pc, wd⟩ fun x hx => .inl hx
theorem isPg_int {m : Int} : isPg (.int m) = (decide (1 ≤ m) && decide (m ≤ 16)) := rfl
theorem PSt.make_wf {rs ls : List Int} {m : Int} (h1 : 1 ≤ m) (h2 : m ≤ 16) (hr : rs.length ≤ 60) (hl : ls.length ≤ 60) (hi : ∀ x ∈ ls, 0 ≤ x ∧ x < rs.length) : PWf (.make rs m ls) :=
  ⟨h1, h2, hr, fun i z => hi i (inOrd_mem.mp (List.mem_of_mem_take z)), fun i z => hi i (inOrd_mem.mp (List.mem_of_mem_drop z)), by
    show ((inOrd rs ls).take m.toNat).length ≤ 100
    rw [List.length_take, inOrd_len]
    omega, by
    show ((inOrd rs ls).drop m.toNat).length ≤ 100
    rw [List.length_drop, inOrd_len]
    omega⟩
theorem p_Pegs_init (h : sp_Pegs_init K T vs H Q E) : r_Pegs_init K T E { nx := fun _ H' => Q .non H', rt := Q } (start ["self", "ranks", "many", "lines", "order"] vs) H := by
  obtain ⟨x, r, y, l, rfl, hy, h⟩ := h
  unfold r_Pegs_init
  have ew : ∀ {H' : Hp}, Ex T H H' → EvT T (tNot (tB (tCall (sp_is_whole K T) [] E0 (tCons (tVar 2) tNil)))) [some (.ref x), some (.ref r), some y, some (.ref l), none] H' (!isI y) := fun e => et_not (et_B (ev_call0 (by walk_at "ea") (v_is_whole (by rw [kd_ex e rfl hy]; exact hy))))
  refine q_if (b := !isPg y) (Mv.of T H) ?_ (fun hb H1 e1 _ => ?_) (fun hb H1 e1 _ => nextI ?_)
  · cases y with
    | int m =>
      refine et_is (et_or (ew (Mv.of T H)) fun _ => et_or (et_test (ev_op (by walk_at "ev") ev_c rv_i0)) fun _ => et_test (ev_op (by walk_at "ev") ev_c rv_i0)) ?_
      rw [isPg_int, Bool.eq_iff_iff]
      simp [isI]
    | _ => exact et_orT (ew (Mv.of T H))
  · rcases h with ⟨_, z⟩ | ⟨m, dx, rs, ls, rfl, m1, m2, _⟩
    · exact z H1 e1
    · rw [isPg_int] at hb
      simp [m1, m2] at hb
  · rcases h with ⟨z, _⟩ | ⟨m, dx, rs, ls, rfl, m1, m2, hx, ky, nr, nl, tb, pc, k⟩
    · rw [z] at hb
      cases hb
    · dsimp only
      have m0 : 0 ≤ m := by omega
      have ky1 := ky.ex e1
      refine q_asgR (Mv.of T H1) (el_call0 (by walk_at "ea") (v_in_order ky1 (e1.tb tb))) fun v H2 σ2 hs e2 _ hv => ?_
      obtain ⟨o, rfl, no, ho⟩ := hv
      subst hs
      have e12 := e1.trans e2
      have hr2 := (ky1.ex e2).r
      refine q_fldR (fun w => [("ranks", w)]) (Mv.of T H2) (el_list (by walk_at "ev") (.inl hr2)) (by walk_at "ev") (e12.at hx) pc.cls pc.no (by simp) (fun _ => rfl) fun v H3 H4 e3 _ hv e4 => ?_
      obtain ⟨r', rfl, nr', hr'⟩ := hv
      have e14 := (e12.trans e3).trans e4
      have xr : r' ≠ x := Ne.symm (nr'.ne (e12.at hx))
      have M5 := e14.mv.set (S := fun b => b = x) (o := .ins (He.ga K "Pegs") dx [("ranks", .ref r')]) (.inl rfl) (e14.at hx)
      have hx5 : upd H4 x (.ins (He.ga K "Pegs") dx [("ranks", .ref r')]) x = some (.ins (He.ga K "Pegs") dx [("ranks", .ref r')]) := upd_same
      have hr5 : upd H4 x (.ins (He.ga K "Pegs") dx [("ranks", .ref r')]) r' = some (.lst (rs.map V.int)) := by rw [upd_ne xr]; exact e4.at hr'
      have ho5 : upd H4 x (.ins (He.ga K "Pegs") dx [("ranks", .ref r')]) o = some (.lst ((inOrd rs ls).map V.int)) := by rw [upd_ne (ne_of ho (e12.at hx) (fun z => nomatch z))]; exact (e3.trans e4).at ho
      generalize upd H4 x (.ins (He.ga K "Pegs") dx [("ranks", .ref r')]) = H5 at M5 hx5 hr5 ho5
      refine q_fld (v := .int m) (fun w => [("ranks", .ref r'), ("many", w)]) (Mv.of T H5) (by walk_at "ev") (by walk_at "ev") hx5 pc.cls pc.no (by simp) (fun _ => rfl) fun H6 e6 _ => ?_
      have M7 := (M5.trans e6.mv).set (o := .ins (He.ga K "Pegs") dx [("ranks", .ref r'), ("many", .int m)]) (.inl rfl) (e6.at hx5)
      have hx7 : upd H6 x (.ins (He.ga K "Pegs") dx [("ranks", .ref r'), ("many", .int m)]) x = some (.ins (He.ga K "Pegs") dx [("ranks", .ref r'), ("many", .int m)]) := upd_same
      have hr7 : upd H6 x (.ins (He.ga K "Pegs") dx [("ranks", .ref r'), ("many", .int m)]) r' = some (.lst (rs.map V.int)) := by rw [upd_ne xr]; exact e6.at hr5
      have ho7 : upd H6 x (.ins (He.ga K "Pegs") dx [("ranks", .ref r'), ("many", .int m)]) o = some (.lst ((inOrd rs ls).map V.int)) := by rw [upd_ne (ne_of ho5 hx5 (fun z => nomatch z))]; exact e6.at ho5
      generalize upd H6 x (.ins (He.ga K "Pegs") dx [("ranks", .ref r'), ("many", .int m)]) = H7 at M7 hx7 hr7 ho7
      have lo7 : SqL K H7 o ((inOrd rs ls).map V.int) := .inl (.inl ho7)
      have el := el_sl (T := T) (ta := tVar 4) (tl := tNoPart) (th := tPart (tVar 2)) (σ := [some (.ref x), some (.ref r), some (.int m), some (.ref l), some (.ref o)]) (by walk_at "ev") eo_no (eo_part (i := m) (by walk_at "ev")) lo7
      rw [cut_lo m0, ← List.map_take] at el
      refine q_fldR (fun w => [("ranks", .ref r'), ("many", .int m), ("hung", w)]) (Mv.of T H7) el (by walk_at "ev") hx7 pc.cls pc.no (by simp) (fun _ => rfl) fun v H8 H9 e8 _ hv e9 => ?_
      obtain ⟨h', rfl, nh, hh⟩ := hv
      have e89 := e8.trans e9
      have M10 := (M7.trans e89.mv).set (o := .ins (He.ga K "Pegs") dx [("ranks", .ref r'), ("many", .int m), ("hung", .ref h')]) (.inl rfl) (e89.at hx7)
      have hx10 : upd H9 x (.ins (He.ga K "Pegs") dx [("ranks", .ref r'), ("many", .int m), ("hung", .ref h')]) x = some (.ins (He.ga K "Pegs") dx [("ranks", .ref r'), ("many", .int m), ("hung", .ref h')]) := upd_same
      have hr10 : upd H9 x (.ins (He.ga K "Pegs") dx [("ranks", .ref r'), ("many", .int m), ("hung", .ref h')]) r' = some (.lst (rs.map V.int)) := by rw [upd_ne xr]; exact e89.at hr7
      have ho10 : upd H9 x (.ins (He.ga K "Pegs") dx [("ranks", .ref r'), ("many", .int m), ("hung", .ref h')]) o = some (.lst ((inOrd rs ls).map V.int)) := by rw [upd_ne (ne_of ho7 hx7 (fun z => nomatch z))]; exact e89.at ho7
      have hh10 : upd H9 x (.ins (He.ga K "Pegs") dx [("ranks", .ref r'), ("many", .int m), ("hung", .ref h')]) h' = some (.lst (((inOrd rs ls).take m.toNat).map V.int)) := by rw [upd_ne (Ne.symm (nh.ne hx7))]; exact e9.at hh
      generalize upd H9 x (.ins (He.ga K "Pegs") dx [("ranks", .ref r'), ("many", .int m), ("hung", .ref h')]) = H10 at M10 hx10 hr10 ho10 hh10
      have lo10 : SqL K H10 o ((inOrd rs ls).map V.int) := .inl (.inl ho10)
      have el := el_sl (T := T) (ta := tVar 4) (th := tNoPart) (tl := tPart (tVar 2)) (σ := [some (.ref x), some (.ref r), some (.int m), some (.ref l), some (.ref o)]) (by walk_at "ev") (eo_part (i := m) (by walk_at "ev")) eo_no lo10
      rw [cut_hi m0, ← List.map_drop] at el
      refine q_fldR (fun w => [("ranks", .ref r'), ("many", .int m), ("hung", .ref h'), ("book", w)]) (Mv.of T H10) el (by walk_at "ev") hx10 pc.cls pc.no (by simp) (fun _ => rfl) fun v H11 H12 e11 _ hv e12' => ?_
      obtain ⟨b', rfl, nb, hb'⟩ := hv
      have e112 := e11.trans e12'
      have M13 := (M10.trans e112.mv).set (o := .ins (He.ga K "Pegs") dx [("ranks", .ref r'), ("many", .int m), ("hung", .ref h'), ("book", .ref b')]) (.inl rfl) (e112.at hx10)
      have hx13 : upd H12 x (.ins (He.ga K "Pegs") dx [("ranks", .ref r'), ("many", .int m), ("hung", .ref h'), ("book", .ref b')]) x = some (.ins (He.ga K "Pegs") dx [("ranks", .ref r'), ("many", .int m), ("hung", .ref h'), ("book", .ref b')]) := upd_same
      have hr13 : upd H12 x (.ins (He.ga K "Pegs") dx [("ranks", .ref r'), ("many", .int m), ("hung", .ref h'), ("book", .ref b')]) r' = some (.lst (rs.map V.int)) := by rw [upd_ne xr]; exact e112.at hr10
      have ho13 : upd H12 x (.ins (He.ga K "Pegs") dx [("ranks", .ref r'), ("many", .int m), ("hung", .ref h'), ("book", .ref b')]) o = some (.lst ((inOrd rs ls).map V.int)) := by rw [upd_ne (ne_of ho10 hx10 (fun z => nomatch z))]; exact e112.at ho10
      have hh13 : upd H12 x (.ins (He.ga K "Pegs") dx [("ranks", .ref r'), ("many", .int m), ("hung", .ref h'), ("book", .ref b')]) h' = some (.lst (((inOrd rs ls).take m.toNat).map V.int)) := by rw [upd_ne (ne_of hh10 hx10 (fun z => nomatch z))]; exact e112.at hh10
      have hb13 : upd H12 x (.ins (He.ga K "Pegs") dx [("ranks", .ref r'), ("many", .int m), ("hung", .ref h'), ("book", .ref b')]) b' = some (.lst (((inOrd rs ls).drop m.toNat).map V.int)) := by rw [upd_ne (Ne.symm (nb.ne hx10))]; exact e12'.at hb'
      generalize upd H12 x (.ins (He.ga K "Pegs") dx [("ranks", .ref r'), ("many", .int m), ("hung", .ref h'), ("book", .ref b')]) = H13 at M13 hx13 hr13 ho13 hh13 hb13
      have lo13 : SqL K H13 o ((inOrd rs ls).map V.int) := .inl (.inl ho13)
      refine q_fld (v := .int ((inOrd rs ls).length : Int)) (fun w => [("ranks", .ref r'), ("many", .int m), ("hung", .ref h'), ("book", .ref b'), ("came", w)]) (Mv.of T H13) (ev_cb (by walk_at "ea") (rc_lenI lo13)) (by walk_at "ev") hx13 pc.cls pc.no (by simp) (fun _ => rfl) fun H14 e14' _ => ?_
      rw [inOrd_len]
      have M15 := (M13.trans e14'.mv).set (o := .ins (He.ga K "Pegs") dx [("ranks", .ref r'), ("many", .int m), ("hung", .ref h'), ("book", .ref b'), ("came", .int (ls.length : Int))]) (.inl rfl) (e14'.at hx13)
      have hx15 : upd H14 x (.ins (He.ga K "Pegs") dx [("ranks", .ref r'), ("many", .int m), ("hung", .ref h'), ("book", .ref b'), ("came", .int (ls.length : Int))]) x = some (.ins (He.ga K "Pegs") dx [("ranks", .ref r'), ("many", .int m), ("hung", .ref h'), ("book", .ref b'), ("came", .int (ls.length : Int))]) := upd_same
      have hr15 : upd H14 x (.ins (He.ga K "Pegs") dx [("ranks", .ref r'), ("many", .int m), ("hung", .ref h'), ("book", .ref b'), ("came", .int (ls.length : Int))]) r' = some (.lst (rs.map V.int)) := by rw [upd_ne xr]; exact e14'.at hr13
      have hh15 : upd H14 x (.ins (He.ga K "Pegs") dx [("ranks", .ref r'), ("many", .int m), ("hung", .ref h'), ("book", .ref b'), ("came", .int (ls.length : Int))]) h' = some (.lst (((inOrd rs ls).take m.toNat).map V.int)) := by rw [upd_ne (ne_of hh13 hx13 (fun z => nomatch z))]; exact e14'.at hh13
      have hb15 : upd H14 x (.ins (He.ga K "Pegs") dx [("ranks", .ref r'), ("many", .int m), ("hung", .ref h'), ("book", .ref b'), ("came", .int (ls.length : Int))]) b' = some (.lst (((inOrd rs ls).drop m.toNat).map V.int)) := by rw [upd_ne (ne_of hb13 hx13 (fun z => nomatch z))]; exact e14'.at hb13
      generalize upd H14 x (.ins (He.ga K "Pegs") dx [("ranks", .ref r'), ("many", .int m), ("hung", .ref h'), ("book", .ref b'), ("came", .int (ls.length : Int))]) = H15 at M15 hx15 hr15 hh15 hb15
      have lh15 : SqL K H15 h' (((inOrd rs ls).take m.toNat).map V.int) := .inl (.inl hh15)
      refine q_fld (v := .int (((inOrd rs ls).take m.toNat).length : Int)) (fun w => [("ranks", .ref r'), ("many", .int m), ("hung", .ref h'), ("book", .ref b'), ("came", .int (ls.length : Int)), ("laid", w)]) (Mv.of T H15) (ev_cb (ea_cons (ev_fld (by walk_at "ev") hx15 pc.cls pc.no rfl) ea_nil) (rc_lenI lh15)) (by walk_at "ev") hx15 pc.cls pc.no (by simp) (fun _ => rfl) fun H16 e16 _ => ?_
      have hx17 : upd H16 x (.ins (He.ga K "Pegs") dx [("ranks", .ref r'), ("many", .int m), ("hung", .ref h'), ("book", .ref b'), ("came", .int (ls.length : Int)), ("laid", .int (((inOrd rs ls).take m.toNat).length : Int))]) x = some (.ins (He.ga K "Pegs") dx [("ranks", .ref r'), ("many", .int m), ("hung", .ref h'), ("book", .ref b'), ("came", .int (ls.length : Int)), ("laid", .int (((inOrd rs ls).take m.toNat).length : Int))]) := upd_same
      have M17 := (M15.trans e16.mv).set (o := .ins (He.ga K "Pegs") dx [("ranks", .ref r'), ("many", .int m), ("hung", .ref h'), ("book", .ref b'), ("came", .int (ls.length : Int)), ("laid", .int (((inOrd rs ls).take m.toNat).length : Int))]) (.inl rfl) (e16.at hx15)
      refine t_fld (v := .int 0) (fun w => pegF (.ref r') (.int m) (.ref h') (.ref b') (.int (ls.length : Int)) (.int (((inOrd rs ls).take m.toNat).length : Int)) w) (Mv.of T _) ev_c (by walk_at "ev") hx17 pc.cls pc.no (by simp) (fun _ => rfl) fun H18 e18 _ => ?_
      have n1 : ∀ {q : Addr} {xs : List V}, H15 q = some (.lst xs) → q ≠ x := fun z => ne_of z hx15 (fun w => nomatch w)
      have at18 : ∀ {q : Addr} {xs : List V}, H15 q = some (.lst xs) → upd H18 x (.ins (He.ga K "Pegs") dx (pegF (.ref r') (.int m) (.ref h') (.ref b') (.int (ls.length : Int)) (.int (((inOrd rs ls).take m.toNat).length : Int)) (.int 0))) q = some (.lst xs) := fun z => by
        rw [upd_ne (n1 z)]
        refine e18.at ?_
        rw [upd_ne (n1 z)]
        exact e16.at z
      refine k _ (fun z => z = x ∨ nod H z) ((M17.trans e18.mv).set (.inl rfl) (e18.at hx17)) ⟨⟨dx, r', h', b', ⟨upd_same, at18 hr15, at18 hh15, at18 hb15, nh.ne hr7, nb.ne hr10, nb.ne hh10⟩, .inl rfl, .inr (e12.dm _ nr'), .inr (M7.dm _ nh), .inr (M10.dm _ nb)⟩, pc, PSt.make_wf m1 m2 nr nl ky.lo⟩ (fun z hz => hz)
end
end Fp

namespace Fp
open PySem PySem.Spec PyProof.Rows L2 LamX
/-! ### the order, plainly -/
theorem ordLe_tr {rs : List Int} {a b c : Int} (h1 : ordLe rs a b = true) (h2 : ordLe rs b c = true) : ordLe rs a c = true := by
  simp only [ordLe, decide_eq_true_eq] at *
  omega
theorem ordLe_tot {rs : List Int} (a b : Int) : (ordLe rs a b || ordLe rs b a) = true := by
  simp only [ordLe, Bool.or_eq_true, decide_eq_true_eq]
  omega
theorem ordLe_anti {rs : List Int} {a b : Int} (h1 : ordLe rs a b = true) (h2 : ordLe rs b a = true) : a = b := by
  simp only [ordLe, decide_eq_true_eq] at *
  omega
theorem bef_of {rs : List Int} {a b : Int} (h1 : ordLe rs a b = true) (h2 : a ≠ b) : bef rs a b = true := by
  simp only [ordLe, bef, decide_eq_true_eq] at *
  omega
theorem ordLe_of {rs : List Int} {a b : Int} (h1 : bef rs a b = true) : ordLe rs a b = true := by
  simp only [ordLe, bef, decide_eq_true_eq] at *
  omega
theorem ordLe_not {rs : List Int} {a b : Int} (h1 : ¬ bef rs a b = true) : ordLe rs b a = true := by
  simp only [ordLe, bef, decide_eq_true_eq] at *
  omega
theorem ordLe_self {rs : List Int} (a : Int) : ordLe rs a a = true := by simp [ordLe]
theorem inOrd_perm (rs ls : List Int) : (inOrd rs ls).Perm ls := List.mergeSort_perm _ _
theorem inOrd_le (rs ls : List Int) : (inOrd rs ls).Pairwise fun a b => ordLe rs a b = true := List.pairwise_mergeSort (le := ordLe rs) (fun _ _ _ h1 h2 => ordLe_tr h1 h2) (fun a b => ordLe_tot a b) ls
theorem inOrd_bef {rs ls : List Int} (nd : ls.Nodup) : (inOrd rs ls).Pairwise fun a b => bef rs a b = true := by
  have n2 : (inOrd rs ls).Nodup := (inOrd_perm rs ls).nodup_iff.mpr nd
  exact (inOrd_le rs ls).imp₂ (fun _ _ h1 h2 => bef_of h1 h2) n2
theorem fst_run {rs : List Int} : ∀ {ls : List Int} {j m : Int}, ls.foldl (fstStep rs) (some j) = some m → ordLe rs m j = true ∧ ∀ x ∈ ls, ordLe rs m x = true
  | [], j, m, h => by
    cases h
    exact ⟨ordLe_self _, fun _ z => by cases z⟩
  | a :: ls, j, m, h => by
    have e : fstStep rs (some j) a = if bef rs a j = true then some a else some j := rfl
    rw [List.foldl_cons, e] at h
    by_cases hb : bef rs a j = true
    · rw [if_pos hb] at h
      have ih := fst_run h
      exact ⟨ordLe_tr ih.1 (ordLe_of hb), fun x hx => (List.mem_cons.mp hx).elim (fun z => z ▸ ih.1) (ih.2 x)⟩
    · rw [if_neg hb] at h
      have ih := fst_run h
      exact ⟨ih.1, fun x hx => (List.mem_cons.mp hx).elim (fun z => z ▸ ordLe_tr ih.1 (ordLe_not hb)) (ih.2 x)⟩
theorem fst_some {rs : List Int} : ∀ {ls : List Int} {j : Int}, ∃ m, ls.foldl (fstStep rs) (some j) = some m
  | [], j => ⟨j, rfl⟩
  | a :: ls, j => by
    have e : fstStep rs (some j) a = if bef rs a j = true then some a else some j := rfl
    rw [List.foldl_cons, e]
    split <;> exact fst_some
theorem fstOf_least {rs ls : List Int} {m : Int} (h : fstOf rs ls = some m) : m ∈ ls ∧ ∀ x ∈ ls, ordLe rs m x = true := by
  refine ⟨(fst_mem h).elim (fun z => nomatch z) id, ?_⟩
  cases ls with
  | nil => cases h
  | cons a ls =>
    have q := fst_run (ls := ls) (j := a) h
    exact fun x hx => (List.mem_cons.mp hx).elim (fun z => z ▸ q.1) (q.2 x)
theorem fstOf_none {rs ls : List Int} : fstOf rs ls = none ↔ ls = [] := by
  cases ls with
  | nil => exact ⟨fun _ => rfl, fun _ => rfl⟩
  | cons a ls =>
    obtain ⟨m, hm⟩ := fst_some (rs := rs) (ls := ls) (j := a)
    exact ⟨fun h => by rw [show fstOf rs (a :: ls) = some m from hm] at h; exact (nomatch h), fun h => nomatch h⟩
theorem inOrd_head (rs ls : List Int) : (inOrd rs ls).head? = fstOf rs ls := by
  have hp := inOrd_perm rs ls
  have hs := inOrd_le rs ls
  cases e : inOrd rs ls with
  | nil =>
    rw [e] at hp
    rw [hp.nil_eq.symm]
    rfl
  | cons a xs =>
    rw [e] at hp hs
    cases f : fstOf rs ls with
    | none =>
      rw [fstOf_none.mp f] at hp
      exact absurd hp.length_eq (by simp)
    | some m =>
      have q := fstOf_least f
      refine congrArg some (ordLe_anti ?_ (q.2 a (hp.mem_iff.mp List.mem_cons_self)))
      rcases List.mem_cons.mp (hp.mem_iff.mpr q.1) with z | z
      · rw [z]; exact ordLe_self _
      · exact List.rel_of_pairwise_cons hs z
/-- lines, each once, below n -/
def Lns (n : Nat) (ls : List Int) : Prop := ls.Nodup ∧ ∀ x ∈ ls, 0 ≤ x ∧ x < n
def newLns (n : Nat) : Hp → V → Hp → Prop := fun H v H' => ∃ ls, Lns n ls ∧ newL (ls.map V.int) H v H'
section
variable {K : PySem.W.Frag} {T : List (Addr × Str)} {H H0 : Hp} {Q : VK} {E : XK} {vs : List V}
theorem s_ins {σ : L2.St} {D : Ends} {ta tb te : TE} {l : Addr} {xs : List V} {i : Int} {v : V} (e : Ex T H0 H) (hl : H l = some (.lst xs)) (ha : Ev T ta σ H0 (.ref l)) (hi : Ev T tb σ H0 (.int i)) (h : Ev T te σ H0 v) (hz : xs.length < 100000) (h0 : 0 ≤ i) (h1 : i < 2 ^ 63) (k : ∀ H1, Ex T H0 H1 → Ex T H H1 → D.nx σ (upd H1 l (.lst (xs.take i.toNat ++ [v] ++ xs.drop i.toNat)))) :
    tDrop (tBM K "list" rInsert ta (tCons tb (tCons te tNil))) D σ H := ha H e _ fun H1 e1 =>
  ⟨.inl ⟨rfl, xs, .inl (.inl (e1.at hl))⟩, hi H1 (e.trans e1) _ fun H2 e2 => h H2 ((e.trans e1).trans e2) _ fun H3 e3 => ⟨l, xs, i, v, rfl, rfl, e3.at (e2.at (e1.at hl)), szl hz, h0, h1, k H3 (((e.trans e1).trans e2).trans e3) ((e1.trans e2).trans e3)⟩⟩
theorem nd_len : ∀ (n : Nat) (ls : List Nat), ls.Nodup → (∀ x ∈ ls, x < n) → ls.length ≤ n
  | 0, [], _, _ => Nat.le_refl _
  | 0, a :: _, _, h => absurd (h a List.mem_cons_self) (Nat.not_lt_zero _)
  | n + 1, ls, nd, h => by
    by_cases hm : n ∈ ls
    · have ih := nd_len n (ls.erase n) (nd.erase n) fun x hx => by
        have z := (nd.mem_erase_iff).mp hx
        have := h x z.2
        omega
      rw [List.length_erase_of_mem hm] at ih
      omega
    · have := nd_len n ls nd fun x hx => by
        have := h x hx
        have : x ≠ n := fun e => hm (e ▸ hx)
        omega
      omega
theorem Lns.len {n : Nat} : ∀ {ls : List Int}, Lns n ls → ls.length ≤ n := fun {ls} h => by
  have h1 : (ls.map Int.toNat).Nodup := by
    refine List.pairwise_map.mpr (h.1.imp_of_mem fun {a b} ha hb ne e => ne ?_)
    have := h.2 a ha
    have := h.2 b hb
    omega
  have h2 := nd_len n _ h1 fun x hx => by
    obtain ⟨y, hy, rfl⟩ := List.mem_map.mp hx
    have := h.2 y hy
    omega
  rwa [List.length_map] at h2
theorem Lns.ins {n i : Nat} {ls : List Int} {m : Nat} (h : Lns i ls) (hi : i < n) : Lns (i + 1) (ls.take m ++ [(i : Int)] ++ ls.drop m) := by
  have hp : (ls.take m ++ [(i : Int)] ++ ls.drop m).Perm ((i : Int) :: ls) := by
    refine (List.perm_append_right_iff _ |>.mpr List.perm_append_comm).trans ?_
    rw [List.singleton_append, List.cons_append, List.take_append_drop]
  refine ⟨hp.nodup_iff.mpr (List.nodup_cons.mpr ⟨fun z => ?_, h.1⟩), fun x hx => ?_⟩
  · have := h.2 _ z
    omega
  · rcases List.mem_cons.mp (hp.mem_iff.mp hx) with z | z
    · omega
    · have := h.2 _ z
      omega
theorem rk_el {ls : List Int} {i : Int} (h0 : 0 ≤ i) (h1 : i < ls.length) : rk ls i = ls[i.toNat]'(by omega) := by
  unfold rk
  rw [List.getD_eq_getElem?_getD, List.getElem?_eq_getElem (by omega)]
  rfl
theorem rk_at {ls : List Int} {i : Int} (h0 : 0 ≤ i) (h1 : i < ls.length) : rk ls i ∈ ls := by
  unfold rk
  rw [List.getD_eq_getElem?_getD, List.getElem?_eq_getElem (by omega)]
  exact List.getElem_mem _
end
section
variable {K : PySem.W.Frag} {T : List (Addr × Str)} {H H0 : Hp} {Q : VK} {E : XK} {vs : List V} 
/-! ### things of all kinds -/
inductive Kin
  | v (x : V)
  | k (c : String)
def Kin.isI : Kin → Bool
  | .v x => Fp.isI x
  | .k _ => false
def Ks (H : Hp) : List Kin → List V → Prop
  | [], [] => True
  | .v x :: ks, y :: ys => y = x ∧ kd H x ≠ "" ∧ Ks H ks ys
  | .k c :: ks, y :: ys => (∃ a, y = .ref a) ∧ kd H y = c ∧ c ≠ "" ∧ Ks H ks ys
  | _, _ => False
theorem Ks.get {ks : List Kin} {ys : List V} (h : Ks H ks ys) {i : Nat} {z : Kin} (hz : ks[i]? = some z) : ∃ y, ys[i]? = some y ∧ kd H y ≠ "" ∧ isI y = z.isI := by
  induction ks generalizing ys i with
  | nil => cases hz
  | cons k ks ih =>
    cases ys with
    | nil => cases k <;> exact h.elim
    | cons y ys =>
      cases i with
      | zero =>
        obtain rfl := Option.some.inj hz
        cases k with
        | v x =>
          obtain ⟨rfl, h1, _⟩ := h
          exact ⟨_, rfl, h1, rfl⟩
        | k c =>
          obtain ⟨⟨a, rfl⟩, h1, h2, _⟩ := h
          exact ⟨_, rfl, by rw [h1]; exact h2, rfl⟩
      | succ i =>
        cases k with
        | v x => exact ih h.2.2 hz
        | k c => exact ih h.2.2.2 hz
theorem Ks.ex {H1 : Hp} {ks : List Kin} {ys : List V} (h : Ks H ks ys) (e : Ex T H H1) : Ks H1 ks ys := by
  induction ks generalizing ys with
  | nil => cases ys with | nil => trivial | cons _ _ => exact h
  | cons k ks ih =>
    cases ys with
    | nil => cases k <;> exact h.elim
    | cons y ys =>
      cases k with
      | v x => exact ⟨h.1, by rw [kd_ex e rfl h.2.1]; exact h.2.1, ih h.2.2⟩
      | k c => exact ⟨h.1, kd_ex e h.2.1 h.2.2.1, h.2.2.1, ih h.2.2.2⟩
theorem Ks.len {ks : List Kin} {ys : List V} (h : Ks H ks ys) : ys.length = ks.length := by
  induction ks generalizing ys with
  | nil => cases ys with | nil => rfl | cons _ _ => exact h.elim
  | cons k ks ih =>
    cases ys with
    | nil => cases k <;> exact h.elim
    | cons y ys =>
      cases k with
      | v x => rw [List.length_cons, List.length_cons, ih h.2.2]
      | k c => rw [List.length_cons, List.length_cons, ih h.2.2.2]
abbrev EvK (T : List (Addr × Str)) (ta : TA) (σ : L2.St) (H : Hp) (ks : List Kin) : Prop := EvAR T ta σ H fun _ vs H2 => Ks H2 ks vs
variable {σ : L2.St} {te : TE} {ta : TA}
theorem ek_nil : EvK T tNil σ H [] := fun H1 _ Q q => q [] H1 Mv.refl trivial
theorem ek_v {x : V} {ks : List Kin} (h : Ev T te σ H x) (hk : ∀ H1, Ex T H H1 → kd H1 x ≠ "") (hr : EvK T ta σ H ks) : EvK T (tCons te ta) σ H (.v x :: ks) := fun H1 e Q q =>
  h H1 e _ fun H2 e2 => hr H2 (e.trans e2) _ fun vs H3 e3 k => q _ H3 (e2.trans e3) ⟨rfl, hk H3 ((e.trans e2).trans e3), k⟩
theorem ek_k {R : Hp → V → Hp → Prop} {c : String} {ks : List Kin} (h : EvR T te σ H R) (hR : ∀ H1 v H2, R H1 v H2 → (∃ a, v = .ref a) ∧ kd H2 v = c) (hc : c ≠ "") (hr : EvK T ta σ H ks) : EvK T (tCons te ta) σ H (.k c :: ks) := fun H1 e Q q =>
  h H1 e _ fun v H2 e2 r => hr H2 (e.trans e2) _ fun vs H3 e3 k => q _ H3 (e2.trans e3) ⟨(hR _ _ _ r).1, kd_ex e3 (hR _ _ _ r).2 hc, hc, k⟩
theorem newL_kd {xs : List V} : ∀ H1 v H2, newL xs H1 v H2 → (∃ a, v = .ref a) ∧ kd H2 v = "list" := fun _ _ _ ⟨p, h1, _, h3⟩ => ⟨⟨p, h1⟩, by rw [h1]; exact kd_l h3⟩
theorem newU_kd {xs : List V} : ∀ H1 v H2, newU xs H1 v H2 → (∃ a, v = .ref a) ∧ kd H2 v = "tuple" := fun _ _ _ ⟨p, h1, _, h3⟩ => ⟨⟨p, h1⟩, by rw [h1]; exact kd_t h3⟩
def newD : Hp → V → Hp → Prop := fun H v H' => ∃ p, v = .ref p ∧ nod H p ∧ H' p = some (.dK [])
theorem er_newD : EvR T tDNewK σ H newD := fun H1 _ Q q p hp => q _ _ (Mv.new hp) ⟨p, rfl, .of hp, upd_same⟩
theorem newD_kd : ∀ H1 v H2, newD H1 v H2 → (∃ a, v = .ref a) ∧ kd H2 v = "dict" := fun _ _ _ ⟨p, h1, _, h3⟩ => ⟨⟨p, h1⟩, by rw [h1]; simp only [kd, h3]⟩
def newK (ks : List Kin) : Hp → V → Hp → Prop := fun _ v H' => ∃ p xs, v = .ref p ∧ Ks H' ks xs ∧ H' p = some (.lst xs)
theorem er_lstK {ks : List Kin} (h : EvK T ta σ H ks) (hz : ks.length ≤ 100000) : EvR T (tLst ta) σ H (newK ks) :=
  er_lst h fun H1 vs H2 _ _ k => ⟨by rw [k.len]; exact hz, fun p hp => ⟨p, vs, rfl, k.ex (T := T) (Mv.new hp), upd_same⟩⟩
end
section
variable {K : PySem.W.Frag} {T : List (Addr × Str)} {H H0 : Hp} {Q : VK} {E : XK} {vs : List V} {σ : L2.St}
theorem er_pair {t1 t2 : TE} {xs ys : List V} (h1 : EvL T t1 σ H xs) (h2 : EvL T t2 σ H ys) : EvR T (tLst (tCons t1 (tCons t2 tNil))) σ H (fun H1 v H2 => ∃ p a b, v = .ref p ∧ nod H1 p ∧ nod H1 a ∧ nod H1 b ∧ H2 p = some (.lst [.ref a, .ref b]) ∧ H2 a = some (.lst xs) ∧ H2 b = some (.lst ys)) := fun H1 e Q q =>
  h1 H1 e _ fun v H2 e2 ⟨a, ea, na, ha⟩ => by
    subst ea
    exact h2 H2 (e.trans e2) _ fun w H3 e3 ⟨b, eb, nb, hb⟩ => by
      subst eb
      exact ⟨sz (by simp), fun p hp => q _ _ ((e2.trans e3).trans (Mv.new hp)) ⟨p, a, b, rfl, (e2.trans e3).nod hp, na, e2.dm b nb, upd_same, ((e3.trans (Mv.new hp)).at ha), (Mv.new (T := T) (S := no) hp).at hb⟩⟩
theorem rv_ixP {p : Addr} {ls : List Int} {k : Nat} (h : SqL K H p (ls.map V.int)) (hk : k < ls.length) : ∃ z, z ∈ ls ∧ RV T (rIxL K) (.ref p) (.int ((k : Int) - 1)) H (.int z) := by
  cases k with
  | zero =>
    obtain ⟨ys, y, rfl⟩ : ∃ ys y, ls = ys ++ [y] := ⟨_, _, (List.dropLast_concat_getLast (List.ne_nil_of_length_pos (by omega))).symm⟩
    refine ⟨y, by simp, rv_ixL h ?_⟩
    have := atI_last (ys.map V.int) (V.int y)
    simpa using this
  | succ k => exact ⟨rk ls k, rk_at (by omega) (by omega), by
      have e : (((k + 1 : Nat) : Int) - 1) = (k : Int) := by omega
      rw [e]
      exact rv_ixI h (by omega) (by omega)⟩
theorem cutV_ints (ns : List Int) (lo hi : Option Int) : ∃ cs : List Int, cutV (ns.map V.int) lo hi = cs.map V.int ∧ cs.length ≤ HT.sIx ns.length ns.length hi - HT.sIx ns.length 0 lo := by
  refine ⟨(ns.drop (HT.sIx ns.length 0 lo)).take (HT.sIx ns.length ns.length hi - HT.sIx ns.length 0 lo), ?_, ?_⟩
  · unfold cutV
    rw [List.length_map, List.map_take, List.map_drop]
  · rw [List.length_take]
    exact Nat.min_le_left _ _
end
end Fp

namespace Fp
open PySem PySem.Spec PyProof.Rows L2 LamX
/-! ### the laws' small helpers -/
def cellAt (ns : List Int) (k : Int) : Int := if k < ns.length then rk ns k else 0
def sp_l_cell_at (K : PySem.W.Frag) (T : List (Addr × Str)) : Sp := fun vs H Q _ => ∃ p k ns, vs = [.ref p, .int k] ∧ SqL K H p (List.map V.int ns) ∧ 0 ≤ k ∧ ∀ H', Ex T H H' → Q (.int (cellAt ns k)) H'
def sp_l_whole (_K : PySem.W.Frag) (T : List (Addr × Str)) : Sp := fun vs H Q _ => ∃ x, vs = [x] ∧ kd H x ≠ "" ∧ ∀ H', Ex T H H' → Q (.bl (isI x)) H'
theorem len_l_cell_at {K : PySem.W.Frag} {T : List (Addr × Str)} : ∀ vs H Q E, sp_l_cell_at K T vs H Q E → vs.length = 2 := fun vs H Q E h => by
  obtain ⟨_, _, _, rfl, _⟩ := h
  exact rfl
theorem len_l_whole {K : PySem.W.Frag} {T : List (Addr × Str)} : ∀ vs H Q E, sp_l_whole K T vs H Q E → vs.length = 1 := fun vs H Q E h => by
  obtain ⟨_, rfl, _⟩ := h
  exact rfl
section
variable {K : PySem.W.Frag} {T : List (Addr × Str)} {H : Hp} {Q : VK} {E : XK} {vs : List V}
theorem v_cell_at {p : Addr} {k : Int} {ns : List Int} (h : SqL K H p (ns.map V.int)) (h0 : 0 ≤ k) : SpV T (sp_l_cell_at K T) [.ref p, .int k] H (.int (cellAt ns k)) := fun H1 e Q q E => ⟨p, k, ns, rfl, e.l h, h0, q⟩
theorem v_whole {x : V} (h : kd H x ≠ "") : SpV T (sp_l_whole K T) [x] H (.bl (isI x)) := fun H1 e Q q E => ⟨x, rfl, by rw [kd_ex e rfl h]; exact h, q⟩
theorem v_wholeI {i : Int} : SpV T (sp_l_whole K T) [.int i] H (.bl true) := v_whole (x := .int i) (by simp [kd])
theorem v_is_wholeI {i : Int} : SpV T (sp_is_whole K T) [.int i] H (.bl true) := v_is_whole (x := .int i) (by simp [kd])
end
def r_l_cell_at (K : PySem.W.Frag) (T : List (Addr × Str)) : TS :=
  (tSeq (tIfS (tTest (tOp oLt (tVar 1) (tCB (rLen K) (tCons (tVar 0) tNil)))) (tRet (tOp (rIxL K) (tVar 0) (tVar 1))) tNext)
  (tRet (tC (.int 0))))
def r_l_whole (K : PySem.W.Frag) (T : List (Addr × Str)) : TS :=
  (tRet (tAndV (tCB rIs (tCons (tVar 0) (tCons (tC (.ty "int")) tNil))) (tNotV (tCB rIs (tCons (tVar 0) (tCons (tC (.ty "bool")) tNil))))))
end Fp
local macro_rules | `(tactic| walk_at "sp") => `(tactic| first | exact Fp.v_wholeI | exact Fp.v_is_wholeI | exact Fp.v_whole (by assumption) | exact Fp.v_is_whole (by assumption) | exact Fp.v_before (by walk_at "fact") (by assumption) (by assumption) | exact Fp.v_cell_at (by walk_at "fact") (by decide))
namespace Fp
open PySem PySem.Spec PyProof.Rows L2 LamX
section
variable {K : PySem.W.Frag} {T : List (Addr × Str)} {H H0 : Hp} {Q : VK} {E : XK} {vs : List V}
theorem p_l_cell_at (h : sp_l_cell_at K T vs H Q E) : r_l_cell_at K T { nx := fun _ H' => Q .non H', rt := Q } (start ["_law_script", "_law_k"] vs) H := by
  obtain ⟨p, k, ns, rfl, hp, h0, q⟩ := h
  unfold r_l_cell_at
  refine q_if (Mv.of T H) (by walk_at "et") (fun hb H1 e _ => ?_) (fun hb H1 e _ => ?_)
  · have hb := of_decide_eq_true hb
    refine s_ret e (ev_is (by walk_at "ev") ?_) q
    simp only [cellAt, hb, if_true]
  · have hb := of_decide_eq_false hb
    refine nextI ?_
    dsimp only
    refine s_ret e (ev_is (by walk_at "ev") ?_) q
    simp only [cellAt, hb, if_false]
theorem p_l_whole (h : sp_l_whole K T vs H Q E) : r_l_whole K T { nx := fun _ H' => Q .non H', rt := Q } (start ["_law_found"] vs) H := by
  obtain ⟨x, rfl, hx, k⟩ := h
  have a := (rfl : kd H x = kd H x)
  exact s_ret (Mv.of T H) (ev_is (ev_and (ev_cb (by walk_at "ea") (rc_is a hx (by decide))) fun _ => ev_not (ev_cb (by walk_at "ea") (rc_is a hx (by decide)))) (by rw [isI_kd])) k
end
end Fp

namespace Fp
open PySem PySem.Spec PyProof.Rows L2 LamX
def sp_l_list (K : PySem.W.Frag) (T : List (Addr × Str)) : Sp := fun vs H Q _ => ∃ p q ns, vs = [.ref p, .ref q] ∧ H p = some (.lst (List.map V.int ns)) ∧ SqL K H q (List.map V.int ns) ∧ List.length ns ≤ 1000 ∧ ∀ H', Ex T H H' → Q (.bl true) H'
/-- ranks of a board -/
def Rks (rs : List Int) : Prop := ∀ r ∈ rs, 0 ≤ r ∧ r < 1000000000000000000000000000000000000000000000000000000000000
def newRks (n : Nat) : Hp → V → Hp → Prop := fun H v H' => ∃ rs, Rks rs ∧ rs.length = n ∧ newL (rs.map V.int) H v H'
def sp_l_ranks (_K : PySem.W.Frag) (T : List (Addr × Str)) : Sp := fun vs H Q _ => ∃ c, ∃ n : Nat, vs = [.int c, .int n] ∧ n ≤ 60 ∧ ∀ v H', Ex T H H' → newRks n H v H' → Q v H'
theorem len_l_list {K : PySem.W.Frag} {T : List (Addr × Str)} : ∀ vs H Q E, sp_l_list K T vs H Q E → vs.length = 2 := fun vs H Q E h => by
  obtain ⟨_, _, _, rfl, _⟩ := h
  exact rfl
theorem len_l_ranks {K : PySem.W.Frag} {T : List (Addr × Str)} : ∀ vs H Q E, sp_l_ranks K T vs H Q E → vs.length = 2 := fun vs H Q E h => by
  obtain ⟨_, _, rfl, _⟩ := h
  exact rfl
section
variable {K : PySem.W.Frag} {T : List (Addr × Str)} {H : Hp} {Q : VK} {E : XK} {vs : List V}
theorem v_list {p q : Addr} {ns : List Int} (hp : H p = some (.lst (ns.map V.int))) (hq : SqL K H q (ns.map V.int)) (hz : ns.length ≤ 1000) : SpV T (sp_l_list K T) [.ref p, .ref q] H (.bl true) := fun H1 e Q q' E => ⟨p, q, ns, rfl, e.at hp, e.l hq, hz, q'⟩
theorem v_ranks {c : Int} {n : Nat} (hn : n ≤ 60) : SpR T (sp_l_ranks K T) [.int c, .int n] H (newRks n) := fun H1 e Q q' E => ⟨c, n, rfl, hn, q'⟩
theorem newRks_back {n : Nat} : ∀ H1 H2 v H3, Ex T H H1 → Ex T H1 H2 → Ex T H2 H3 → newRks n H2 v H3 → newRks n H1 v H3 := fun _ _ _ _ _ a b ⟨ls, z1, z2, z3⟩ => ⟨ls, z1, z2, newL_back _ _ _ _ (Mv.of T _) a b z3⟩
end
def r_l_list (K : PySem.W.Frag) (T : List (Addr × Str)) : TS :=
  (tSeq (tIfS (tOr (tNot (tB (tCB rIs (tCons (tVar 0) (tCons (tC (.ty "list")) tNil))))) (tTest (tOp rNe (tCB (rLen K) (tCons (tVar 0) tNil)) (tCB (rLen K) (tCons (tVar 1) tNil))))) (tRet (tC (.bl false))) tNext)
  (tSeq (tFor (iRng1 (tCons (tCB (rLen K) (tCons (tVar 1) tNil)) tNil)) (gName 2) (tIfS (tOr (tNot (tB (tCall (sp_l_whole K T) [] E0 (tCons (tOp (rIxL K) (tVar 0) (tVar 2)) tNil)))) (tTest (tOp rNe (tOp (rIxL K) (tVar 0) (tVar 2)) (tOp (rIxL K) (tVar 1) (tVar 2))))) (tRet (tC (.bl false))) tNext))
  (tRet (tC (.bl true)))))
def r_l_ranks (K : PySem.W.Frag) (T : List (Addr × Str)) : TS :=
  (tSeq (tAsg (tLst tNil) (gName 2))
  (tSeq (tFor (iRng1 (tCons (tVar 1) tNil)) (gName 3) (tSeq (tAsg (tOp oMod (tOp oMul (tOp oAdd (tOp oAdd (tOp oAdd (tOp oMod (tOp oDiv (tVar 0) (tC (.int 4))) (tC (.int 1000003))) (tOp oMul (tOp oMul (tC (.int 7919)) (tVar 3)) (tVar 3))) (tVar 3)) (tC (.int 1))) (tC (.int 48271))) (tC (.int 2147483629))) (gName 4))
  (tSeq (tAsg (tOp oMod (tOp oMul (tVar 4) (tVar 4)) (tC (.int 2147483587))) (gName 4))
  (tIfS (tTest (tOp rEq (tOp oMod (tVar 0) (tC (.int 4))) (tC (.int 0)))) (tDrop (tBM K "list" rAppend (tVar 2) (tCons (tOp oMod (tVar 4) (tC (.int 4))) tNil))) (tIfS (tTest (tOp rEq (tOp oMod (tVar 0) (tC (.int 4))) (tC (.int 1)))) (tDrop (tBM K "list" rAppend (tVar 2) (tCons (tOp oMod (tOp oPow (tVar 4) (tC (.int 7))) (tOp oPow (tC (.int 10)) (tC (.int 60)))) tNil))) (tIfS (tTest (tOp rEq (tOp oMod (tVar 0) (tC (.int 4))) (tC (.int 2)))) (tDrop (tBM K "list" rAppend (tVar 2) (tCons (tOp oSub (tOp oSub (tOp oPow (tC (.int 10)) (tC (.int 60))) (tC (.int 1))) (tOp oMod (tVar 4) (tC (.int 3)))) tNil))) (tDrop (tBM K "list" rAppend (tVar 2) (tCons (tOp oAdd (tOp oMul (tOp oSub (tVar 1) (tVar 3)) (tOp oPow (tC (.int 10)) (tC (.int 57)))) (tOp oMod (tVar 4) (tC (.int 2)))) tNil)))))))))
  (tRet (tVar 2))))
end Fp
local macro_rules | `(tactic| walk_at "sp") => `(tactic| first | exact Fp.v_wholeI | exact Fp.v_is_wholeI | exact Fp.v_whole (by assumption) | exact Fp.v_is_whole (by assumption) | exact Fp.v_before (by walk_at "fact") (by assumption) (by assumption) | exact Fp.v_cell_at (by walk_at "fact") (by decide))
namespace Fp
open PySem PySem.Spec PyProof.Rows L2 LamX
section
variable {K : PySem.W.Frag} {T : List (Addr × Str)} {H H0 : Hp} {Q : VK} {E : XK} {vs : List V}
theorem p_l_list (h : sp_l_list K T vs H Q E) : r_l_list K T { nx := fun _ H' => Q .non H', rt := Q } (start ["_law_found", "_law_due", "_law_k"] vs) H := by
  obtain ⟨p, q, ns, rfl, hp, hq, hz, k⟩ := h
  unfold r_l_list
  have hp' : SqL K H p (ns.map V.int) := .inl (.inl hp)
  refine q_if (b := false) (Mv.of T H) (et_is (by walk_at "et") (by simp [isK])) (fun hb => nomatch hb) (fun _ H1 e1 _ => nextI ?_)
  dsimp only
  refine s_forR (n := ns.length) e1 (by walk_at "ea") (by omega) (fun i σ' H' => ∃ v, σ' = [some (.ref p), some (.ref q), v] ∧ Ex T H H') (fun H2 e2 _ => ⟨none, rfl, e2⟩) ?_ ?_
  · rintro i σ' H' hi ⟨v, rfl, e⟩
    exact s_if (b := false) e (et_is (by walk_at "et") (by simp)) (fun hb => nomatch hb) (fun _ H2 e2 _ => nextI ⟨_, rfl, e2⟩)
  · rintro σ' H' ⟨v, rfl, e⟩
    dsimp only
    exact s_ret e (by walk_at "ev") k
theorem p_l_ranks (h : sp_l_ranks K T vs H Q E) : r_l_ranks K T { nx := fun _ H' => Q .non H', rt := Q } (start ["_law_cell", "_law_many", "_law_ranks_here", "_law_k", "_law_number"] vs) H := by
  obtain ⟨c, n, rfl, hn, q⟩ := h
  unfold r_l_ranks
  refine q_asgR (Mv.of T H) (el_lst ea_nil (by decide)) fun v H1 σ2 hs e1 _ hv => ?_
  obtain ⟨p, rfl, np, hp⟩ := hv
  subst hs
  refine s_forR (n := n) e1 (by walk_at "ea") (by omega) (fun i σ' H' => ∃ rs v1 v2, σ' = [some (.int c), some (.int n), some (.ref p), v1, v2] ∧ Ex T H H' ∧ H' p = some (.lst (List.map V.int rs)) ∧ Rks rs ∧ List.length rs = i) (fun H2 e2 e3 => ⟨[], none, none, rfl, e2, e3.at hp, (fun _ z => by cases z), rfl⟩) ?_ ?_
  · rintro i σ' H' hi ⟨rs, v1, v2, rfl, e, hl, hk, hc⟩
    have hi' : i < n := by omega
    refine q_asg (Mv.of T H') (by walk_at "ev") rfl fun H2 e2 _ => ?_
    generalize hm : (c / 4 % 1000003 + 7919 * (i : Int) * (i : Int) + (i : Int) + 1) * 48271 % 2147483629 = m
    have hb : 0 ≤ m ∧ m < 2147483629 := by rw [← hm]; exact ⟨Int.emod_nonneg _ (by decide), Int.emod_lt_of_pos _ (by decide)⟩
    refine q_asg e2 (by walk_at "ev") rfl fun H3 e3 _ => ?_
    generalize hm2 : m * m % 2147483587 = m2
    have hb2 : 0 ≤ m2 ∧ m2 < 2147483587 := by rw [← hm2]; exact ⟨Int.emod_nonneg _ (by decide), Int.emod_lt_of_pos _ (by decide)⟩
    have key : ∀ (x : Int) (H4 : Hp), 0 ≤ x ∧ x < 1000000000000000000000000000000000000000000000000000000000000 → Ex T H' H4 → ∃ rs' v1 v2, ([some (V.int c), some (V.int n), some (V.ref p), some (V.int (i : Int)), some (V.int m2)] : L2.St) = [some (.int c), some (.int n), some (.ref p), v1, v2] ∧ Ex T H (upd H4 p (.lst (rs.map V.int ++ [.int x]))) ∧ upd H4 p (.lst (rs.map V.int ++ [.int x])) p = some (.lst (List.map V.int rs')) ∧ Rks rs' ∧ List.length rs' = i + 1 := fun x H4 hx e4 =>
      ⟨rs ++ [x], _, _, rfl, (e.trans e4).set (.inr np) (e4.at hl), by rw [upd_same, List.map_append]; rfl, fun r hr => (List.mem_append.mp hr).elim (hk r) fun z => by rw [List.mem_singleton.mp z]; exact hx, by rw [List.length_append, hc]; rfl⟩
    have hz : (rs.map V.int).length < 100000 := by rw [List.length_map]; omega
    have c4 := Int.emod_nonneg c (show (4 : Int) ≠ 0 by decide)
    refine s_if e3 (by walk_at "et") (fun hb4 H4 e4 _ => ?_) (fun hb4 H4 e4 _ => ?_)
    · refine s_app (v := .int (m2 % 4)) (Mv.of T H4) (e4.at hl) (by walk_at "ev") (by walk_at "ev") hz fun H5 e5 _ => key _ H5 (by omega) (e4.trans e5)
    · refine s_if e4 (by walk_at "et") (fun hb5 H5 e5 _ => ?_) (fun hb5 H5 e5 _ => ?_)
      · refine s_app (v := .int (m2 ^ (7 : Int).toNat % 1000000000000000000000000000000000000000000000000000000000000)) (Mv.of T H5) (e5.at hl) (by walk_at "ev") (ev_op (ev_op (by walk_at "ev") ev_c (rv_i ⟨by decide, by decide, by omega⟩)) ev_p60 (rv_i (by decide))) hz fun H6 e6 _ => key _ H6 ⟨Int.emod_nonneg _ (by decide), Int.emod_lt_of_pos _ (by decide)⟩ (e5.trans e6)
      · refine s_if e5 (by walk_at "et") (fun hb6 H6 e6 _ => ?_) (fun hb6 H6 e6 _ => ?_)
        · refine s_app (v := .int (1000000000000000000000000000000000000000000000000000000000000 - 1 - m2 % 3)) (Mv.of T H6) (e6.at hl) (by walk_at "ev") (by walk_at "ev") hz fun H7 e7 _ => key _ H7 (by omega) (e6.trans e7)
        · refine s_app (v := .int (((n : Int) - (i : Int)) * 1000000000000000000000000000000000000000000000000000000000 + m2 % 2)) (Mv.of T H6) (e6.at hl) (by walk_at "ev") (by walk_at "ev") hz fun H7 e7 _ => key _ H7 (by omega) (e6.trans e7)
  · rintro σ' H' ⟨rs, v1, v2, rfl, e, hl, hk, hc⟩
    dsimp only
    refine s_ret (Mv.of T H') (by walk_at "ev") fun H2 e2 => q _ _ (e.trans e2) ⟨rs, hk, hc, p, rfl, np, e2.at hl⟩
end
end Fp

namespace Fp
open PySem PySem.Spec PyProof.Rows L2 LamX
/-! ### orders, plainly -/
section
variable {rs xs ys ls : List Int} {i j a b c : Int}
theorem bef_tr (h1 : bef rs a b = true) (h2 : bef rs b c = true) : bef rs a c = true := by
  simp only [bef, decide_eq_true_eq] at *
  omega
theorem bef_irr : ¬ bef rs a a = true := by
  simp only [bef, decide_eq_true_eq]
  omega
theorem bef_tot (h : a ≠ b) : bef rs a b = true ∨ bef rs b a = true := by
  simp only [bef, decide_eq_true_eq]
  omega
theorem bef_as (h1 : bef rs a b = true) (h2 : bef rs b a = true) : False := bef_irr (bef_tr h1 h2)
abbrev Srt (rs xs : List Int) : Prop := xs.Pairwise fun x y => bef rs x y = true
theorem srt_nd (h : Srt rs xs) : xs.Nodup := h.imp fun {a b} q e => by
  subst e
  exact bef_irr q
theorem srt_eq (p : xs.Perm ys) (h1 : Srt rs xs) (h2 : Srt rs ys) : xs = ys :=
  p.eq_of_pairwise (le := fun x y => bef rs x y = true) (fun _ _ _ _ z1 z2 => (bef_as z1 z2).elim) h1 h2
theorem inOrd_eq (p : xs.Perm ls) (h : Srt rs xs) : inOrd rs ls = xs :=
  srt_eq ((inOrd_perm rs ls).trans p.symm) (inOrd_bef (p.nodup_iff.mp (srt_nd h))) h
theorem inOrd_self (h : Srt rs xs) : inOrd rs xs = xs := inOrd_eq (List.Perm.refl _) h
theorem inOrd_perm_eq (p : xs.Perm ys) (nd : xs.Nodup) : inOrd rs xs = inOrd rs ys := (inOrd_eq ((inOrd_perm rs ys).trans p.symm) (inOrd_bef (p.nodup_iff.mp nd)))
/-- put at its place -/
def putI (rs xs : List Int) (i : Int) : List Int := xs.takeWhile (fun x => bef rs x i) ++ [i] ++ xs.dropWhile (fun x => bef rs x i)
theorem putI_perm : (putI rs xs i).Perm (xs ++ [i]) := by
  unfold putI
  rw [List.append_assoc]
  refine (List.Perm.append_left _ List.perm_append_comm).trans ?_
  rw [← List.append_assoc, List.takeWhile_append_dropWhile]
theorem putI_srt (h : Srt rs xs) (hi : i ∉ xs) : Srt rs (putI rs xs i) := by
  unfold putI
  induction xs with
  | nil => exact List.pairwise_singleton _ _
  | cons x xs ih =>
    have hp := List.pairwise_cons.mp h
    have hxi : x ≠ i := fun e => hi (e ▸ List.mem_cons_self)
    have ih := ih hp.2 (fun z => hi (List.mem_cons_of_mem _ z))
    by_cases e : bef rs x i = true
    · rw [List.takeWhile_cons_of_pos (p := fun x => bef rs x i) e, List.dropWhile_cons_of_pos (p := fun x => bef rs x i) e]
      refine List.pairwise_cons.mpr ⟨fun y hy => ?_, ih⟩
      have hy : y ∈ putI rs xs i := hy
      rcases List.mem_append.mp (putI_perm.mem_iff.mp hy) with z | z
      · exact hp.1 y z
      · rw [List.mem_singleton.mp z]; exact e
    · rw [List.takeWhile_cons_of_neg (p := fun x => bef rs x i) e, List.dropWhile_cons_of_neg (p := fun x => bef rs x i) e]
      have hix := (bef_tot hxi).resolve_left e
      refine List.pairwise_cons.mpr ⟨fun y hy => ?_, h⟩
      rcases List.mem_cons.mp hy with z | z
      · rw [z]; exact hix
      · exact bef_tr hix (hp.1 y z)
theorem putI_eq (h : Srt rs xs) (hi : i ∉ xs) : putI rs xs i = inOrd rs (xs ++ [i]) := (inOrd_eq putI_perm (putI_srt h hi)).symm
theorem putI_ord (nd : (ls ++ [i]).Nodup) : putI rs (inOrd rs ls) i = inOrd rs (ls ++ [i]) := by
  have nl : ls.Nodup := (List.nodup_append.mp nd).1
  have hi : i ∉ inOrd rs ls := fun z => by
    have := (List.nodup_append.mp nd).2.2 i (inOrd_mem.mp z) i (List.mem_singleton.mpr rfl)
    exact this rfl
  exact (inOrd_eq (putI_perm.trans ((inOrd_perm rs ls).append_right _)) (putI_srt (inOrd_bef nl) hi)).symm
theorem erase_ord (nd : ls.Nodup) : (inOrd rs ls).erase i = inOrd rs (ls.erase i) :=
  (inOrd_eq ((inOrd_perm rs ls).erase i) ((inOrd_bef nd).sublist List.erase_sublist)).symm
end
/-! ### what holds of pegs from deed to deed -/
structure POk (s : PSt) : Prop where
  m0 : 1 ≤ s.many
  m1 : s.many ≤ 16
  nr : s.ranks.length ≤ 60
  le : (s.hung.length : Int) ≤ s.many
  so : Srt s.ranks s.hung
  ns : Lns s.ranks.length (s.hung ++ s.book)
  fr : ∀ x ∈ s.hung, ∀ y ∈ s.book, bef s.ranks x y = true
  ne : s.hung = [] → s.book = []
section
variable {s : PSt} {i : Int}
theorem POk.len (o : POk s) : s.hung.length + s.book.length ≤ 60 := by
  have := o.ns.len
  have := o.nr
  rw [List.length_append] at *
  omega
theorem POk.wf (o : POk s) : PWf s := by
  have := o.len
  exact ⟨o.m0, o.m1, o.nr, fun i h => o.ns.2 i (List.mem_append_left _ h), fun i h => o.ns.2 i (List.mem_append_right _ h), by omega, by omega⟩
theorem POk.nb (o : POk s) : s.book.Nodup := (List.nodup_append.mp o.ns.1).2.1
theorem take_drop_bef {rs ls : List Int} {n : Nat} (h : Srt rs ls) : ∀ x ∈ ls.take n, ∀ y ∈ ls.drop n, bef rs x y = true := by
  have h' := h
  rw [← List.take_append_drop n ls] at h'
  exact (List.pairwise_append.mp h').2.2
theorem POk.make {rs ls : List Int} {m : Int} (h1 : 1 ≤ m) (h2 : m ≤ 16) (hr : rs.length ≤ 60) (hl : Lns rs.length ls) : POk (.make rs m ls) := by
  have hp := inOrd_perm rs ls
  refine ⟨h1, h2, hr, ?_, (inOrd_bef hl.1).take, ?_, take_drop_bef (inOrd_bef hl.1), fun z => ?_⟩
  · show (((inOrd rs ls).take m.toNat).length : Int) ≤ m
    rw [List.length_take]
    omega
  · show Lns _ ((inOrd rs ls).take m.toNat ++ (inOrd rs ls).drop m.toNat)
    rw [List.take_append_drop]
    exact ⟨hp.nodup_iff.mpr hl.1, fun x hx => hl.2 x (hp.mem_iff.mp hx)⟩
  · have z : (inOrd rs ls).take m.toNat = [] := z
    show (inOrd rs ls).drop m.toNat = []
    rcases List.take_eq_nil_iff.mp z with q | q
    · omega
    · rw [q]; exact List.drop_nil
theorem POk.call (o : POk { s with hung := [] } ∨ (s.hung = [] ∧ 1 ≤ s.many ∧ s.many ≤ 16 ∧ s.ranks.length ≤ 60 ∧ Lns s.ranks.length s.book)) : POk s.call := by
  have hh : 1 ≤ s.many ∧ s.many ≤ 16 ∧ s.ranks.length ≤ 60 ∧ Lns s.ranks.length s.book := by
    rcases o with o | o
    · exact ⟨o.m0, o.m1, o.nr, o.ns⟩
    · exact o.2
  obtain ⟨h1, h2, h3, h4⟩ := hh
  have q := POk.make h1 h2 h3 h4
  exact ⟨q.m0, q.m1, q.nr, q.le, q.so, q.ns, q.fr, q.ne⟩
theorem POk.go (o : POk s) (hi : i ∈ s.hung ∨ i ∈ s.book) : POk (s.go i) ∧ ((s.go i).hung ++ (s.go i).book).Perm ((s.hung ++ s.book).erase i) := by
  have nd := List.nodup_append.mp o.ns.1
  have key : (s.drop i).ranks = s.ranks ∧ (s.drop i).many = s.many ∧ (s.drop i).hung.length ≤ s.hung.length ∧ (s.drop i).hung.Sublist s.hung ∧ (s.drop i).book.Sublist s.book ∧ (s.drop i).hung ++ (s.drop i).book = (s.hung ++ s.book).erase i := by
    unfold PSt.drop
    by_cases h : i ∈ s.hung
    · rw [if_pos h]
      exact ⟨rfl, rfl, List.length_erase_le, List.erase_sublist, List.Sublist.refl _, (List.erase_append_left _ h).symm⟩
    · rw [if_neg h]
      exact ⟨rfl, rfl, Nat.le_refl _, List.Sublist.refl _, List.erase_sublist, (List.erase_append_right _ h).symm⟩
  obtain ⟨k1, k2, k3, k4, k5, k6⟩ := key
  have ns : Lns s.ranks.length ((s.drop i).hung ++ (s.drop i).book) := by
    rw [k6]
    exact ⟨o.ns.1.sublist List.erase_sublist, fun x hx => o.ns.2 x (List.mem_of_mem_erase hx)⟩
  unfold PSt.go
  split
  · rename_i h
    have e : (s.drop i).hung ++ (s.drop i).book = (s.drop i).book := by rw [h.1]; rfl
    rw [e] at ns
    refine ⟨POk.call (.inr ⟨h.1, by rw [k2]; exact o.m0, by rw [k2]; exact o.m1, by rw [k1]; exact o.nr, by rw [k1]; exact ns⟩), ?_⟩
    rw [← k6, e]
    show ((inOrd _ _).take _ ++ (inOrd _ _).drop _).Perm _
    rw [List.take_append_drop]
    exact inOrd_perm _ _
  · rename_i h
    refine ⟨⟨by rw [k2]; exact o.m0, by rw [k2]; exact o.m1, by rw [k1]; exact o.nr, by rw [k2]; have := o.le; omega, by rw [k1]; exact o.so.sublist k4, by rw [k1]; exact ns, by rw [k1]; exact fun x hx y hy => o.fr x (k4.subset hx) y (k5.subset hy), fun z => ?_⟩, by rw [k6]⟩
    exact Classical.byContradiction fun w => h ⟨z, w⟩
theorem srt_last {rs hs : List Int} {j : Int} (h : Srt rs hs) (hj : hs.getLast? = some j) : ∀ x ∈ hs, x = j ∨ bef rs x j = true := by
  obtain ⟨ys, rfl⟩ := List.getLast?_eq_some_iff.mp hj
  intro x hx
  rcases List.mem_append.mp hx with z | z
  · exact .inr ((List.pairwise_append.mp h).2.2 x z j (List.mem_singleton.mpr rfl))
  · exact .inl (List.mem_singleton.mp z)
theorem POk.come (o : POk s) (hi : inR s.ranks i) (hn : i ∉ s.hung ++ s.book) : POk (s.come i) ∧ ((s.come i).hung ++ (s.come i).book).Perm (i :: (s.hung ++ s.book)) := by
  have nih : i ∉ s.hung := fun z => hn (List.mem_append_left _ z)
  have nib : i ∉ s.book := fun z => hn (List.mem_append_right _ z)
  have cns : ∀ {l : List Int}, l.Perm (i :: (s.hung ++ s.book)) → Lns s.ranks.length l := fun p =>
    ⟨p.nodup_iff.mpr (List.nodup_cons.mpr ⟨hn, o.ns.1⟩), fun x hx => (List.mem_cons.mp (p.mem_iff.mp hx)).elim (fun z => z ▸ hi) (o.ns.2 x)⟩
  unfold PSt.come
  by_cases hp : s.press i = true
  · rw [if_pos hp]
    unfold PSt.press at hp
    by_cases hm : (s.hung.length : Int) = s.many
    · have hne : s.hung ≠ [] := fun z => by
        rw [z] at hm
        have := o.m0
        simp at hm
        omega
      obtain ⟨j, hj, mj⟩ := last_of hne
      obtain ⟨hs, eh⟩ := List.getLast?_eq_some_iff.mp hj
      have hl : bef s.ranks i j = true := by
        have h2 : decide ((s.hung.length : Int) < s.many) = false := decide_eq_false (by omega)
        rw [h2, Bool.and_false, Bool.or_false] at hp
        unfold lastBef at hp
        rwa [hj] at hp
      have ey : s.tick.yield = { s.tick with hung := hs, book := s.book ++ [j] } := by
        unfold PSt.yield
        rw [if_pos (show (s.tick.hung.length : Int) = s.tick.many from hm)]
        show { s.tick with hung := s.hung.dropLast, book := s.book ++ s.hung.getLast?.toList } = _
        rw [hj, eh, List.dropLast_concat]
        rfl
      rw [ey]
      have nis : i ∉ hs := fun z => nih (eh ▸ List.mem_append_left _ z)
      have pm : (inOrd s.ranks (hs ++ [i]) ++ (s.book ++ [j])).Perm (i :: (s.hung ++ s.book)) := by
        refine ((inOrd_perm _ _).append_right _).trans ?_
        rw [eh]
        refine List.perm_iff_count.mpr fun a => ?_
        simp only [List.count_append, List.count_cons, List.count_nil]
        omega
      have so : Srt s.ranks hs := (eh ▸ o.so : Srt s.ranks (hs ++ [j])).sublist (List.sublist_append_left _ _)
      have hsj : ∀ x ∈ hs, bef s.ranks x j = true := fun x hx => (List.pairwise_append.mp (eh ▸ o.so : Srt s.ranks (hs ++ [j]))).2.2 x hx j (List.mem_singleton.mpr rfl)
      refine ⟨⟨o.m0, o.m1, o.nr, ?_, inOrd_bef ?_, cns pm, fun x hx y hy => ?_, fun z => ?_⟩, pm⟩
      · show ((inOrd s.ranks (hs ++ [i])).length : Int) ≤ s.many
        rw [inOrd_len]
        rw [eh] at hm
        simp only [List.length_append, List.length_singleton] at *
        omega
      · exact List.nodup_append.mpr ⟨srt_nd so, by simp, fun x hx y hy e => nis (by rw [← List.mem_singleton.mp hy, ← e]; exact hx)⟩
      · have xj : bef s.ranks x j = true := by
          rcases List.mem_append.mp (inOrd_mem.mp hx) with z | z
          · exact hsj x z
          · rw [List.mem_singleton.mp z]; exact hl
        rcases List.mem_append.mp hy with z | z
        · exact bef_tr xj (o.fr j mj y z)
        · rw [List.mem_singleton.mp z]; exact xj
      · have : (inOrd s.ranks (hs ++ [i])).length = 0 := congrArg List.length z
        rw [inOrd_len, List.length_append, List.length_singleton] at this
        omega
    · have ey : s.tick.yield = s.tick := by
        unfold PSt.yield
        rw [if_neg (show ¬ (s.tick.hung.length : Int) = s.tick.many from hm)]
      rw [ey]
      have pm : (inOrd s.ranks (s.hung ++ [i]) ++ s.book).Perm (i :: (s.hung ++ s.book)) := by
        refine ((inOrd_perm _ _).append_right _).trans (List.perm_iff_count.mpr fun a => ?_)
        simp only [List.count_append, List.count_cons, List.count_nil]
        omega
      refine ⟨⟨o.m0, o.m1, o.nr, ?_, inOrd_bef ?_, cns pm, fun x hx y hy => ?_, fun z => ?_⟩, pm⟩
      · show ((inOrd s.ranks (s.hung ++ [i])).length : Int) ≤ s.many
        have := o.le
        rw [inOrd_len, List.length_append, List.length_singleton]
        omega
      · exact List.nodup_append.mpr ⟨srt_nd o.so, by simp, fun x hx y hy e => nih (by rw [← List.mem_singleton.mp hy, ← e]; exact hx)⟩
      · have hy : y ∈ s.book := hy
        rcases List.mem_append.mp (inOrd_mem.mp hx) with z | z
        · exact o.fr x z y hy
        · rw [List.mem_singleton.mp z]
          rcases Bool.or_eq_true_iff.mp hp with w | w
          · unfold lastBef at w
            cases hj : s.hung.getLast? with
            | none => rw [hj] at w; cases w
            | some j =>
              rw [hj] at w
              exact bef_tr w (o.fr j (List.mem_of_getLast? hj) y hy)
          · have := of_decide_eq_true (Bool.and_eq_true_iff.mp w).1
            rw [this] at hy
            cases hy
      · have : (inOrd s.ranks (s.hung ++ [i])).length = 0 := congrArg List.length z
        rw [inOrd_len, List.length_append, List.length_singleton] at this
        omega
  · rw [if_neg hp]
    unfold PSt.press at hp
    have hp := Bool.or_eq_false_iff.mp (by simpa using hp : (lastBef s.ranks s.hung i || (decide (s.book = []) && decide ((s.hung.length : Int) < s.many))) = false)
    have hne : s.hung ≠ [] := fun z => by
      have b0 := o.ne z
      have := o.m0
      rw [z, b0] at hp
      have q := hp.2
      simp at q
      omega
    obtain ⟨j, hj, mj⟩ := last_of hne
    have hji : bef s.ranks j i = true := by
      have w := hp.1
      unfold lastBef at w
      rw [hj] at w
      refine (bef_tot (fun e : j = i => nih (e ▸ mj))).resolve_right fun z => ?_
      have w : bef s.ranks i j = false := w
      rw [z] at w
      cases w
    have pm : (s.hung ++ (s.book ++ [i])).Perm (i :: (s.hung ++ s.book)) := List.perm_iff_count.mpr fun a => by
      simp only [List.count_append, List.count_cons, List.count_nil]
      omega
    refine ⟨⟨o.m0, o.m1, o.nr, o.le, o.so, cns pm, fun x hx y hy => ?_, fun z => (hne z).elim⟩, pm⟩
    have hx : x ∈ s.hung := hx
    rcases List.mem_append.mp hy with z | z
    · exact o.fr x hx y z
    · rw [List.mem_singleton.mp z]
      rcases srt_last o.so hj x hx with w | w
      · rw [w]; exact hji
      · exact bef_tr w hji
theorem go_rm : (s.go i).ranks = s.ranks ∧ (s.go i).many = s.many := by
  have key : (s.drop i).ranks = s.ranks ∧ (s.drop i).many = s.many := by unfold PSt.drop; split <;> exact ⟨rfl, rfl⟩
  unfold PSt.go
  split
  · exact key
  · exact key
theorem come_rm : (s.come i).ranks = s.ranks ∧ (s.come i).many = s.many := by
  unfold PSt.come
  split
  · show s.tick.yield.ranks = s.ranks ∧ s.tick.yield.many = s.many
    unfold PSt.yield
    split <;> exact ⟨rfl, rfl⟩
  · exact ⟨rfl, rfl⟩
end
end Fp

namespace Fp
open PySem PySem.Spec PyProof.Rows L2 LamX
theorem nameI {i : Nat} {x : V} {σ : L2.St} {H : Hp} {k : L2.St → Hp → Prop} (h : k (σ.set i (some x)) H) : gName i x σ H k := h
/-! ### parts of a heap, and who owns them -/
open Classical in
/-- the heap at the places of S alone -/
noncomputable def res (H : Hp) (S : Addr → Prop) : Hp := fun x => if S x then H x else none
section
variable {T : List (Addr × Str)} {K : PySem.W.Frag} {H H' H0 H1 : Hp} {S S' S1 : Addr → Prop} {a x : Addr} {o : HO} {xs : List V} {v : V} {d : PyData} {s : PSt}
theorem res_at (h : S x) : res H S x = H x := if_pos h
theorem res_of (h : res H S x = some o) : S x ∧ H x = some o := by
  unfold res at h
  split at h
  · exact ⟨‹_›, h⟩
  · cases h
/-- each datum of H stands in H' -/
def Sub (H H' : Hp) : Prop := ∀ x o, H x = some o → dat o = true → H' x = some o
theorem Sub.rd (m : Sub H H') (h : Rd H a o) (e : dat o = true) : Rd H' a o := by
  rcases h with h | ⟨w, h⟩
  · exact .inl (m a _ h e)
  · exact .inr ⟨w, m a _ h rfl⟩
theorem Sub.l (m : Sub H H') (h : SqL K H a xs) : SqL K H' a xs := h.elim (fun h => .inl (m.rd h rfl)) .inr
theorem Sub.t (m : Sub H H') (h : SqT K H a xs) : SqT K H' a xs := h.elim (fun h => .inl (m.rd h rfl)) .inr
theorem Sub.dp (m : Sub H H') (h : Dp K H v d) : Dp K H' v d := Dp.mv (fun _ _ => m.l) (fun _ _ => m.t) h
theorem Sub.dps {vs : List V} {ds : List PyData} (m : Sub H H') (h : DpAll K H vs ds) : DpAll K H' vs ds := DpAll.mv (fun _ _ => m.l) (fun _ _ => m.t) h
theorem Sub.refl : Sub H H := fun _ _ h _ => h
theorem res_sub : Sub (res H S) H := fun _ _ h _ => (res_of h).2
theorem Mv.sub (m : Mv T no H H') : Sub H H' := fun _ _ h e => m.at h e
theorem nod.not (h : H x = some o) (e : dat o = true) : ¬ nod H x := fun n => by
  rw [n o h] at e
  cases e
/-- what S owned is S''s, behind a change of S1 -/
theorem Mv.sub2 (m : Mv T S1 H H') (h1 : ∀ x, S x → ¬ S1 x) (h2 : ∀ x, S x → ¬ Fp.nod H x → S' x) : Sub (res H S) (res H' S') := fun y o h e => by
  obtain ⟨sy, hy⟩ := res_of h
  rw [res_at (h2 y sy (nod.not hy e))]
  exact m.kp y o hy e (h1 y sy)
/-- data wholly at places that were free of data in H0 -/
def FrD (K : PySem.W.Frag) (H0 H : Hp) (v : V) (d : PyData) : Prop := Dp K (res H (nod H0)) v d
theorem FrD.dp (h : FrD K H0 H v d) : Dp K H v d := res_sub.dp h
theorem FrD.ex (h : FrD K H0 H v d) (e : Ex T H H') : FrD K H0 H' v d := Sub.dp (fun y o h z => by
  obtain ⟨sy, hy⟩ := res_of h
  rw [res_at sy]
  exact e.at hy z) h
theorem FrD.back (h : FrD K H1 H v d) (e : Mv T S H0 H1) : FrD K H0 H v d := Sub.dp (fun y o h z => by
  obtain ⟨sy, hy⟩ := res_of h
  rw [res_at (e.dm y sy)]
  exact hy) h
/-- kept behind a change of what is not fresh -/
theorem FrD.mv (h : FrD K H0 H v d) (m : Mv T S H H') (n : ∀ x, nod H0 x → ¬ S x) : FrD K H0 H' v d := Sub.dp (fun y o h z => by
  obtain ⟨sy, hy⟩ := res_of h
  rw [res_at sy]
  exact m.kp y o hy z (n y sy)) h
theorem newL.fr {ns : List Int} (h : newL (ns.map V.int) H v H') : FrD K H H' v (dI ns) := by
  obtain ⟨p, rfl, np, hp⟩ := h
  exact dp_n (by rw [res_at np]; exact hp)
/-- pegs behind a change of another owner's -/
theorem PegO.go (O : PegO K H a s S) (m : Mv T S1 H H') (h1 : ∀ x, S x → ¬ S1 x) (h2 : ∀ x, S x → ¬ nod H x → S' x) : PegO K H' a s S' := by
  obtain ⟨⟨dx, r, h, b, A, sa, sr, sh, sb⟩, pc, wf⟩ := O
  exact ⟨⟨dx, r, h, b, A.mv m (h1 _ sa) (h1 _ sr) (h1 _ sh) (h1 _ sb), h2 _ sa (nod.not A.at_ rfl), h2 _ sr (nod.not A.rk rfl), h2 _ sh (nod.not A.hg rfl), h2 _ sb (nod.not A.bk rfl)⟩, pc, wf⟩
end
section
variable {T : List (Addr × Str)} {K : PySem.W.Frag} {σ : L2.St} {H H0 : Hp} {te ta tb t1 t2 t3 : TE} {v z : V} {R : Hp → V → Hp → Prop} {D : Ends} {u : TS} {sp : Sp} {E : XK}
theorem q_setL {l : Addr} {xs : List V} {i : Int} {j : Nat} (e : Ex T H0 H) (hl : H l = some (.lst xs)) (h : Ev T te σ H0 v) (ho : Ev T ta σ H0 (.ref l)) (hi : Ev T tb σ H0 (.int i)) (hj : ixN xs.length i = some j) (k : ∀ H1, Ex T H0 H1 → Ex T H H1 → u D σ (upd H1 l (.lst (xs.set j v)))) :
    tSeq (tAsg te (gSub ta tb rSetL)) u D σ H := s_setL (D := { D with nx := u D }) e hl h ho hi hj k
/-- xs[i] = e, e told by a relation -/
theorem q_setLR {l : Addr} {xs : List V} {i : Int} {j : Nat} (e : Ex T H0 H) (hl : H l = some (.lst xs)) (h : EvR T te σ H0 R) (ho : Ev T ta σ H0 (.ref l)) (hi : Ev T tb σ H0 (.int i)) (hj : ixN xs.length i = some j) (k : ∀ w H1 H2, Ex T H0 H1 → Ex T H H1 → R H w H1 → Ex T H1 H2 → u D σ (upd H2 l (.lst (xs.set j w)))) :
    tSeq (tAsg te (gSub ta tb rSetL)) u D σ H := h H e _ fun w H1 e1 r => ho H1 (e.trans e1) _ fun H2 e2 => hi H2 ((e.trans e1).trans e2) _ fun H3 e3 =>
  ⟨l, xs, i, j, rfl, rfl, e3.at (e2.at (e1.at hl)), hj, k w H1 H3 (e.trans e1) e1 r (e2.trans e3)⟩
/-- f(a, b, xs.pop()), as a statement -/
theorem s_callPop {x y : V} {l2 : Addr} {ys : List V} (e : Ex T H0 H) (h1 : Ev T t1 σ H0 x) (h2 : Ev T t2 σ H0 y) (hb : Ev T tb σ H0 (.ref l2)) (hl : H l2 = some (.lst ys)) (hz : ys.getLast? = some z) (k : ∀ H1, Ex T H H1 → sp [x, y, z] (upd H1 l2 (.lst ys.dropLast)) (fun _ H' => D.nx σ H') E) :
    tDrop (tCall sp [] E (tCons t1 (tCons t2 (tCons (tBM0 K "list" rPop tb) tNil)))) D σ H := h1 H e _ fun H1 e1 => h2 H1 (e.trans e1) _ fun H2 e2 => hb H2 ((e.trans e1).trans e2) _ fun H3 e3 =>
  have e13 := (e1.trans e2).trans e3
  ⟨.inl ⟨rfl, ys, .inl (.inl (e13.at hl))⟩, l2, ys, z, rfl, rfl, e13.at hl, by rw [← List.getLast?_eq_getElem?]; exact hz, by
    show sp ([x, y, z] ++ []) _ _ _
    rw [List.append_nil]
    exact k H3 e13⟩
/-- three new lists in a new list -/
theorem er_trip {xs ys zs : List V} (h1 : EvL T t1 σ H xs) (h2 : EvL T t2 σ H ys) (h3 : EvL T t3 σ H zs) : EvR T (tLst (tCons t1 (tCons t2 (tCons t3 tNil)))) σ H (fun H1 v H2 => ∃ p a b c, v = .ref p ∧ nod H1 p ∧ nod H1 a ∧ nod H1 b ∧ nod H1 c ∧ H2 p = some (.lst [.ref a, .ref b, .ref c]) ∧ H2 a = some (.lst xs) ∧ H2 b = some (.lst ys) ∧ H2 c = some (.lst zs) ∧
    a ≠ p ∧ b ≠ p ∧ c ≠ p ∧ a ≠ b ∧ a ≠ c ∧ b ≠ c) := fun H1 e Q q =>
  h1 H1 e _ fun v H2 e2 ⟨a, ea, na, ha⟩ => by
    subst ea
    exact h2 H2 (e.trans e2) _ fun w H3 e3 ⟨b, eb, nb, hb⟩ => by
      subst eb
      exact h3 H3 ((e.trans e2).trans e3) _ fun w H4 e4 ⟨c, ec, nc, hc⟩ => by
        subst ec
        refine ⟨sz (by simp), fun p hp => ?_⟩
        have e5 : Ex T H4 (upd H4 p (.lst [.ref a, .ref b, .ref c])) := Mv.new hp
        have np : nod H4 p := .of hp
        exact q _ _ (((e2.trans e3).trans e4).trans e5) ⟨p, a, b, c, rfl, ((e2.trans e3).trans e4).nod hp, na, e2.dm b nb, (e2.trans e3).dm c nc, upd_same, e5.at (e4.at (e3.at ha)), e5.at (e4.at hb), e5.at hc,
          np.ne (e4.at (e3.at ha)), np.ne (e4.at hb), np.ne hc, nb.ne ha, nc.ne (e3.at ha), nc.ne hb⟩
theorem er_pair2 {xs ys : List V} (h1 : EvL T t1 σ H xs) (h2 : EvL T t2 σ H ys) : EvR T (tLst (tCons t1 (tCons t2 tNil))) σ H (fun H1 v H2 => ∃ p a b, v = .ref p ∧ nod H1 p ∧ nod H1 a ∧ nod H1 b ∧ H2 p = some (.lst [.ref a, .ref b]) ∧ H2 a = some (.lst xs) ∧ H2 b = some (.lst ys) ∧ a ≠ p ∧ b ≠ p ∧ a ≠ b) := fun H1 e Q q =>
  h1 H1 e _ fun v H2 e2 ⟨a, ea, na, ha⟩ => by
    subst ea
    exact h2 H2 (e.trans e2) _ fun w H3 e3 ⟨b, eb, nb, hb⟩ => by
      subst eb
      refine ⟨sz (by simp), fun p hp => ?_⟩
      have e4 : Ex T H3 (upd H3 p (.lst [.ref a, .ref b])) := Mv.new hp
      have np : nod H3 p := .of hp
      exact q _ _ ((e2.trans e3).trans e4) ⟨p, a, b, rfl, (e2.trans e3).nod hp, na, e2.dm b nb, upd_same, e4.at (e3.at ha), e4.at hb, np.ne (e3.at ha), np.ne hb, nb.ne ha⟩
theorem rc_min2 {i j : Int} : RC T rMin2 [.int i, .int j] H (.int (if j < i then j else i)) := fun H1 _ _ q => ⟨i, j, rfl, q H1 Mv.refl⟩
theorem q_call {t : TA} {vs : List V} (e : Ex T H0 H) (h : EvA T t σ H0 vs) (k : ∀ H1, Ex T H0 H1 → Ex T H H1 → sp vs H1 (fun _ H' => u D σ H') E) : tSeq (tDrop (tCall sp [] E t)) u D σ H := s_call (D := { D with nx := u D }) e h k
/-- if not f(..): where f changes things -/
theorem q_ifCall {t : TA} {vs : List V} {tu tw : TS} (e : Ex T H0 H) (h : EvA T t σ H0 vs) (k : ∀ H1, Ex T H0 H1 → Ex T H H1 → sp vs H1 (fun v H' => ∃ b, v = .bl b ∧ if (!b) = true then tu { D with nx := u D } σ H' else tw { D with nx := u D } σ H') E) : tSeq (tIfS (tNot (tB (tCall sp [] E t))) tu tw) u D σ H := h H e _ fun H2 e2 => by
  rw [List.append_nil]
  exact k H2 (e.trans e2) e2
theorem q_ifOrCall {t : TA} {vs : List V} {tu tw : TS} {tc : TT} (e : Ex T H0 H) (hc : EvT T tc σ H0 false) (h : EvA T t σ H0 vs) (k : ∀ H1, Ex T H0 H1 → Ex T H H1 → sp vs H1 (fun v H' => ∃ b, v = .bl b ∧ if (!b) = true then tu { D with nx := u D } σ H' else tw { D with nx := u D } σ H') E) : tSeq (tIfS (tOr tc (tNot (tB (tCall sp [] E t)))) tu tw) u D σ H := hc H e _ fun H1 e1 => h H1 (e.trans e1) _ fun H2 e2 => by
  rw [List.append_nil]
  exact k H2 ((e.trans e1).trans e2) (e1.trans e2)
end
end Fp

namespace Fp
open PySem PySem.Spec PyProof.Rows L2 LamX
theorem s_while {T : List (Addr × Str)} {c : TT} {tb : TS} {D : Ends} {σ : L2.St} {H : Hp} (n : Nat) (Pv : Nat → L2.St → Hp → Prop) (h0 : Pv 0 σ H)
    (hs : ∀ i σ' H', Pv i σ' H' → ∃ b, EvT T c σ' H' b ∧ (b = true → i < n ∧ ∀ H1, Ex T H' H1 → tb { D with nx := Pv (i + 1), ct := Pv (i + 1), bk := D.nx } σ' H1) ∧ (b = false → ∀ H1, Ex T H' H1 → D.nx σ' H1)) : tWhile c tb D σ H := by
  refine ⟨fun m σ H => ∃ i, m = n - i ∧ Pv i σ H, ⟨n, 0, rfl, h0⟩, ?_⟩
  rintro m σ' H' ⟨i, rfl, p⟩
  obtain ⟨b, ev, h1, h2⟩ := hs i σ' H' p
  refine ev H' Mv.refl _ fun H1 e1 => ?_
  cases b with
  | true =>
    obtain ⟨hi, q⟩ := h1 rfl
    rw [if_pos rfl]
    exact ⟨Pv (i + 1), fun σ2 H2 p2 => ⟨n - (i + 1), by omega, i + 1, rfl, p2⟩, q H1 e1⟩
  | false =>
    rw [if_neg (fun z => nomatch z)]
    exact h2 rfl H1 e1
/-! ### the law's own two lists -/
structure StA (K : PySem.W.Frag) (H : Hp) (a h w c : Addr) (s : PSt) : Prop where
  at_ : H a = some (.lst [.ref h, .ref w, .ref c])
  hg : H h = some (.lst (s.hung.map V.int))
  wt : H w = some (.lst ((inOrd s.ranks s.book).map V.int))
  ct : H c = some (.lst ([s.came, s.laid, s.calls].map V.int))
  ah : h ≠ a
  aw : w ≠ a
  ac : c ≠ a
  hw : h ≠ w
  hc : h ≠ c
  wc : w ≠ c
structure StO (K : PySem.W.Frag) (H : Hp) (a : Addr) (s : PSt) (S : Addr → Prop) : Prop where
  ex : ∃ h w c, StA K H a h w c s ∧ S a ∧ S h ∧ S w ∧ S c
section
variable {T : List (Addr × Str)} {K : PySem.W.Frag} {H H' : Hp} {a h w c q : Addr} {s : PSt} {S S' S1 : Addr → Prop}
theorem StA.mv (A : StA K H a h w c s) (m : Mv T S H H') (sa : ¬ S a) (sh : ¬ S h) (sw : ¬ S w) (sc : ¬ S c) : StA K H' a h w c s :=
  ⟨m.kp _ _ A.at_ rfl sa, m.kp _ _ A.hg rfl sh, m.kp _ _ A.wt rfl sw, m.kp _ _ A.ct rfl sc, A.ah, A.aw, A.ac, A.hw, A.hc, A.wc⟩
theorem StA.ex (A : StA K H a h w c s) (e : Ex T H H') : StA K H' a h w c s := A.mv e id id id id
theorem StO.ex' (O : StO K H a s S) (e : Ex T H H') : StO K H' a s S := by
  obtain ⟨h, w, c, A, z⟩ := O.ex
  exact ⟨h, w, c, A.ex e, z⟩
theorem StO.go (O : StO K H a s S) (m : Mv T S1 H H') (h1 : ∀ x, S x → ¬ S1 x) (h2 : ∀ x, S x → ¬ nod H x → S' x) : StO K H' a s S' := by
  obtain ⟨h, w, c, A, sa, sh, sw, sc⟩ := O.ex
  exact ⟨h, w, c, A.mv m (h1 _ sa) (h1 _ sh) (h1 _ sw) (h1 _ sc), h2 _ sa (nod.not A.at_ rfl), h2 _ sh (nod.not A.hg rfl), h2 _ sw (nod.not A.wt rfl), h2 _ sc (nod.not A.ct rfl)⟩
theorem StA.l0 (A : StA K H a h w c s) : SqL K H a [.ref h, .ref w, .ref c] := .inl (.inl A.at_)
theorem StA.lh (A : StA K H a h w c s) : SqL K H h (s.hung.map V.int) := .inl (.inl A.hg)
theorem StA.lw (A : StA K H a h w c s) : SqL K H w ((inOrd s.ranks s.book).map V.int) := .inl (.inl A.wt)
theorem StA.lc (A : StA K H a h w c s) : SqL K H c ([s.came, s.laid, s.calls].map V.int) := .inl (.inl A.ct)
theorem StA.putH {xs : List Int} {s' : PSt} (A : StA K H a h w c s) (e : s' = { s with hung := xs }) : StA K (upd H h (.lst (xs.map V.int))) a h w c s' := by
  subst e
  exact ⟨by rw [upd_ne (Ne.symm A.ah)]; exact A.at_, upd_same, by rw [upd_ne (Ne.symm A.hw)]; exact A.wt, by rw [upd_ne (Ne.symm A.hc)]; exact A.ct, A.ah, A.aw, A.ac, A.hw, A.hc, A.wc⟩
theorem StA.putW {xs ys : List Int} (A : StA K H a h w c s) (e : xs = inOrd s.ranks ys) : StA K (upd H w (.lst (xs.map V.int))) a h w c { s with book := ys } := by
  subst e
  exact ⟨by rw [upd_ne (Ne.symm A.aw)]; exact A.at_, by rw [upd_ne A.hw]; exact A.hg, upd_same, by rw [upd_ne (Ne.symm A.wc)]; exact A.ct, A.ah, A.aw, A.ac, A.hw, A.hc, A.wc⟩
theorem StA.putC {x y z : Int} (A : StA K H a h w c s) : StA K (upd H c (.lst [.int x, .int y, .int z])) a h w c { s with came := x, laid := y, calls := z } :=
  ⟨by rw [upd_ne (Ne.symm A.ac)]; exact A.at_, by rw [upd_ne A.hc]; exact A.hg, by rw [upd_ne A.wc]; exact A.wt, upd_same, A.ah, A.aw, A.ac, A.hw, A.hc, A.wc⟩
theorem StA.newH {xs : List Int} (A : StA K H a h w c s) (hq : H q = some (.lst (xs.map V.int))) (n0 : q ≠ a) (n1 : q ≠ w) (n2 : q ≠ c) : StA K (upd H a (.lst [.ref q, .ref w, .ref c])) a q w c { s with hung := xs } :=
  ⟨upd_same, by rw [upd_ne n0]; exact hq, by rw [upd_ne A.aw]; exact A.wt, by rw [upd_ne A.ac]; exact A.ct, n0, A.aw, A.ac, n1, n2, A.wc⟩
theorem StA.newW {xs ys : List Int} (A : StA K H a h w c s) (hq : H q = some (.lst (xs.map V.int))) (e : xs = inOrd s.ranks ys) (n0 : q ≠ a) (n1 : h ≠ q) (n2 : q ≠ c) : StA K (upd H a (.lst [.ref h, .ref q, .ref c])) a h q c { s with book := ys } := by
  subst e
  exact ⟨upd_same, by rw [upd_ne A.ah]; exact A.hg, by rw [upd_ne n0]; exact hq, by rw [upd_ne A.ac]; exact A.ct, A.ah, n0, A.ac, n1, A.hc, n2⟩
end
def newSt (K : PySem.W.Frag) (s : PSt) : Hp → V → Hp → Prop := fun H v H' => ∃ a, v = .ref a ∧ StO K H' a s (nod H)
def MutS (K : PySem.W.Frag) (T : List (Addr × Str)) (H : Hp) (a : Addr) (S : Addr → Prop) (s' : PSt) (Q : VK) : Prop := ∀ H' S', Mv T S H H' → StO K H' a s' S' → (∀ x, S' x → S x ∨ nod H x) → Q .non H'
def sp_l_comes (K : PySem.W.Frag) (T : List (Addr × Str)) : Sp := sp_before K T
def sp_l_put (K : PySem.W.Frag) (T : List (Addr × Str)) : Sp := fun vs H Q _ => ∃ r p i rs xs, vs = [.ref r, .ref p, .int i] ∧ SqL K H r (List.map V.int rs) ∧ H p = some (.lst (List.map V.int xs)) ∧ inR rs i ∧ (∀ x ∈ xs, inR rs x) ∧ List.length xs ≤ 1000 ∧ ∀ H', Mv T (fun b => b = p) H H' → H' p = some (.lst (List.map V.int (putI rs xs i))) → Q .non H'
def sp_l_some (_K : PySem.W.Frag) (T : List (Addr × Str)) : Sp := fun vs H Q _ => ∃ c, ∃ n : Nat, vs = [.int c, .int n] ∧ n ≤ 60 ∧ ∀ v H', Ex T H H' → newLns n H v H' → Q v H'
def sp_l_made (K : PySem.W.Frag) (T : List (Addr × Str)) : Sp := fun vs H Q _ => ∃ r m l rs ls, vs = [.ref r, .int m, .ref l] ∧ 1 ≤ m ∧ m ≤ 16 ∧ SqL K H r (List.map V.int rs) ∧ SqL K H l (List.map V.int ls) ∧ Lns (List.length rs) ls ∧ List.length rs ≤ 60 ∧ ∀ v H', Ex T H H' → newSt K (.make rs m ls) H v H' → Q v H'
def sp_l_come (K : PySem.W.Frag) (T : List (Addr × Str)) : Sp := fun vs H Q _ => ∃ r a i s S, vs = [.ref r, .int s.many, .ref a, .int i] ∧ SqL K H r (List.map V.int s.ranks) ∧ ¬ S r ∧ StO K H a s S ∧ POk s ∧ inR s.ranks i ∧ i ∉ s.hung ++ s.book ∧ MutS K T H a S (s.come i) Q
def sp_l_go (K : PySem.W.Frag) (T : List (Addr × Str)) : Sp := fun vs H Q _ => ∃ a i s S, vs = [.int s.many, .ref a, .int i] ∧ StO K H a s S ∧ POk s ∧ (i ∈ s.hung ∨ i ∈ s.book) ∧ MutS K T H a S (s.go i) Q
def sp_l_line (K : PySem.W.Frag) (T : List (Addr × Str)) : Sp := fun vs H Q _ => ∃ c p ns, ∃ n : Nat, vs = [.int c, .int n, .ref p] ∧ H p = some (.lst (List.map V.int ns)) ∧ (∀ x ∈ ns, 0 ≤ x ∧ x < (n : Int)) ∧ 1 ≤ n ∧ ∀ i H', Ex T H H' → 0 ≤ i ∧ i < (n : Int) → Q (.int i) H'
/-- what is held of one look: two lists -/
def itD (d : List Int × List Int) : PyData := .list [dI d.1, dI d.2]
def sp_l_shows (K : PySem.W.Frag) (T : List (Addr × Str)) : Sp := fun vs H Q _ => ∃ a b p s S S2 rs, vs = [.ref a, .ref b, .ref p] ∧ PegO K H a s S ∧ StO K H b s S2 ∧ POk s ∧ Tabs T H ∧ H p = some (.lst rs) ∧ List.length rs ≤ 100 ∧ ¬ S2 p ∧
  ∀ H' x d, Mv T (fun b => b = p) H H' → H' p = some (.lst (rs ++ [.ref x])) → FrD K H H' (.ref x) (itD d) → (∃ y z, H' x = some (.lst [.ref y, .ref z]) ∧ H' y = some (.lst (List.map V.int d.1)) ∧ H' z = some (.lst (List.map V.int d.2))) → Q (.bl true) H'
theorem len_l_comes {K : PySem.W.Frag} {T : List (Addr × Str)} : ∀ vs H Q E, sp_l_comes K T vs H Q E → vs.length = 3 := fun vs H Q E h => by
  obtain ⟨_, _, _, _, rfl, _⟩ := h
  exact rfl
theorem len_l_put {K : PySem.W.Frag} {T : List (Addr × Str)} : ∀ vs H Q E, sp_l_put K T vs H Q E → vs.length = 3 := fun vs H Q E h => by
  obtain ⟨_, _, _, _, _, rfl, _⟩ := h
  exact rfl
theorem len_l_some {K : PySem.W.Frag} {T : List (Addr × Str)} : ∀ vs H Q E, sp_l_some K T vs H Q E → vs.length = 2 := fun vs H Q E h => by
  obtain ⟨_, _, rfl, _⟩ := h
  exact rfl
theorem len_l_made {K : PySem.W.Frag} {T : List (Addr × Str)} : ∀ vs H Q E, sp_l_made K T vs H Q E → vs.length = 3 := fun vs H Q E h => by
  obtain ⟨_, _, _, _, _, rfl, _⟩ := h
  exact rfl
theorem len_l_come {K : PySem.W.Frag} {T : List (Addr × Str)} : ∀ vs H Q E, sp_l_come K T vs H Q E → vs.length = 4 := fun vs H Q E h => by
  obtain ⟨_, _, _, _, _, rfl, _⟩ := h
  exact rfl
theorem len_l_go {K : PySem.W.Frag} {T : List (Addr × Str)} : ∀ vs H Q E, sp_l_go K T vs H Q E → vs.length = 3 := fun vs H Q E h => by
  obtain ⟨_, _, _, _, rfl, _⟩ := h
  exact rfl
theorem len_l_line {K : PySem.W.Frag} {T : List (Addr × Str)} : ∀ vs H Q E, sp_l_line K T vs H Q E → vs.length = 3 := fun vs H Q E h => by
  obtain ⟨_, _, _, _, rfl, _⟩ := h
  exact rfl
theorem len_l_shows {K : PySem.W.Frag} {T : List (Addr × Str)} : ∀ vs H Q E, sp_l_shows K T vs H Q E → vs.length = 3 := fun vs H Q E h => by
  obtain ⟨_, _, _, _, _, _, _, rfl, _⟩ := h
  exact rfl
def r_l_comes (K : PySem.W.Frag) (T : List (Addr × Str)) : TS :=
  (tRet (tOrV (tOp oLt (tOp (rIxL K) (tVar 0) (tVar 1)) (tOp (rIxL K) (tVar 0) (tVar 2))) (tAndV (tOp rEq (tOp (rIxL K) (tVar 0) (tVar 1)) (tOp (rIxL K) (tVar 0) (tVar 2))) (tOp oLt (tVar 1) (tVar 2)))))
def r_l_put (K : PySem.W.Frag) (T : List (Addr × Str)) : TS :=
  (tSeq (tAsg (tC (.int 0)) (gName 3))
  (tSeq (tWhile (tAnd (tTest (tOp oLt (tVar 3) (tCB (rLen K) (tCons (tVar 1) tNil)))) (tB (tCall (sp_l_comes K T) [] E0 (tCons (tVar 0) (tCons (tOp (rIxL K) (tVar 1) (tVar 3)) (tCons (tVar 2) tNil)))))) (tAsg (tOp oAdd (tVar 3) (tC (.int 1))) (gName 3)))
  (tDrop (tBM K "list" rInsert (tVar 1) (tCons (tVar 3) (tCons (tVar 2) tNil))))))
def r_l_some (K : PySem.W.Frag) (T : List (Addr × Str)) : TS :=
  (tSeq (tAsg (tLst tNil) (gName 2))
  (tSeq (tFor (iRng1 (tCons (tVar 1) tNil)) (gName 3) (tSeq (tAsg (tOp oMod (tOp oMul (tOp oAdd (tOp oAdd (tOp oMod (tOp oDiv (tVar 0) (tC (.int 4))) (tC (.int 1000003))) (tOp oMul (tOp oMul (tC (.int 31)) (tVar 3)) (tVar 3))) (tC (.int 7))) (tC (.int 69621))) (tC (.int 2147483587))) (gName 4))
  (tSeq (tAsg (tOp oMod (tOp oMul (tVar 4) (tVar 4)) (tC (.int 2147483629))) (gName 4))
  (tIfS (tTest (tOp oLt (tOp oMod (tVar 4) (tC (.int 4))) (tOp oMod (tVar 0) (tC (.int 4))))) (tDrop (tBM K "list" rInsert (tVar 2) (tCons (tOp oMod (tOp oDiv (tVar 4) (tC (.int 4))) (tOp oAdd (tCB (rLen K) (tCons (tVar 2) tNil)) (tC (.int 1)))) (tCons (tVar 3) tNil)))) tNext))))
  (tRet (tVar 2))))
def r_l_made (K : PySem.W.Frag) (T : List (Addr × Str)) : TS :=
  (tSeq (tAsg (tLst tNil) (gName 3))
  (tSeq (tFor (iList K (tVar 2)) (gName 4) (tDrop (tCall (sp_l_put K T) [] E0 (tCons (tVar 0) (tCons (tVar 3) (tCons (tVar 4) tNil))))))
  (tRet (tLst (tCons (tSl (rSlL K) (tVar 3) tNoPart (tPart (tVar 1))) (tCons (tSl (rSlL K) (tVar 3) (tPart (tVar 1)) tNoPart) (tCons (tLst (tCons (tCB (rLen K) (tCons (tVar 3) tNil)) (tCons (tCB rMin2 (tCons (tVar 1) (tCons (tCB (rLen K) (tCons (tVar 3) tNil)) tNil))) (tCons (tC (.int 0)) tNil)))) tNil)))))))
def r_l_come (K : PySem.W.Frag) (T : List (Addr × Str)) : TS :=
  (tSeq (tAsg (tOp (rIxL K) (tVar 2) (tC (.int 0))) (gName 4))
  (tSeq (tAsg (tOp oAdd (tOp (rIxL K) (tOp (rIxL K) (tVar 2) (tC (.int 2))) (tC (.int 0))) (tC (.int 1))) (gSub (tOp (rIxL K) (tVar 2) (tC (.int 2))) (tC (.int 0)) rSetL))
  (tSeq (tAsg (tAndV (tOp (rNeD K) (tVar 4) (tLst tNil)) (tCall (sp_l_comes K T) [] E0 (tCons (tVar 0) (tCons (tVar 3) (tCons (tOp (rIxL K) (tVar 4) (tUn (rU fun i => .int (-i)) (tC (.int 1)))) tNil))))) (gName 5))
  (tSeq (tIfS (tAnd (tNot (tB (tVar 5))) (tOr (tTest (tOp (rNeD K) (tOp (rIxL K) (tVar 2) (tC (.int 1))) (tLst tNil))) (tTest (tOp rEq (tCB (rLen K) (tCons (tVar 4) tNil)) (tVar 1))))) (tSeq (tDrop (tCall (sp_l_put K T) [] E0 (tCons (tVar 0) (tCons (tOp (rIxL K) (tVar 2) (tC (.int 1))) (tCons (tVar 3) tNil)))))
  tRetN) tNext)
  (Evl.tCut (tIfS (tTest (tOp rEq (tCB (rLen K) (tCons (tVar 4) tNil)) (tVar 1))) (tDrop (tCall (sp_l_put K T) [] E0 (tCons (tVar 0) (tCons (tOp (rIxL K) (tVar 2) (tC (.int 1))) (tCons (tBM0 K "list" rPop (tVar 4)) tNil))))) tNext)
  (tSeq (tDrop (tCall (sp_l_put K T) [] E0 (tCons (tVar 0) (tCons (tVar 4) (tCons (tVar 3) tNil)))))
  (tAsg (tOp oAdd (tOp (rIxL K) (tOp (rIxL K) (tVar 2) (tC (.int 2))) (tC (.int 1))) (tC (.int 1))) (gSub (tOp (rIxL K) (tVar 2) (tC (.int 2))) (tC (.int 1)) rSetL))))))))
def r_l_go (K : PySem.W.Frag) (T : List (Addr × Str)) : TS :=
  (Evl.tCut (tIfS (tTest (tOp (rIn K false) (tVar 2) (tOp (rIxL K) (tVar 1) (tC (.int 0))))) (tDrop (tBM K "list" rRemI (tOp (rIxL K) (tVar 1) (tC (.int 0))) (tCons (tVar 2) tNil))) (tDrop (tBM K "list" rRemI (tOp (rIxL K) (tVar 1) (tC (.int 1))) (tCons (tVar 2) tNil))))
  (tIfS (tAnd (tTest (tOp (rEqD K) (tOp (rIxL K) (tVar 1) (tC (.int 0))) (tLst tNil))) (tTest (tOp (rNeD K) (tOp (rIxL K) (tVar 1) (tC (.int 1))) (tLst tNil)))) (tSeq (tAsg (tSl (rSlL K) (tOp (rIxL K) (tVar 1) (tC (.int 1))) tNoPart (tPart (tVar 0))) (gSub (tVar 1) (tC (.int 0)) rSetL))
  (tSeq (tAsg (tSl (rSlL K) (tOp (rIxL K) (tVar 1) (tC (.int 1))) (tPart (tVar 0)) tNoPart) (gSub (tVar 1) (tC (.int 1)) rSetL))
  (tSeq (tAsg (tOp oAdd (tOp (rIxL K) (tOp (rIxL K) (tVar 1) (tC (.int 2))) (tC (.int 1))) (tCB (rLen K) (tCons (tOp (rIxL K) (tVar 1) (tC (.int 0))) tNil))) (gSub (tOp (rIxL K) (tVar 1) (tC (.int 2))) (tC (.int 1)) rSetL))
  (tAsg (tOp oAdd (tOp (rIxL K) (tOp (rIxL K) (tVar 1) (tC (.int 2))) (tC (.int 2))) (tC (.int 1))) (gSub (tOp (rIxL K) (tVar 1) (tC (.int 2))) (tC (.int 2)) rSetL))))) tNext))
def r_l_line (K : PySem.W.Frag) (T : List (Addr × Str)) : TS :=
  (tSeq (tIfS (tAnd (tTest (tOp oLt (tOp oMod (tVar 0) (tC (.int 4))) (tC (.int 2)))) (tTest (tOp (rNeD K) (tVar 2) (tLst tNil)))) (tRet (tOp (rIxL K) (tVar 2) (tOp oMod (tOp oDiv (tVar 0) (tC (.int 4))) (tCB (rLen K) (tCons (tVar 2) tNil))))) tNext)
  (tSeq (tAsg (tOp oMod (tOp oMul (tOp oAdd (tOp oMod (tOp oDiv (tVar 0) (tC (.int 4))) (tC (.int 1000003))) (tC (.int 1))) (tC (.int 48271))) (tC (.int 2147483629))) (gName 3))
  (tRet (tOp oMod (tOp oMod (tOp oMul (tVar 3) (tVar 3)) (tC (.int 2147483587))) (tVar 1)))))
def r_l_shows (K : PySem.W.Frag) (T : List (Addr × Str)) : TS :=
  (tSeq (tAsg (tLst (tCons (tMeth (He.ga K "Pegs") "on_pegs" (sp_Pegs_on_pegs K T) [] E0 (tVar 0) tNil) (tCons (tMeth (He.ga K "Pegs") "waiting" (sp_Pegs_waiting K T) [] E0 (tVar 0) tNil) tNil))) (gName 3))
  (tSeq (tAsg (tMeth (He.ga K "Pegs") "first" (sp_Pegs_first K T) [] E0 (tVar 0) tNil) (gName 4))
  (tSeq (tAsg (tMeth (He.ga K "Pegs") "tallies" (sp_Pegs_tallies K T) [] E0 (tVar 0) tNil) (gName 5))
  (tSeq (tIfS (tOr (tNot (tB (tCall (sp_l_list K T) [] E0 (tCons (tOp (rIxL K) (tVar 3) (tC (.int 0))) (tCons (tOp (rIxL K) (tVar 1) (tC (.int 0))) tNil))))) (tNot (tB (tCall (sp_l_list K T) [] E0 (tCons (tOp (rIxL K) (tVar 3) (tC (.int 1))) (tCons (tOp (rIxL K) (tVar 1) (tC (.int 1))) tNil)))))) (tRet (tC (.bl false))) tNext)
  (tSeq (tIfS (tOr (tNot (tB (tCB rIs (tCons (tVar 5) (tCons (tC (.ty "tuple")) tNil))))) (tNot (tB (tCall (sp_l_list K T) [] E0 (tCons (tCB (rLst K) (tCons (tVar 5) tNil)) (tCons (tOp (rIxL K) (tVar 1) (tC (.int 2))) tNil)))))) (tRet (tC (.bl false))) tNext)
  (Evl.tCut (tIfS (tTest (tOp rEq (tOp oMod (tCB (rLen K) (tCons (tVar 2) tNil)) (tC (.int 3))) (tC (.int 1)))) (tSeq (tDrop (tBM K "list" rAppend (tOp (rIxL K) (tVar 3) (tC (.int 0))) (tCons (tC (.int 0)) tNil)))
  (tDrop (tBM K "list" rInsert (tOp (rIxL K) (tVar 3) (tC (.int 1))) (tCons (tC (.int 0)) (tCons (tC (.int 0)) tNil))))) tNext)
  (tSeq (tDrop (tBM K "list" rAppend (tVar 2) (tCons (tVar 3) tNil)))
  (tSeq (tIfS (tTest (tOp (rEqD K) (tOp (rIxL K) (tVar 1) (tC (.int 0))) (tLst tNil))) (tRet (tOp oIsN (tVar 4) (tC .non))) tNext)
  (tRet (tAndV (tCall (sp_l_whole K T) [] E0 (tCons (tVar 4) tNil)) (tOp rEq (tVar 4) (tOp (rIxL K) (tOp (rIxL K) (tVar 1) (tC (.int 0))) (tC (.int 0))))))))))))))
section
variable {K : PySem.W.Frag} {T : List (Addr × Str)} {H : Hp} {Q : VK} {E : XK} {vs : List V}
theorem v_comes {r : Addr} {rs : List Int} {i j : Int} (h : SqL K H r (rs.map V.int)) (hi : inR rs i) (hj : inR rs j) : SpV T (sp_l_comes K T) [.ref r, .int i, .int j] H (.bl (bef rs i j)) := v_before h hi hj
theorem v_some {c : Int} {n : Nat} (hn : n ≤ 60) : SpR T (sp_l_some K T) [.int c, .int n] H (newLns n) := fun H1 e Q q E => ⟨c, n, rfl, hn, q⟩
theorem v_made {r l : Addr} {m : Int} {rs ls : List Int} (h1 : 1 ≤ m) (h2 : m ≤ 16) (hr : SqL K H r (rs.map V.int)) (hl : SqL K H l (ls.map V.int)) (nl : Lns rs.length ls) (hz : rs.length ≤ 60) : SpR T (sp_l_made K T) [.ref r, .int m, .ref l] H (newSt K (.make rs m ls)) := fun H1 e Q q E => ⟨r, m, l, rs, ls, rfl, h1, h2, e.l hr, e.l hl, nl, hz, q⟩
theorem v_line {c : Int} {p : Addr} {ns : List Int} {n : Nat} (hp : H p = some (.lst (ns.map V.int))) (hx : ∀ x ∈ ns, 0 ≤ x ∧ x < (n : Int)) (hn : 1 ≤ n) : SpR T (sp_l_line K T) [.int c, .int n, .ref p] H (fun _ v _ => ∃ i : Int, v = .int i ∧ 0 ≤ i ∧ i < (n : Int)) := fun H1 e Q q E => ⟨c, p, ns, n, rfl, e.at hp, hx, hn, fun i H' e' hi => q _ H' e' ⟨i, rfl, hi⟩⟩
theorem newSt_back {s : PSt} : ∀ H1 H2 v H3, Ex T H H1 → Ex T H1 H2 → Ex T H2 H3 → newSt K s H2 v H3 → newSt K s H1 v H3 := fun _ _ _ _ _ a b ⟨p, z, O⟩ => ⟨p, z, O.go (Mv.refl (T := T) (S := no)) (fun _ _ h => h) fun x h _ => a.dm x h⟩
theorem newLns_back {n : Nat} : ∀ H1 H2 v H3, Ex T H H1 → Ex T H1 H2 → Ex T H2 H3 → newLns n H2 v H3 → newLns n H1 v H3 := fun _ _ _ _ _ a b ⟨ls, z1, z2⟩ => ⟨ls, z1, newL_back _ _ _ _ (Mv.of T _) a b z2⟩
end
end Fp
local macro_rules | `(tactic| walk_at "sp") => `(tactic| first | exact Fp.v_wholeI | exact Fp.v_is_wholeI | exact Fp.v_whole (by assumption) | exact Fp.v_is_whole (by assumption) | exact Fp.v_before (by walk_at "fact") (by assumption) (by assumption) | exact Fp.v_comes (by walk_at "fact") (by assumption) (by assumption) | exact Fp.v_cell_at (by walk_at "fact") (by decide))
namespace Fp
open PySem PySem.Spec PyProof.Rows L2 LamX
section
variable {K : PySem.W.Frag} {T : List (Addr × Str)} {H H0 : Hp} {Q : VK} {E : XK} {vs : List V}
theorem p_l_comes (h : sp_l_comes K T vs H Q E) : r_l_comes K T { nx := fun _ H' => Q .non H', rt := Q } (start ["_law_ranks_here", "_law_one", "_law_other"] vs) H := by
  obtain ⟨r, i, j, rs, rfl, hr, ⟨i0, i1⟩, ⟨j0, j1⟩, k⟩ := h
  unfold r_l_comes
  refine s_ret (Mv.of T H) (ev_is (by walk_at "ev") ?_) k
  simp [bef]
theorem putI_at {rs xs : List Int} {i : Int} : putI rs xs i = xs.take (xs.takeWhile (fun x => bef rs x i)).length ++ [i] ++ xs.drop (xs.takeWhile (fun x => bef rs x i)).length := by
  have e : xs.takeWhile (fun x => bef rs x i) ++ xs.dropWhile (fun x => bef rs x i) = xs := List.takeWhile_append_dropWhile
  unfold putI
  congr 1
  · congr 1
    conv => rhs; rw [← e]
    rw [List.take_left']
    rw [e]
  · conv => rhs; rw [← e]
    rw [List.drop_left']
    rw [e]
theorem tw_lt {p : Int → Bool} : ∀ {xs : List Int} {j : Nat} (h : j < xs.length), j < (xs.takeWhile p).length → p xs[j] = true
  | x :: xs, j, h, hj => by
    by_cases e : p x = true
    · rw [List.takeWhile_cons_of_pos e] at hj
      cases j with
      | zero => exact e
      | succ j => exact tw_lt (xs := xs) (by simpa using h) (by simpa using hj)
    · rw [List.takeWhile_cons_of_neg e] at hj
      exact absurd hj (Nat.not_lt_zero _)
theorem tw_eq {p : Int → Bool} : ∀ {xs : List Int} {j : Nat} (h : j < xs.length), j = (xs.takeWhile p).length → p xs[j] = false
  | x :: xs, j, h, hj => by
    by_cases e : p x = true
    · rw [List.takeWhile_cons_of_pos e, List.length_cons] at hj
      subst hj
      exact tw_eq (xs := xs) (by simpa using h) rfl
    · rw [List.takeWhile_cons_of_neg e] at hj
      subst hj
      simpa using e
theorem p_l_put (h : sp_l_put K T vs H Q E) : r_l_put K T { nx := fun _ H' => Q .non H', rt := Q } (start ["_law_ranks_here", "_law_row", "_law_line_here", "_law_at"] vs) H := by
  obtain ⟨r, p, i, rs, xs, rfl, hr, hp, hi, hx, hz, k⟩ := h
  unfold r_l_put
  refine q_asg (Mv.of T H) (by walk_at "ev") rfl fun H1 e1 _ => ?_
  have hp' : SqL K H p (xs.map V.int) := .inl (.inl hp)
  generalize hn : (xs.takeWhile (fun x => bef rs x i)).length = n
  have hnl : n ≤ xs.length := by rw [← hn]; exact (List.takeWhile_prefix _).length_le
  refine s_while (T := T) (D := { nx := tDrop _ _ , rt := Q }) n (fun j σ' H' => j ≤ n ∧ σ' = [some (.ref r), some (.ref p), some (.int i), some (.int (j : Int))] ∧ Ex T H H') ⟨Nat.zero_le _, rfl, e1⟩ ?_
  rintro j σ' H' ⟨hj, rfl, e⟩
  have fin : j = n → ∀ H1, Ex T H' H1 → tDrop (tBM K "list" rInsert (tVar 1) (tCons (tVar 3) (tCons (tVar 2) tNil))) { nx := fun _ H' => Q .non H', rt := Q } [some (.ref r), some (.ref p), some (.int i), some (.int (j : Int))] H1 := fun hjn H1 e1 => by
    refine s_ins (v := .int i) (i := (j : Int)) (Mv.of T H1) ((e.trans e1).at hp) (by walk_at "ev") (by walk_at "ev") (by walk_at "ev") (by rw [List.length_map]; omega) (by omega) (by omega) fun H2 e2 _ => ?_
    have e02 := (e.trans e1).trans e2
    refine k _ (e02.mv.set (.inl rfl) (e02.at hp)) ?_
    rw [upd_same, putI_at, hn, hjn, Int.toNat_natCast]
    simp
  by_cases hl : j < xs.length
  · have m1 := rk_at (ls := xs) (i := (j : Int)) (by omega) (by omega)
    have i1 := hx _ m1
    have ex1 : rk xs (j : Int) = xs[j] := rk_el (ls := xs) (i := (j : Int)) (by omega) (by omega)
    refine ⟨bef rs (rk xs (j : Int)) i, (et_and (a := true) (et_is (et_test (ev_op (by walk_at "ev") (ev_cb (by walk_at "ea") (rc_lenI hp')) rv_i0)) (decide_eq_true (by omega))) fun _ => et_B (ev_call0 (ea_cons (by walk_at "ev") (ea_cons (ev_op (by walk_at "ev") (by walk_at "ev") (rv_ixI hp' (by omega) (by omega))) (ea_cons (by walk_at "ev") ea_nil))) (v_comes hr i1 hi))).mono e, fun hb => ?_, fun hb => fin ?_⟩
    · have hjn : j < n := by
        refine Classical.byContradiction fun z => ?_
        have z : j = n := by omega
        have := tw_eq hl (p := fun x => bef rs x i) (z.trans hn.symm)
        rw [ex1] at hb
        rw [hb] at this
        cases this
      refine ⟨hjn, fun H1 e1 => ?_⟩
      exact s_asg (v := .int ((j : Int) + 1)) (Mv.of T H1) (by walk_at "ev") fun H2 e2 _ => ⟨hjn, by push_cast; rfl, (e.trans e1).trans e2⟩
    · refine Classical.byContradiction fun z => ?_
      have hjn : j < n := by omega
      have := tw_lt hl (p := fun x => bef rs x i) (by rw [hn]; exact hjn)
      rw [ex1] at hb
      rw [hb] at this
      cases this
  · refine ⟨false, (et_is (et_and (a := false) (b := true) (et_is (et_test (ev_op (by walk_at "ev") (ev_cb (by walk_at "ea") (rc_lenI hp')) rv_i0)) (decide_eq_false (by omega))) fun z => nomatch z) rfl).mono e, (fun z => nomatch z), fun _ => fin (by omega)⟩
end
end Fp

local macro_rules | `(tactic| walk_at "sp") => `(tactic| first | exact Fp.v_wholeI | exact Fp.v_is_wholeI | exact Fp.v_whole (by assumption) | exact Fp.v_is_whole (by assumption) | exact Fp.v_before (by walk_at "fact") (by assumption) (by assumption) | exact Fp.v_comes (by walk_at "fact") (by assumption) (by assumption) | exact Fp.v_cell_at (by walk_at "fact") (by decide))
namespace Fp
open PySem PySem.Spec PyProof.Rows L2 LamX
section
variable {K : PySem.W.Frag} {T : List (Addr × Str)} {H H0 : Hp} {Q : VK} {E : XK} {vs : List V}
theorem p_l_some (h : sp_l_some K T vs H Q E) : r_l_some K T { nx := fun _ H' => Q .non H', rt := Q } (start ["_law_cell", "_law_many", "_law_lines", "_law_k", "_law_number"] vs) H := by
  obtain ⟨c, n, rfl, hz, q⟩ := h
  unfold r_l_some
  refine q_asgR (Mv.of T H) (el_lst ea_nil (by decide)) fun v H1 σ2 hs e1 _ hv => ?_
  obtain ⟨p, rfl, np, hp⟩ := hv
  subst hs
  refine s_forR (n := n) e1 (by walk_at "ea") (by omega) (fun i σ' H' => ∃ ls v1 v2, σ' = [some (.int c), some (.int n), some (.ref p), v1, v2] ∧ Ex T H H' ∧ H' p = some (.lst (ls.map V.int)) ∧ Lns i ls) (fun H2 e2 e3 => ⟨[], none, none, rfl, e2, e3.at hp, List.Pairwise.nil, fun _ z => by cases z⟩) ?_ ?_
  · rintro i σ' H' hi ⟨ls, v1, v2, rfl, e, hl, nl⟩
    have hi' : i < n := by omega
    have ll := nl.len
    refine q_asg (Mv.of T H') (by walk_at "ev") rfl fun H2 e2 _ => ?_
    generalize hm : (c / 4 % 1000003 + 31 * (i : Int) * (i : Int) + 7) * 69621 % 2147483587 = m
    have hb : 0 ≤ m ∧ m < 2147483587 := by rw [← hm]; exact ⟨Int.emod_nonneg _ (by decide), Int.emod_lt_of_pos _ (by decide)⟩
    refine q_asg e2 (by walk_at "ev") rfl fun H3 e3 _ => ?_
    generalize m * m % 2147483629 = m2
    refine s_if e3 (by walk_at "et") (fun hb H4 e4 _ => ?_) (fun hb H4 e4 _ => nextI ?_)
    · have l0 : (0 : Int) < (ls.length : Int) + 1 := by omega
      have b0 := Int.emod_nonneg (m2 / 4) (Int.ne_of_gt l0)
      have b1 := Int.emod_lt_of_pos (m2 / 4) l0
      refine s_ins (v := .int i) (i := m2 / 4 % (ls.length + 1)) e4 (e4.at hl) (by walk_at "ev") ?_ (by walk_at "ev") (by rw [List.length_map]; omega) b0 (by omega) fun H5 e5 _ => ⟨ls.take (m2 / 4 % (ls.length + 1)).toNat ++ [(i : Int)] ++ ls.drop (m2 / 4 % (ls.length + 1)).toNat, _, _, rfl, (e.trans e5).set (.inr np) (e5.at hl), ?_, nl.ins hi'⟩
      · refine ev_op (by walk_at "ev") (ev_op (ev_cb (by walk_at "ea") (rc_lenI (.inl (.inl hl)))) (by walk_at "ev") (by walk_at "rv")) (by walk_at "rv")
      · rw [upd_same]
        simp
    · exact ⟨ls, _, _, rfl, e.trans e4, e4.at hl, nl.1, fun x hx => ⟨(nl.2 x hx).1, by have := (nl.2 x hx).2; omega⟩⟩
  · rintro σ' H' ⟨ls, v1, v2, rfl, e, hl, nl⟩
    dsimp only
    refine s_ret (Mv.of T H') (by walk_at "ev") fun H2 e2 => q _ _ (e.trans e2) ⟨ls, nl, p, rfl, np, e2.at hl⟩
theorem p_l_line (h : sp_l_line K T vs H Q E) : r_l_line K T { nx := fun _ H' => Q .non H', rt := Q } (start ["_law_cell", "_law_many", "_law_hung", "_law_number"] vs) H := by
  obtain ⟨c, p, ns, n, rfl, hp, hx, hn, q⟩ := h
  unfold r_l_line
  have hp' : SqL K H p (ns.map V.int) := .inl (.inl hp)
  refine q_if (b := decide (c % 4 < 2) && !decide (ns = [])) (Mv.of T H) (et_and (by walk_at "et") fun _ => et_test (ev_opVL (by walk_at "ev") (el_lst ea_nil (by decide)) fun a H1 ha e => rv_neDI (dp_n (e.at hp)) (dp_n (ns := []) ha))) (fun hb H1 e1 _ => ?_) (fun hb H1 e1 _ => nextI ?_)
  · have hne : ns ≠ [] := by
      intro z
      simp [z] at hb
    have hl : (0 : Int) < ns.length := by
      have := List.length_pos_iff.mpr hne
      omega
    have b0 := Int.emod_nonneg (c / 4) (Int.ne_of_gt hl)
    have b1 := Int.emod_lt_of_pos (c / 4) hl
    exact s_ret e1 (ev_op (by walk_at "ev") (ev_op (by walk_at "ev") (ev_cb (by walk_at "ea") (rc_lenI hp')) (by walk_at "rv")) (rv_ixI hp' b0 b1)) fun H2 e2 => q _ H2 e2 (hx _ (rk_at b0 b1))
  · dsimp only
    refine q_asg e1 (by walk_at "ev") rfl fun H2 e2 _ => ?_
    generalize hm : (c / 4 % 1000003 + 1) * 48271 % 2147483629 = m
    have hb : 0 ≤ m ∧ m < 2147483629 := by rw [← hm]; exact ⟨Int.emod_nonneg _ (by decide), Int.emod_lt_of_pos _ (by decide)⟩
    have hn' : (0 : Int) < n := by omega
    exact s_ret e2 (by walk_at "ev") fun H3 e3 => q _ H3 e3 ⟨Int.emod_nonneg _ (Int.ne_of_gt hn'), Int.emod_lt_of_pos _ hn'⟩
theorem p_l_made (h : sp_l_made K T vs H Q E) : r_l_made K T { nx := fun _ H' => Q .non H', rt := Q } (start ["_law_ranks_here", "_law_many", "_law_lines", "_law_order", "_law_line_here"] vs) H := by
  obtain ⟨r, m, l, rs, ls, rfl, m1, m2, hr, hl, nl, hz, q⟩ := h
  unfold r_l_made
  have m0 : 0 ≤ m := by omega
  have ll := nl.len
  refine q_asgR (Mv.of T H) (el_lst ea_nil (by decide)) fun v H1 σ2 hs e1 _ hv => ?_
  obtain ⟨p, rfl, np, hp⟩ := hv
  subst hs
  refine s_forL (xs := ls.map V.int) e1 (by walk_at "ev") hl (fun i σ' H' => ∃ v, σ' = [some (.ref r), some (.int m), some (.ref l), some (.ref p), v] ∧ Ex T H H' ∧ H' p = some (.lst (List.map V.int (inOrd rs (ls.take i))))) (fun H2 e2 e3 => ⟨none, rfl, e2, by rw [List.take_zero, show inOrd rs [] = [] from List.length_eq_zero_iff.mp inOrd_len]; exact e3.at hp⟩) (fun i σ' H' _ ⟨_, _, e, _⟩ => e.l hl) ?_ ?_
  · rintro i x σ' H' hi ⟨v, rfl, e, hp⟩
    obtain ⟨z, hz', rfl⟩ := item_int hi
    have mz := List.mem_of_getElem? hz'
    have nd : (ls.take i ++ [z]).Nodup := by rw [← take_snoc hz']; exact nl.1.sublist (List.take_sublist _ _)
    refine nameI ?_
    refine s_call (vs := [.ref r, .ref p, .int z]) (Mv.of T H') (by walk_at "ea") fun H2 e2 _ => ⟨r, p, z, rs, inOrd rs (ls.take i), rfl, (e.trans e2).l hr, e2.at hp, nl.2 z mz, fun x hx => nl.2 x (List.mem_of_mem_take (inOrd_mem.mp hx)), ?_, fun H3 m3 h3 => ⟨_, rfl, ?_, ?_⟩⟩
    · rw [inOrd_len, List.length_take]
      omega
    · exact (e.trans e2).seq m3 fun x hx => by subst hx; exact .inr np
    · rw [h3, putI_ord nd, take_snoc hz']
  · rintro σ' H' ⟨v, rfl, e, hp⟩
    rw [List.length_map, List.take_length] at hp
    have hp' : SqL K H' p ((inOrd rs ls).map V.int) := .inl (.inl hp)
    have l1 := el_sl (T := T) (ta := tVar 3) (tl := tNoPart) (th := tPart (tVar 1)) (σ := [some (.ref r), some (.int m), some (.ref l), some (.ref p), v]) (by walk_at "ev") eo_no (eo_part (i := m) (by walk_at "ev")) hp'
    have l2 := el_sl (T := T) (ta := tVar 3) (tl := tPart (tVar 1)) (th := tNoPart) (σ := [some (.ref r), some (.int m), some (.ref l), some (.ref p), v]) (by walk_at "ev") (eo_part (i := m) (by walk_at "ev")) eo_no hp'
    rw [cut_lo m0, ← List.map_take] at l1
    rw [cut_hi m0, ← List.map_drop] at l2
    dsimp only
    refine s_retR (Mv.of T H') (er_trip l1 l2 (el_lst (ea_cons (ev_cb (by walk_at "ea") (rc_lenI hp')) (ea_cons (ev_cb (ea_cons (by walk_at "ev") (ea_cons (ev_cb (by walk_at "ea") (rc_lenI hp')) ea_nil)) rc_min2) (ea_cons ev_c ea_nil))) (by simp))) fun w H2 e2 _ hw => ?_
    obtain ⟨a, h, w', c, rfl, na, nh, nw, nc, ha, hh, hw, hc, d1, d2, d3, d4, d5, d6⟩ := hw
    refine q _ _ (e.trans e2) ⟨a, rfl, h, w', c, ⟨ha, hh, ?_, ?_, d1, d2, d3, d4, d5, d6⟩, e.dm _ na, e.dm _ nh, e.dm _ nw, e.dm _ nc⟩
    · rw [hw]
      show some (HO.lst (((inOrd rs ls).drop m.toNat).map V.int)) = some (.lst ((inOrd rs ((inOrd rs ls).drop m.toNat)).map V.int))
      rw [inOrd_self ((inOrd_bef nl.1).drop)]
    · rw [hc]
      show some (HO.lst [V.int (inOrd rs ls).length, _, .int 0]) = some (.lst [.int ls.length, .int ((inOrd rs ls).take m.toNat).length, .int 0])
      have e3 : (if ((ls.length : Nat) : Int) < m then ((ls.length : Nat) : Int) else m) = ((min m.toNat ls.length : Nat) : Int) := by split <;> omega
      rw [List.length_take, inOrd_len, e3]
end
end Fp

local macro_rules | `(tactic| walk_at "sp") => `(tactic| first | exact Fp.v_wholeI | exact Fp.v_is_wholeI | exact Fp.v_whole (by assumption) | exact Fp.v_is_whole (by assumption) | exact Fp.v_before (by walk_at "fact") (by assumption) (by assumption) | exact Fp.v_comes (by walk_at "fact") (by assumption) (by assumption) | exact Fp.v_cell_at (by walk_at "fact") (by decide))
namespace Fp
open PySem PySem.Spec PyProof.Rows L2 LamX
section
variable {K : PySem.W.Frag} {T : List (Addr × Str)} {H H0 : Hp} {Q : VK} {E : XK} {vs : List V}
theorem p_l_come (h : sp_l_come K T vs H Q E) : r_l_come K T { nx := fun _ H' => Q .non H', rt := Q } (start ["_law_ranks_here", "_law_many", "_law_state", "_law_line_here", "_law_hung", "_law_pressing"] vs) H := by
  obtain ⟨r, a, i, s, S, rfl, hr, nr, ⟨⟨h, w, c, A, sa, sh, sw, sc⟩⟩, o, hi, hn, k⟩ := h
  unfold r_l_come
  have wf2 := (o.come hi hn).1
  have l0 := A.l0
  have lc := A.lc
  refine q_asg (v := .ref h) (Mv.of T H) (ev_op (by walk_at "ev") ev_c (rv_ixL l0 rfl)) rfl fun H1 e1 _ => ?_
  refine q_setL (v := .int (s.came + 1)) (l := c) (i := 0) (j := 0) e1 (e1.at A.ct) (ev_op (ev_op (ev_op (by walk_at "ev") ev_c (rv_ixL l0 rfl)) ev_c (rv_ixL (v := .int s.came) lc rfl)) ev_c rv_i0) (ev_op (by walk_at "ev") ev_c (rv_ixL l0 rfl)) ev_c rfl fun H2 e2 _ => ?_
  have A3 : StA K _ a h w c s.tick := (A.ex e2).putC (x := s.came + 1) (y := s.laid) (z := s.calls)
  have M3 : Mv T S H (upd H2 c (.lst [.int (s.came + 1), .int s.laid, .int s.calls])) := (e2.mv (S := S)).set (.inl sc) (A.ex e2).ct
  have hr3 := M3.lS hr nr
  show tSeq _ _ _ _ (upd H2 c (.lst [.int (s.came + 1), .int s.laid, .int s.calls]))
  generalize (upd H2 c (.lst [.int (s.came + 1), .int s.laid, .int s.calls])) = H3 at A3 M3 hr3
  have l03 := A3.l0
  have lh3 : SqL K H3 h (s.hung.map V.int) := A3.lh
  have hg3 : H3 h = some (.lst (s.hung.map V.int)) := A3.hg
  have wt3 : H3 w = some (.lst ((inOrd s.ranks s.book).map V.int)) := A3.wt
  have nib : i ∉ s.book := fun z => hn (List.mem_append_right _ z)
  have nih : i ∉ s.hung := fun z => hn (List.mem_append_left _ z)
  have nbi : (s.book ++ [i]).Nodup := List.nodup_append.mpr ⟨o.nb, by simp, fun x hx y hy e => nib (by rw [← List.mem_singleton.mp hy, ← e]; exact hx)⟩
  refine q_asg (v := .bl (lastBef s.ranks s.hung i)) (Mv.of T H3) (ev_is (ev_and (a := !decide (s.hung = [])) (b := lastBef s.ranks s.hung i) (ev_opVL (by walk_at "ev") (el_lst ea_nil (by decide)) fun q H1 hq e => rv_neDI (dp_n (e.at hg3)) (dp_n (ns := []) hq)) fun hne => ?_) ?_) rfl fun H4 e4 _ => ?_
  · have hne : s.hung ≠ [] := by simpa using hne
    obtain ⟨j, hj⟩ := last_of hne
    rw [show lastBef s.ranks s.hung i = bef s.ranks i j by unfold lastBef; rw [hj.1]]
    exact ev_call0 (ea_cons (by walk_at "ev") (ea_cons (by walk_at "ev") (ea_cons (ev_op (by walk_at "ev") (ev_neg ev_c) (rv_ixL lh3 (ix_neg (by rw [List.getLast?_map, hj.1]; rfl)))) ea_nil))) (v_comes hr3 hi (o.wf.ih j hj.2))
  · cases hh : s.hung with
    | nil => rfl
    | cons x xs => rfl
  have eb : decide (inOrd s.ranks s.book = []) = decide (s.book = []) := by
    rw [Bool.eq_iff_iff, decide_eq_true_eq, decide_eq_true_eq]
    rw [← List.length_eq_zero_iff, inOrd_len, List.length_eq_zero_iff]
  refine q_if (b := !s.press i) e4 (et_is (et_and (a := !lastBef s.ranks s.hung i) (b := !decide (s.book = []) || decide ((s.hung.length : Int) = s.many)) (et_not (et_B (by walk_at "ev"))) fun _ => et_or (et_is (et_test (ev_opVL (ev_op (by walk_at "ev") ev_c (rv_ixL l03 rfl)) (el_lst ea_nil (by decide)) fun q H1 hq e => rv_neDI (dp_n (e.at wt3)) (dp_n (ns := []) hq))) (by rw [eb])) fun _ => et_test (ev_op (ev_cb (by walk_at "ea") (rc_lenI lh3)) (by walk_at "ev") rv_eqI)) ?_) (fun hb H5 e5 _ => ?_) (fun hb H5 e5 _ => nextI ?_)
  · unfold PSt.press
    have := o.le
    cases lastBef s.ranks s.hung i with
    | true => rfl
    | false =>
      cases decide (s.book = []) with
      | false => rfl
      | true =>
        have e1 : (decide ((s.hung.length : Int) = s.many)) = !(decide ((s.hung.length : Int) < s.many)) := by
          rw [Bool.eq_iff_iff]
          simp
          omega
        rw [e1]
        rfl
  · have hb : s.press i = false := by simpa using hb
    have A5 := A3.ex e5
    have es : s.come i = { s.tick with book := s.book ++ [i] } := by
      unfold PSt.come
      rw [if_neg (by rw [hb]; simp)]
    rw [es] at k
    have hr5 := e5.l hr3
    refine s_call (D := { nx := tRetN _, rt := Q }) (vs := [.ref r, .ref w, .int i]) (Mv.of T H5) (ea_cons (by walk_at "ev") (ea_cons (ev_op (by walk_at "ev") ev_c (rv_ixL A5.l0 rfl)) (by walk_at "ea"))) fun H6 e6 _ => ⟨r, w, i, s.ranks, inOrd s.ranks s.book, rfl, e6.l hr5, e6.at A5.wt, hi, fun x hx => o.wf.ib x (inOrd_mem.mp hx), ?_, fun H7 m7 h7 => ?_⟩
    · have := o.len
      rw [inOrd_len]
      omega
    · rw [putI_ord nbi] at h7
      have A6 := A5.ex e6
      refine k H7 S (((M3.trans e5.mv).trans e6.mv).trans (m7.wk fun x hx => hx ▸ sw)) ⟨h, w, c, ⟨m7.kp _ _ A6.at_ rfl A6.aw.symm, m7.kp _ _ A6.hg rfl A6.hw, h7, m7.kp _ _ A6.ct rfl A6.wc.symm, A6.ah, A6.aw, A6.ac, A6.hw, A6.hc, A6.wc⟩, sa, sh, sw, sc⟩ fun x hx => .inl hx
  · have hb : s.press i = true := by simpa using hb
    have A5 := A3.ex e5
    have es : s.come i = s.tick.yield.hang i := by
      unfold PSt.come
      rw [if_pos hb]
    rw [es] at k wf2
    have hr5 := e5.l hr3
    have l05 := A5.l0
    have lh5 : SqL K H5 h (s.hung.map V.int) := A5.lh
    dsimp only
    refine q_cut (fun σ' H' => ∃ v, σ' = [some (.ref r), some (.int s.many), some (.ref a), some (.int i), some (.ref h), v] ∧ Mv T S H H' ∧ StA K H' a h w c s.tick.yield) ?_ ?_
    · refine s_if (b := decide ((s.hung.length : Int) = s.many)) (Mv.of T H5) (et_test (ev_op (ev_cb (by walk_at "ea") (rc_lenI lh5)) (by walk_at "ev") rv_eqI)) (fun hm H6 e6 _ => ?_) (fun hm H6 e6 _ => nextI ⟨_, rfl, (M3.trans e5.mv).trans e6.mv, ?_⟩)
      · have hm := of_decide_eq_true hm
        have A6 := A5.ex e6
        have hne : s.hung ≠ [] := by
          intro z
          rw [z] at hm
          have := o.m0
          simp at hm
          omega
        obtain ⟨j, hj, mj⟩ := last_of hne
        have ey : s.tick.yield = { s.tick with hung := s.hung.dropLast, book := s.book ++ [j] } := by
          unfold PSt.yield
          rw [if_pos (show (s.tick.hung.length : Int) = s.tick.many from hm)]
          show { s.tick with hung := s.hung.dropLast, book := s.book ++ s.hung.getLast?.toList } = _
          rw [hj]
          rfl
        have njb : (s.book ++ [j]).Nodup := List.nodup_append.mpr ⟨o.nb, by simp, fun x hx y hy e => (List.nodup_append.mp o.ns.1).2.2 j mj x hx (by rw [e, List.mem_singleton.mp hy])⟩
        rw [ey]
        refine s_callPop (x := .ref r) (y := .ref w) (z := .int j) (Mv.of T H6) (by walk_at "ev") (ev_op (by walk_at "ev") ev_c (rv_ixL A6.l0 rfl)) (by walk_at "ev") A6.hg ?_ fun H7 e7 => ?_
        · show (s.hung.map V.int).getLast? = _
          rw [List.getLast?_map, hj]
          rfl
        · have A7 := A6.ex e7
          have A8 := A7.putH (xs := s.hung.dropLast) rfl
          have M8 := ((((M3.trans e5.mv).trans e6.mv).trans (e7.mv (S := S)))).set (o := .lst (s.hung.dropLast.map V.int)) (.inl sh) A7.hg
          rw [List.map_dropLast] at A8 M8
          have hr8 := M8.lS hr nr
          refine ⟨r, w, j, s.ranks, inOrd s.ranks s.book, rfl, hr8, A8.wt, o.wf.ih j mj, fun x hx => o.wf.ib x (inOrd_mem.mp hx), ?_, fun H9 m9 h9 => ⟨_, rfl, M8.trans (m9.wk fun x hx => hx ▸ sw), ?_⟩⟩
          · have := o.len
            rw [inOrd_len]
            omega
          · rw [putI_ord njb] at h9
            exact ⟨m9.kp _ _ A8.at_ rfl A8.aw.symm, m9.kp _ _ A8.hg rfl A8.hw, h9, m9.kp _ _ A8.ct rfl A8.wc.symm, A8.ah, A8.aw, A8.ac, A8.hw, A8.hc, A8.wc⟩
      · have hm := of_decide_eq_false hm
        have ey : s.tick.yield = s.tick := by
          unfold PSt.yield
          rw [if_neg (show ¬ (s.tick.hung.length : Int) = s.tick.many from hm)]
        rw [ey]
        exact A5.ex e6
    · rintro σ' H6 ⟨v, rfl, M6, A6⟩
      have hr6 := M6.lS hr nr
      have ery : s.tick.yield.ranks = s.ranks := by unfold PSt.yield; split <;> rfl
      have eby : s.tick.yield.hung.Sublist s.hung := by
        unfold PSt.yield
        split
        · exact List.dropLast_sublist _
        · exact List.Sublist.refl _
      have nih6 : i ∉ s.tick.yield.hung := fun z => nih (eby.subset z)
      refine s_call (D := { nx := tAsg _ _ _, rt := Q }) (vs := [.ref r, .ref h, .int i]) (Mv.of T H6) (by walk_at "ea") fun H7 e7 _ => ⟨r, h, i, s.ranks, s.tick.yield.hung, rfl, e7.l hr6, e7.at A6.hg, hi, fun x hx => o.wf.ih x (eby.subset hx), ?_, fun H8 m8 h8 => ?_⟩
      · have := o.len
        have := eby.length_le
        omega
      · rw [putI_eq (o.so.sublist eby) nih6, ← ery] at h8
        have A7 := A6.ex e7
        have A8 : StA K H8 a h w c { s.tick.yield with hung := inOrd s.tick.yield.ranks (s.tick.yield.hung ++ [i]) } := ⟨m8.kp _ _ A7.at_ rfl A7.ah.symm, h8, m8.kp _ _ A7.wt rfl A7.hw.symm, m8.kp _ _ A7.ct rfl A7.hc.symm, A7.ah, A7.aw, A7.ac, A7.hw, A7.hc, A7.wc⟩
        have M8 := (M6.trans e7.mv).trans (m8.wk fun x hx => hx ▸ sh)
        have l08 := A8.l0
        have lc8 := A8.lc
        dsimp only
        refine s_setL (v := .int (s.tick.yield.laid + 1)) (l := c) (i := 1) (j := 1) (Mv.of T H8) A8.ct (ev_op (ev_op (ev_op (by walk_at "ev") ev_c (rv_ixL l08 rfl)) ev_c (rv_ixL (v := .int s.tick.yield.laid) lc8 rfl)) ev_c rv_i0) (ev_op (by walk_at "ev") ev_c (rv_ixL l08 rfl)) ev_c rfl fun H9 e9 _ => ?_
        exact k _ S ((M8.trans (e9.mv (S := S))).set (.inl sc) (A8.ex e9).ct) ⟨h, w, c, (A8.ex e9).putC, sa, sh, sw, sc⟩ fun x hx => .inl hx
theorem p_l_go (h : sp_l_go K T vs H Q E) : r_l_go K T { nx := fun _ H' => Q .non H', rt := Q } (start ["_law_many", "_law_state", "_law_line_here"] vs) H := by
  obtain ⟨a, i, s, S, rfl, ⟨⟨h, w, c, A, sa, sh, sw, sc⟩⟩, o, hi, k⟩ := h
  unfold r_l_go
  have l0 := A.l0
  have lh := A.lh
  have key : (s.drop i).ranks = s.ranks ∧ (s.drop i).many = s.many := by unfold PSt.drop; split <;> exact ⟨rfl, rfl⟩
  refine q_cut (fun σ' H' => σ' = [some (.int s.many), some (.ref a), some (.int i)] ∧ Mv T S H H' ∧ StA K H' a h w c (s.drop i)) ?_ ?_
  · refine s_if (b := decide (i ∈ s.hung)) (Mv.of T H) (et_test (ev_op (by walk_at "ev") (ev_op (by walk_at "ev") ev_c (rv_ixL l0 rfl)) (rv_inI lh))) (fun hb H1 e1 _ => ?_) (fun hb H1 e1 _ => ?_)
    · have hb := of_decide_eq_true hb
      have A1 := A.ex e1
      have ed : s.drop i = { s with hung := s.hung.erase i } := by unfold PSt.drop; rw [if_pos hb]
      rw [ed]
      exact s_rem (Mv.of T H1) A1.hg (ev_op (by walk_at "ev") ev_c (rv_ixL A1.l0 rfl)) (by walk_at "ev") hb fun H2 e2 _ => ⟨rfl, (e1.trans e2).mv.set (.inl sh) (A1.ex e2).hg, (A1.ex e2).putH rfl⟩
    · have hb := of_decide_eq_false hb
      have A1 := A.ex e1
      have ed : s.drop i = { s with book := s.book.erase i } := by unfold PSt.drop; rw [if_neg hb]
      rw [ed]
      exact s_rem (Mv.of T H1) A1.wt (ev_op (by walk_at "ev") ev_c (rv_ixL A1.l0 rfl)) (by walk_at "ev") (inOrd_mem.mpr (hi.resolve_left hb)) fun H2 e2 _ => ⟨rfl, (e1.trans e2).mv.set (.inl sw) (A1.ex e2).wt, (A1.ex e2).putW (erase_ord o.nb)⟩
  · rintro σ' H1 ⟨rfl, M1, A1⟩
    have l1 := A1.l0
    have lh1 := A1.lh
    have lw1 := A1.lw
    have eb : decide (inOrd (s.drop i).ranks (s.drop i).book = []) = decide ((s.drop i).book = []) := by
      rw [Bool.eq_iff_iff, decide_eq_true_eq, decide_eq_true_eq]
      rw [← List.length_eq_zero_iff, inOrd_len, List.length_eq_zero_iff]
    refine s_if (b := decide ((s.drop i).hung = []) && !decide ((s.drop i).book = [])) (Mv.of T H1) (et_and (et_test (ev_opVL (ev_op (by walk_at "ev") ev_c (rv_ixL l1 rfl)) (el_lst ea_nil (by decide)) fun q H2 hq e => rv_eqDI (dp_n (e.at A1.hg)) (dp_n (ns := []) hq))) fun _ => et_is (et_test (ev_opVL (ev_op (by walk_at "ev") ev_c (rv_ixL l1 rfl)) (el_lst ea_nil (by decide)) fun q H2 hq e => rv_neDI (dp_n (e.at A1.wt)) (dp_n (ns := []) hq))) (by rw [eb])) (fun hb H2 e2 _ => ?_) (fun hb H2 e2 _ => nextI ?_)
    · have hb : (s.drop i).hung = [] ∧ (s.drop i).book ≠ [] := by simpa using hb
      have eg : s.go i = (s.drop i).call := by unfold PSt.go; rw [if_pos hb]
      rw [eg] at k
      have A2 := A1.ex e2
      have m0 : 0 ≤ s.many := by have := o.m0; omega
      have nbd : (s.drop i).book.Nodup := by
        unfold PSt.drop
        split
        · exact o.nb
        · exact o.nb.sublist List.erase_sublist
      generalize hd : s.drop i = d at *
      have em : d.many = s.many := key.2
      have el := el_sl (T := T) (ta := tOp (rIxL K) (tVar 1) (tC (.int 1))) (tl := tNoPart) (th := tPart (tVar 0)) (σ := [some (.int s.many), some (.ref a), some (.int i)]) (ev_op (by walk_at "ev") ev_c (rv_ixL A2.l0 rfl)) eo_no (eo_part (i := s.many) (by walk_at "ev")) A2.lw
      rw [cut_lo m0, ← List.map_take] at el
      refine q_setLR (l := a) (i := 0) (j := 0) (Mv.of T H2) A2.at_ el (by walk_at "ev") ev_c rfl fun v H3 H4 e3 _ hv e4 => ?_
      obtain ⟨h', rfl, nh, hh⟩ := hv
      have A4 := A2.ex (e3.trans e4)
      have M5 := ((M1.trans e2.mv).trans ((e3.trans e4).mv (S := S))).set (o := .lst [.ref h', .ref w, .ref c]) (.inl sa) A4.at_
      have A5 := A4.newH (q := h') (e4.at hh) (nh.ne A2.at_).symm (nh.ne A2.wt).symm (nh.ne A2.ct).symm
      show tSeq _ _ _ _ (upd H4 a (.lst [.ref h', .ref w, .ref c]))
      generalize (upd H4 a (.lst [.ref h', .ref w, .ref c])) = H5 at M5 A5
      have el := el_sl (T := T) (ta := tOp (rIxL K) (tVar 1) (tC (.int 1))) (tl := tPart (tVar 0)) (th := tNoPart) (σ := [some (.int s.many), some (.ref a), some (.int i)]) (ev_op (by walk_at "ev") ev_c (rv_ixL A5.l0 rfl)) (eo_part (i := s.many) (by walk_at "ev")) eo_no A5.lw
      rw [cut_hi m0, ← List.map_drop] at el
      refine q_setLR (l := a) (i := 1) (j := 1) (Mv.of T H5) A5.at_ el (by walk_at "ev") ev_c rfl fun v H6 H7 e6 _ hv e7 => ?_
      obtain ⟨w', rfl, nw, hw⟩ := hv
      have A7 := A5.ex (e6.trans e7)
      have M8 := (M5.trans ((e6.trans e7).mv (S := S))).set (o := .lst [.ref h', .ref w', .ref c]) (.inl sa) A7.at_
      have A8 := A7.newW (q := w') (ys := (inOrd d.ranks d.book).drop s.many.toNat) (e7.at hw) (inOrd_self ((inOrd_bef nbd).drop)).symm (nw.ne A5.at_).symm (nw.ne A5.hg) (nw.ne A5.ct).symm
      show tSeq _ _ _ _ (upd H7 a (.lst [.ref h', .ref w', .ref c]))
      generalize (upd H7 a (.lst [.ref h', .ref w', .ref c])) = H8 at M8 A8
      have l8 := A8.l0
      have lc8 := A8.lc
      have lh8 : SqL K H8 h' (((inOrd d.ranks d.book).take s.many.toNat).map V.int) := A8.lh
      refine q_setL (v := .int (d.laid + ((inOrd d.ranks d.book).take s.many.toNat).length)) (l := c) (i := 1) (j := 1) (Mv.of T H8) A8.ct (ev_op (ev_op (ev_op (by walk_at "ev") ev_c (rv_ixL l8 rfl)) ev_c (rv_ixL (v := .int d.laid) lc8 rfl)) (ev_cb (ea_cons (ev_op (by walk_at "ev") ev_c (rv_ixL l8 rfl)) ea_nil) (rc_lenI lh8)) rv_i0) (ev_op (by walk_at "ev") ev_c (rv_ixL l8 rfl)) ev_c rfl fun H9 e9 _ => ?_
      have A10 := (A8.ex e9).putC (x := d.came) (y := d.laid + ((inOrd d.ranks d.book).take s.many.toNat).length) (z := d.calls)
      have M10 := (M8.trans (e9.mv (S := S))).set (o := .lst [.int d.came, .int (d.laid + ((inOrd d.ranks d.book).take s.many.toNat).length), .int d.calls]) (.inl sc) (A8.ex e9).ct
      show tAsg _ _ _ _ (upd H9 c (.lst [.int d.came, .int (d.laid + ((inOrd d.ranks d.book).take s.many.toNat).length), .int d.calls]))
      generalize (upd H9 c (.lst [.int d.came, .int (d.laid + ((inOrd d.ranks d.book).take s.many.toNat).length), .int d.calls])) = H10 at A10 M10
      have l10 := A10.l0
      have lc10 := A10.lc
      refine s_setL (v := .int (d.calls + 1)) (l := c) (i := 2) (j := 2) (Mv.of T H10) A10.ct (ev_op (ev_op (ev_op (by walk_at "ev") ev_c (rv_ixL l10 rfl)) ev_c (rv_ixL (v := .int d.calls) lc10 rfl)) ev_c rv_i0) (ev_op (by walk_at "ev") ev_c (rv_ixL l10 rfl)) ev_c rfl fun H11 e11 _ => ?_
      have A12 := (A10.ex e11).putC (x := d.came) (y := d.laid + ((inOrd d.ranks d.book).take s.many.toNat).length) (z := d.calls + 1)
      refine k _ (fun x => S x ∨ nod H x) ((M10.trans (e11.mv (S := S))).set (.inl sc) (A10.ex e11).ct) ⟨h', w', c, ?_, .inl sa, .inr ((M1.trans e2.mv).dm _ nh), .inr (M5.dm _ nw), .inl sc⟩ fun x hx => hx
      have ec : d.call = { d with hung := (inOrd d.ranks d.book).take s.many.toNat, book := (inOrd d.ranks d.book).drop s.many.toNat, laid := d.laid + ((inOrd d.ranks d.book).take s.many.toNat).length, calls := d.calls + 1 } := by
        unfold PSt.call
        rw [em]
      rw [ec]
      exact A12
    · have hb : ¬ ((s.drop i).hung = [] ∧ (s.drop i).book ≠ []) := by
        rintro ⟨z1, z2⟩
        simp [z1, z2] at hb
      have eg : s.go i = s.drop i := by unfold PSt.go; rw [if_neg hb]
      rw [eg] at k
      exact k H2 S (M1.trans e2.mv) ⟨h, w, c, A1.ex e2, sa, sh, sw, sc⟩ fun x hx => .inl hx
theorem p_l_shows (h : sp_l_shows K T vs H Q E) : r_l_shows K T { nx := fun _ H' => Q .non H', rt := Q } (start ["_law_pegs", "_law_state", "_law_held", "_law_found", "_law_first", "_law_three"] vs) H := by
  obtain ⟨a, b, p, s, S, S2, rs, rfl, O, ⟨⟨h, w, c, A, sa, sh, sw, sc⟩⟩, o, tb, hp, hz, np, k⟩ := h
  unfold r_l_shows
  obtain ⟨dx, r, h', b', P, _⟩ := O.ex
  have lenw : (inOrd s.ranks s.book).length ≤ 60 := by have := o.len; rw [inOrd_len]; omega
  have lenh : s.hung.length ≤ 60 := by have := o.len; omega
  refine q_asgR (Mv.of T H) (er_pair2 (xs := s.hung.map V.int) (ys := (inOrd s.ranks s.book).map V.int) (er_meth (by walk_at "ev") P.at_ rfl ea_nil rfl (v_on_pegs O) newL_back) (er_meth (by walk_at "ev") P.at_ rfl ea_nil rfl (v_waiting O tb) newL_back)) fun v H1 σ2 hs e1 _ hv => ?_
  obtain ⟨f, x, y, rfl, nf, nx, ny, hf, hx, hy, xf, yf, xy⟩ := hv
  subst hs
  have P1 := P.ex e1
  refine q_asg (v := oI s.hung.head?) (Mv.of T H1) (ev_meth (by walk_at "ev") P1.at_ rfl ea_nil rfl (v_first (O.ex' e1))) rfl fun H2 e2 _ => ?_
  have P2 := P1.ex e2
  refine q_asgR (Mv.of T H2) (er_meth (by walk_at "ev") P2.at_ rfl ea_nil rfl (v_tallies (O.ex' (e1.trans e2))) newU_back) fun v H3 σ2 hs e3 _ hv => ?_
  obtain ⟨t, rfl, nt, ht⟩ := hv
  subst hs
  have e13 := e2.trans e3
  have e03 := e1.trans e13
  have A3 := A.ex e03
  have hf3 := e13.at hf
  have lf3 : SqL K H3 f [.ref x, .ref y] := .inl (.inl hf3)
  have hx3 := e13.at hx
  have hy3 := e13.at hy
  have lt3 : SqT K H3 t [.int s.came, .int s.laid, .int s.calls] := .inl (.inl ht)
  have l03 := A3.l0
  refine q_if (b := false) (Mv.of T H3) (et_is (et_or (et_not (et_B (ev_call0 (ea_cons (ev_op (by walk_at "ev") ev_c (rv_ixL lf3 rfl)) (ea_cons (ev_op (by walk_at "ev") ev_c (rv_ixL l03 rfl)) ea_nil)) (v_list hx3 A3.lh (by omega))))) fun _ => et_not (et_B (ev_call0 (ea_cons (ev_op (by walk_at "ev") ev_c (rv_ixL lf3 rfl)) (ea_cons (ev_op (by walk_at "ev") ev_c (rv_ixL l03 rfl)) ea_nil)) (v_list hy3 A3.lw (by omega))))) rfl) (fun hb => nomatch hb) (fun _ H4 e4 _ => nextI ?_)
  dsimp only
  have A4 := A3.ex e4
  have l04 := A4.l0
  have lt4 := e4.t lt3
  have elt := el_list (T := T) (σ := [some (.ref a), some (.ref b), some (.ref p), some (.ref f), some (oI s.hung.head?), some (.ref t)]) (ta := tVar 5) (by walk_at "ev") (.inr lt4)
  refine q_if (b := false) (Mv.of T H4) (et_is (et_or (et_not (et_B (ev_cb (by walk_at "ea") (rc_isT (e4.at ht) (by decide))))) fun _ => et_not (et_B (EvR.toV (er_callLV (x := .ref c) elt (ev_op (by walk_at "ev") ev_c (rv_ixL l04 rfl)) fun q H5 hq e5 => SpR.ofV (v_list (ns := [s.came, s.laid, s.calls]) hq (e5.l A4.lc) (by simp)))))) (by rfl)) (fun hb => nomatch hb) (fun _ H5 e5 _ => nextI ?_)
  dsimp only
  have e35 := e4.trans e5
  have hp5 := (e03.trans e35).at hp
  have lp5 : SqL K H5 p rs := .inl (.inl hp5)
  have hf5 := e35.at hf3
  have hx5 := e35.at hx3
  have hy5 := e35.at hy3
  have lf5 : SqL K H5 f [.ref x, .ref y] := .inl (.inl hf5)
  have A5 := A4.ex e5
  refine q_cut (fun σ' H' => σ' = [some (.ref a), some (.ref b), some (.ref p), some (.ref f), some (oI s.hung.head?), some (.ref t)] ∧ Ex T H H' ∧ ∃ d : List Int × List Int, H' f = some (.lst [.ref x, .ref y]) ∧ H' x = some (.lst (d.1.map V.int)) ∧ H' y = some (.lst (d.2.map V.int))) ?_ ?_
  · refine s_if (b := decide ((rs.length : Int) % 3 = 1)) (Mv.of T H5) (et_test (ev_op (ev_op (ev_cb (by walk_at "ea") (rc_len (.inl lp5))) ev_c (rv_i (by decide))) ev_c rv_eqI)) (fun hb H6 e6 _ => ?_) (fun hb H6 e6 _ => nextI ⟨rfl, (e03.trans e35).trans e6, (s.hung, inOrd s.ranks s.book), e6.at hf5, e6.at hx5, e6.at hy5⟩)
    refine q_app (v := .int 0) (l := x) (Mv.of T H6) (e6.at hx5) (ev_op (by walk_at "ev") ev_c (rv_ixL (e6.l lf5) rfl)) ev_c (by rw [List.length_map]; omega) fun H7 e7 _ => ?_
    have e57 := e6.trans e7
    have m8 := ((e03.trans e35).trans e57).set (o := .lst (s.hung.map V.int ++ [.int 0])) (.inr nx) (e57.at hx5)
    have hf8 : upd H7 x (.lst (s.hung.map V.int ++ [.int 0])) f = some (.lst [.ref x, .ref y]) := by rw [upd_ne xf.symm]; exact e57.at hf5
    have hy8 : upd H7 x (.lst (s.hung.map V.int ++ [.int 0])) y = some (.lst ((inOrd s.ranks s.book).map V.int)) := by rw [upd_ne xy.symm]; exact e57.at hy5
    have hx8 : upd H7 x (.lst (s.hung.map V.int ++ [.int 0])) x = some (.lst ((s.hung ++ [0]).map V.int)) := by rw [upd_same, List.map_append]; rfl
    generalize (upd H7 x (.lst (s.hung.map V.int ++ [.int 0]))) = H8 at m8 hf8 hy8 hx8
    have lf8 : SqL K H8 f [.ref x, .ref y] := .inl (.inl hf8)
    refine s_ins (v := .int 0) (i := 0) (l := y) (Mv.of T H8) hy8 (ev_op (by walk_at "ev") ev_c (rv_ixL lf8 rfl)) ev_c ev_c (by rw [List.length_map]; omega) (by decide) (by decide) fun H9 e9 _ => ⟨rfl, (m8.trans e9).set (.inr ny) (e9.at hy8), (s.hung ++ [0], 0 :: inOrd s.ranks s.book), ?_, ?_, ?_⟩
    · rw [upd_ne yf.symm]; exact e9.at hf8
    · rw [upd_ne xy]; exact e9.at hx8
    · rw [upd_same]; rfl
  · rintro σ' H6 ⟨rfl, e6, d, hf6, hx6, hy6⟩
    have hp6 := e6.at hp
    refine q_app (v := .ref f) (l := p) (Mv.of T H6) hp6 (by walk_at "ev") (by walk_at "ev") (by omega) fun H7 e7 _ => ?_
    have e07 := e6.trans e7
    have m8 : Mv T (fun b => b = p) H (upd H7 p (.lst (rs ++ [.ref f]))) := (e07.mv).set (.inl rfl) (e7.at hp6)
    have pf : f ≠ p := Ne.symm (nf.ne hp)
    have px : x ≠ p := Ne.symm (nx.ne hp)
    have py : y ≠ p := Ne.symm (ny.ne hp)
    have fr : FrD K H (upd H7 p (.lst (rs ++ [.ref f]))) (.ref f) (itD d) := by
      have q : ∀ {z : Addr} {xs : List V}, nod H z → z ≠ p → H6 z = some (.lst xs) → res (upd H7 p (.lst (rs ++ [.ref f]))) (nod H) z = some (.lst xs) := fun n ne e => by
        rw [res_at n, upd_ne ne]
        exact e7.at e
      exact .lst (.inl (.inl (q nf pf hf6))) (.cons (dp_n (q nx px hx6)) (.cons (dp_n (q ny py hy6)) .nil))
    have it : ∃ y' z, upd H7 p (.lst (rs ++ [.ref f])) f = some (.lst [.ref y', .ref z]) ∧ upd H7 p (.lst (rs ++ [.ref f])) y' = some (.lst (List.map V.int d.1)) ∧ upd H7 p (.lst (rs ++ [.ref f])) z = some (.lst (List.map V.int d.2)) :=
      ⟨x, y, by rw [upd_ne pf]; exact e7.at hf6, by rw [upd_ne px]; exact e7.at hx6, by rw [upd_ne py]; exact e7.at hy6⟩
    have hp8 : upd H7 p (.lst (rs ++ [.ref f])) p = some (.lst (rs ++ [.ref f])) := upd_same
    have A8 := (A.ex e07).mv (T := T) (H' := upd H7 p (.lst (rs ++ [.ref f]))) (S := fun b => b = p) (Mv.set1 (e7.at hp6)) ?_ ?_ ?_ ?_
    · generalize (upd H7 p (.lst (rs ++ [.ref f]))) = H8 at m8 fr it hp8 A8
      have l08 := A8.l0
      refine q_if (b := decide (s.hung = [])) (Mv.of T H8) (et_test (ev_opVL (ev_op (by walk_at "ev") ev_c (rv_ixL l08 rfl)) (el_lst ea_nil (by decide)) fun q H9 hq e => rv_eqDI (dp_n (e.at A8.hg)) (dp_n (ns := []) hq))) (fun hb H9 e9 _ => ?_) (fun hb H9 e9 _ => nextI ?_)
      · have z := of_decide_eq_true hb
        rw [z]
        exact s_ret (v := .bl true) e9 (ev_is (by walk_at "ev") (by simp [oI])) fun H10 e10 => by
          obtain ⟨y', z', i1, i2, i3⟩ := it
          exact k H10 f d (m8.trans e10.mv) (e10.at hp8) (fr.ex e10) ⟨y', z', e10.at i1, e10.at i2, e10.at i3⟩
      · have z := of_decide_eq_false hb
        dsimp only
        obtain ⟨j, js, hj⟩ := List.exists_cons_of_ne_nil z
        have lh8 := A8.lh
        have lh9 : SqL K H9 h (s.hung.map V.int) := e9.l lh8
        rw [hj] at lh9
        rw [hj]
        exact s_ret (v := .bl true) (Mv.of T H9) (ev_is (v := .bl (true && decide (j = j))) (ev_and (ev_call0 (by walk_at "ea") (v_wholeI (i := j))) fun _ => ev_op (by walk_at "ev") (ev_op (ev_op (by walk_at "ev") ev_c (rv_ixL (e9.l l08) rfl)) ev_c (rv_ixI lh9 (by decide) (by simp))) (by exact rv_eqI)) (by simp)) fun H10 e10 => by
          obtain ⟨y', z', i1, i2, i3⟩ := it
          have e := e9.trans e10
          exact k H10 f d (m8.trans e.mv) (e.at hp8) (fr.ex e) ⟨y', z', e.at i1, e.at i2, e.at i3⟩
    · exact fun z => np (z ▸ sa)
    · exact fun z => np (z ▸ sh)
    · exact fun z => np (z ▸ sw)
    · exact fun z => np (z ▸ sc)
end
end Fp

namespace Fp
open PySem PySem.Spec PyProof.Rows L2 LamX
/-! ### a caught refusal asked for its class -/
def seven : List Str := ["NoPegs", "NoBoard", "NoPicture", "NoLine", "NoBar", "NotTop", "NoDeed"]
structure Xk (K : PySem.W.Frag) (d : Str) : Prop where
  exc : ExcC K (He.ga K d)
  exm : PySem.W.exmOne K (.ref (He.ga K d)) (.ref (He.ga K "BoardError")) = some true
  kit : ∀ c ∈ seven, PySem.W.kitOne K (.ref (He.ga K d)) (.ref (He.ga K c)) = some (decide (c = d))
  ve : PySem.W.kitOne K (.ref (He.ga K d)) (.type "ValueError") = some true
def excB (K : PySem.W.Frag) (D : Addr) : Bool := decide (PySem.W.findIn K (.ref D) "__getattribute__" = some (some (.builtin "BaseException.__getattribute__"))) && (decide (PySem.W.findIn K (.ref D) "__getattr__" = some none) && (decide (PySem.W.subIn K (.ref D) (.type "BaseException") = some true) && (PySem.W.hasDictIn K D && (decide (PySem.W.findIn K (.ref D) "__class__" = some (some (.builtin "object.__class__"))) && (decide (PySem.W.specialIn K (.builtin "object.__class__") "__get__" = some (some (.builtin "getset_descriptor.__get__"))) && (decide (PySem.W.takesIn K (.builtin "object.__class__") = some true) && decide (PySem.W.mroIn K D (.type "object") = some true)))))))
def xkB (K : PySem.W.Frag) (d : Str) : Bool := excB K (He.ga K d) && (decide (PySem.W.exmOne K (.ref (He.ga K d)) (.ref (He.ga K "BoardError")) = some true) && ((seven.all fun c => decide (PySem.W.kitOne K (.ref (He.ga K d)) (.ref (He.ga K c)) = some (decide (c = d)))) && decide (PySem.W.kitOne K (.ref (He.ga K d)) (.type "ValueError") = some true)))
theorem xkB_ok {K : PySem.W.Frag} {d : Str} (h : xkB K d = true) : Xk K d := by
  unfold xkB excB at h
  simp only [Bool.and_eq_true, decide_eq_true_eq, List.all_eq_true] at h
  obtain ⟨⟨h1, h2, h3, h4, h5, h6, h7, h8⟩, h9, h10, h11⟩ := h
  exact ⟨⟨h1, h2, h3, h4, h5, h6, h7, h8⟩, h9, h10, h11⟩
section
variable {T : List (Addr × Str)} {K : PySem.W.Frag} {σ : L2.St} {H H0 : Hp} {te ta tb : TE} {D : Ends} {a : Addr}
theorem rc_isE {D : Addr} {c : Addr} {b : Bool} (h : PySem.W.kitOne K (.ref D) (.ref c) = some b) : RC T (rIsE K D a) [.ref a, .ref c] H (.bl b) := fun H1 _ _ q => ⟨.ref c, .ref c, b, rfl, fun _ z => z, h, q H1 Mv.refl⟩
theorem rc_isVE {D : Addr} {b : Bool} (h : PySem.W.kitOne K (.ref D) (.type "ValueError") = some b) : RC T (rIsE K D a) [.ref a, .ty "ValueError"] H (.bl b) := fun H1 _ _ q => ⟨.ty "ValueError", .type "ValueError", b, rfl, fun _ z => z, h, q H1 Mv.refl⟩
/-- one of a list of things of all kinds -/
def KinOf : Kin → V → Prop
  | .v x, y => y = x
  | .k _, y => ∃ a, y = .ref a
theorem Ks.get2 {ks : List Kin} {ys : List V} (h : Ks H ks ys) {i : Nat} {z : Kin} (hz : ks[i]? = some z) : ∃ y, ys[i]? = some y ∧ kd H y ≠ "" ∧ KinOf z y := by
  induction ks generalizing ys i with
  | nil => cases hz
  | cons k ks ih =>
    cases ys with
    | nil => cases k <;> exact h.elim
    | cons y ys =>
      cases i with
      | zero =>
        obtain rfl := Option.some.inj hz
        cases k with
        | v x =>
          obtain ⟨rfl, h1, _⟩ := h
          exact ⟨_, rfl, h1, rfl⟩
        | k c =>
          obtain ⟨⟨a, rfl⟩, h1, h2, _⟩ := h
          exact ⟨_, rfl, by rw [h1]; exact h2, a, rfl⟩
      | succ i =>
        cases k with
        | v x => exact ih h.2.2 hz
        | k c => exact ih h.2.2.2 hz
theorem er_ixK {tl : TA} {ks : List Kin} {i : Int} {j : Nat} {z : Kin} (h : EvK T tl σ H ks) (hi : Ev T tb σ H (.int i)) (hl : ks.length ≤ 100000) (hj : i = j) (hz : ks[j]? = some z) : EvR T (tOp (rIxL K) (tLst tl) tb) σ H (fun _ v H2 => kd H2 v ≠ "" ∧ KinOf z v) := fun H1 e Q q =>
  er_lstK h hl H1 e _ fun v H2 e2 ⟨p, xs, ev, hk, hp⟩ => by
    subst ev
    refine hi H2 (e.trans e2) _ fun H3 e3 => ?_
    obtain ⟨y, hy, hky, hyz⟩ := (hk.ex e3).get2 hz
    exact ⟨p, xs, i, y, rfl, rfl, .inl (.inl (e3.at hp)), by rw [hj]; exact atI_nat hy, q y H3 (e2.trans e3) ⟨hky, hyz⟩⟩
theorem dp_bs : ∀ bs : List Bool, DpAll K H (bs.map V.bl) (bs.map PyData.bool)
  | [] => .nil
  | b :: bs => .cons (.bl b) (dp_bs bs)
end
end Fp

local macro_rules | `(tactic| walk_at "sp") => `(tactic| first | exact Fp.v_wholeI | exact Fp.v_is_wholeI | exact Fp.v_whole (by assumption) | exact Fp.v_is_whole (by assumption) | exact Fp.v_before (by walk_at "fact") (by assumption) (by assumption) | exact Fp.v_comes (by walk_at "fact") (by assumption) (by assumption) | exact Fp.v_cell_at (by walk_at "fact") (by decide))
namespace Fp
open PySem PySem.Spec PyProof.Rows L2 LamX
def sp_l_refused (K : PySem.W.Frag) (T : List (Addr × Str)) : Sp := fun vs H Q _ => ∃ r c, vs = [.ref r, .int c] ∧ Xk K "NoPegs" ∧ ∀ H', Ex T H H' → Q (.bl true) H'
theorem len_l_refused {K : PySem.W.Frag} {T : List (Addr × Str)} : ∀ vs H Q E, sp_l_refused K T vs H Q E → vs.length = 2 := fun vs H Q E h => by
  obtain ⟨_, _, rfl, _⟩ := h
  exact rfl
def r_l_refused (K : PySem.W.Frag) (T : List (Addr × Str)) : TS :=
  (tSeq (tAsg (tOp (rIxL K) (tLst (tCons (tC (.int 0)) (tCons (tC (.int 17)) (tCons (tUn (rU fun i => .int (-i)) (tC (.int 1))) (tCons (tC (.bl true)) (tCons (tC (.bl false)) (tCons (tC .non) (tCons (tC (.str "3")) (tCons (tLst (tCons (tC (.int 3)) tNil)) (tCons (tTup (tCons (tC (.int 2)) tNil)) (tCons (tOp oAdd (tC (.int 17)) (tOp oMod (tOp oDiv (tVar 1) (tC (.int 10))) (tOp oPow (tC (.int 10)) (tC (.int 60))))) tNil))))))))))) (tOp oMod (tVar 1) (tC (.int 10)))) (gName 2))
  (tSeq (tAsg (tLst tNil) (gName 3))
  (tSeq (tTryAs K (.ref (He.ga K "BoardError")) 4 (fun W => (tDrop (tMakeS (He.ga K "Pegs") (sp_Pegs_init K T) [] (WE W) (tCons (tVar 0) (tCons (tVar 2) (tCons (tLst (tCons (tC (.int 0)) tNil)) tNil)))))) (fun a cls d Dn σ H => ∃ D : Addr, (cls = .ref D ∧ d = none ∧ ExcC K D) ∧ (tSeq (tAsg (tLst (tCons (tCB (rIsE K D a) (tCons (tVar 4) (tCons (tC (.ref (He.ga K "NoPegs"))) tNil))) (tCons (tCB (rIsE K D a) (tCons (tVar 4) (tCons (tC (.ty "ValueError")) tNil))) (tCons (tCB (rIsE K D a) (tCons (tVar 4) (tCons (tC (.ref (He.ga K "NoBoard"))) tNil))) (tCons (tCB (rIsE K D a) (tCons (tVar 4) (tCons (tC (.ref (He.ga K "NoPicture"))) tNil))) tNil))))) (gName 3))
  (tAsg (tOp rCat (tVar 3) (tLst (tCons (tCB (rIsE K D a) (tCons (tVar 4) (tCons (tC (.ref (He.ga K "NoLine"))) tNil))) (tCons (tCB (rIsE K D a) (tCons (tVar 4) (tCons (tC (.ref (He.ga K "NoBar"))) tNil))) (tCons (tCB (rIsE K D a) (tCons (tVar 4) (tCons (tC (.ref (He.ga K "NotTop"))) tNil))) (tCons (tCB (rIsE K D a) (tCons (tVar 4) (tCons (tC (.ref (He.ga K "NoDeed"))) tNil))) tNil)))))) (gName 3))) Dn σ H))
  (tRet (tOp (rEqD K) (tVar 3) (tLst (tCons (tC (.bl true)) (tCons (tC (.bl true)) (tCons (tC (.bl false)) (tCons (tC (.bl false)) (tCons (tC (.bl false)) (tCons (tC (.bl false)) (tCons (tC (.bl false)) (tCons (tC (.bl false)) tNil))))))))))))))
section
variable {K : PySem.W.Frag} {T : List (Addr × Str)} {H H0 : Hp} {Q : VK} {E : XK} {vs : List V}
theorem v_refused {r : Addr} {c : Int} (x : Xk K "NoPegs") : SpV T (sp_l_refused K T) [.ref r, .int c] H (.bl true) := fun H1 e Q q E => ⟨r, c, rfl, x, q⟩
theorem p_l_refused (h : sp_l_refused K T vs H Q E) : r_l_refused K T { nx := fun _ H' => Q .non H', rt := Q } (start ["_law_ranks_here", "_law_cell", "_law_odd", "_law_kinds", "e"] vs) H := by
  obtain ⟨r, c, rfl, X, q⟩ := h
  unfold r_l_refused
  have b0 := Int.emod_nonneg c (show (10 : Int) ≠ 0 by decide)
  have b1 := Int.emod_lt_of_pos c (show (0 : Int) < 10 by decide)
  have bm := Int.emod_nonneg (c / 10) (show (1000000000000000000000000000000000000000000000000000000000000 : Int) ≠ 0 by decide)
  have hh : ∃ (m : Nat) (z : Kin), c % 10 = m ∧ [Kin.v (.int 0), .v (.int 17), .v (.int (-1)), .v (.bl true), .v (.bl false), .v .non, .v (.str ("3" : Str)), .k "list", .k "tuple", .v (.int (17 + c / 10 % 1000000000000000000000000000000000000000000000000000000000000))][m]? = some z ∧ ∀ y, KinOf z y → isPg y = false := by
    have cs : c % 10 = (0 : Nat) ∨ c % 10 = (1 : Nat) ∨ c % 10 = (2 : Nat) ∨ c % 10 = (3 : Nat) ∨ c % 10 = (4 : Nat) ∨ c % 10 = (5 : Nat) ∨ c % 10 = (6 : Nat) ∨ c % 10 = (7 : Nat) ∨ c % 10 = (8 : Nat) ∨ c % 10 = (9 : Nat) := by omega
    rcases cs with z | z | z | z | z | z | z | z | z | z
    · exact ⟨_, _, z, rfl, fun y hy => by cases (show y = _ from hy); rfl⟩
    · exact ⟨_, _, z, rfl, fun y hy => by cases (show y = _ from hy); rfl⟩
    · exact ⟨_, _, z, rfl, fun y hy => by cases (show y = _ from hy); rfl⟩
    · exact ⟨_, _, z, rfl, fun y hy => by cases (show y = _ from hy); rfl⟩
    · exact ⟨_, _, z, rfl, fun y hy => by cases (show y = _ from hy); rfl⟩
    · exact ⟨_, _, z, rfl, fun y hy => by cases (show y = _ from hy); rfl⟩
    · exact ⟨_, _, z, rfl, fun y hy => by cases (show y = _ from hy); rfl⟩
    · exact ⟨_, _, z, rfl, fun y hy => by obtain ⟨a, rfl⟩ := hy; rfl⟩
    · exact ⟨_, _, z, rfl, fun y hy => by obtain ⟨a, rfl⟩ := hy; rfl⟩
    · exact ⟨_, _, z, rfl, fun y hy => by
        cases (show y = _ from hy)
        rw [isPg_int, Bool.and_eq_false_iff]
        exact .inr (decide_eq_false (by omega))⟩
  obtain ⟨m, z, hm, hz, hg⟩ := hh
  refine q_asgR (Mv.of T H) (er_ixK (j := m) (z := z) (ks := [Kin.v (.int 0), .v (.int 17), .v (.int (-1)), .v (.bl true), .v (.bl false), .v .non, .v (.str ("3" : Str)), .k "list", .k "tuple", .v (.int (17 + c / 10 % 1000000000000000000000000000000000000000000000000000000000000))]) (ek_v ev_c (fun _ _ => by simp [kd]) (ek_v ev_c (fun _ _ => by simp [kd]) (ek_v (ev_neg ev_c) (fun _ _ => by simp [kd]) (ek_v ev_c (fun _ _ => by simp [kd]) (ek_v ev_c (fun _ _ => by simp [kd]) (ek_v ev_c (fun _ _ => by simp [kd]) (ek_v ev_c (fun _ _ => by simp [kd]) (ek_k (el_lst (ea_cons ev_c ea_nil) (by decide)) newL_kd (by decide) (ek_k (eu_tup (ea_cons ev_c ea_nil) (by decide)) newU_kd (by decide) (ek_v (by walk_at "ev") (fun _ _ => by simp [kd]) ek_nil)))))))))) (by walk_at "ev") (by simp) hm hz) fun y H1 σ2 hs e1 _ hy => ?_
  obtain ⟨hky, hyz⟩ := hy
  have hpg := hg y hyz
  subst hs
  refine q_asgR (Mv.of T H1) (el_lst ea_nil (by decide)) fun v H2 σ2 hs e2 _ hv => ?_
  obtain ⟨k0, rfl, _, hk0⟩ := hv
  subst hs
  have fin : ∀ (H3 : Hp), Ex T H H3 → ∀ l, H3 l = some (.lst (List.map V.bl [true, true, false, false, false, false, false, false])) → tRet (tOp (rEqD K) (tVar 3) (tLst (tCons (tC (.bl true)) (tCons (tC (.bl true)) (tCons (tC (.bl false)) (tCons (tC (.bl false)) (tCons (tC (.bl false)) (tCons (tC (.bl false)) (tCons (tC (.bl false)) (tCons (tC (.bl false)) tNil)))))))))) { nx := fun _ H' => Q .non H', rt := Q } [some (.ref r), some (.int c), some y, some (.ref l), none] H3 := fun H3 e3 l hl =>
    s_ret (Mv.of T H3) (ev_opVL (ys := [.bl true, .bl true, .bl false, .bl false, .bl false, .bl false, .bl false, .bl false]) (by walk_at "ev") (el_lst (by walk_at "ea") (by decide)) fun q H4 hq e4 => rv_eqDt (d := .list ([true, true, false, false, false, false, false, false].map PyData.bool)) (.lst (.inl (.inl (e4.at hl))) (dp_bs [true, true, false, false, false, false, false, false])) (.lst (.inl (.inl hq)) (dp_bs [true, true, false, false, false, false, false, false])) (by decide)) fun H4 e4 => q H4 (e3.trans e4)
  have e02 := e1.trans e2
  show tTryAs _ _ _ _ _ _ _ _
  unfold tTryAs tDrop tMakeS tMake
  have l1 := el_lst (T := T) (σ := [some (.ref r), some (.int c), some y, some (.ref k0), none]) (H := H2) (ea_cons (ev_c (v := .int 0)) ea_nil) (by simp)
  refine (ev_var (T := T) (i := 0) (v := .ref r) rfl : Ev T (tVar 0) [some (.ref r), some (.int c), some y, some (.ref k0), none] H2 _) H2 Mv.refl _ fun H3 e3 => ?_
  refine (ev_var (T := T) (i := 2) (v := y) rfl : Ev T (tVar 2) [some (.ref r), some (.int c), some y, some (.ref k0), none] H2 _) H3 e3 _ fun H4 e4 => ?_
  refine l1 H4 (e3.trans e4) _ fun w H5 e5 hw => ?_
  obtain ⟨q0, rfl, nq, hq0⟩ := hw
  intro x dx hx hdx ne
  have e25 := (e3.trans e4).trans e5
  have e6 : Ex T H5 (upd (upd H5 dx (.own x)) x (.ins (He.ga K "Pegs") dx [])) := (Mv.new hdx).trans (Mv.new (by rw [upd_ne (Ne.symm ne)]; exact hx))
  refine ⟨x, r, y, q0, rfl, ?_, .inl ⟨hpg, fun H7 e7 => ⟨true, X.exm, fun _ a ha => ⟨He.ga K "NoPegs", ⟨rfl, rfl, X.exc⟩, ?_⟩, fun z => nomatch z⟩⟩⟩
  · have := kd_ex (e2.trans (e25.trans e6)) (rfl : kd H1 y = kd H1 y) hky
    rw [this]
    exact hky
  · have e27 := (e25.trans e6).trans e7
    have kit : ∀ c, c ∈ seven → PySem.W.kitOne K (.ref (He.ga K "NoPegs")) (.ref (He.ga K c)) = some (decide (c = "NoPegs")) := X.kit
    refine q_asgR (Mv.of T H7) (el_lst (ea_cons (ev_cb (by walk_at "ea") (rc_isE (kit "NoPegs" (by decide)))) (ea_cons (ev_cb (by walk_at "ea") (rc_isVE X.ve)) (ea_cons (ev_cb (by walk_at "ea") (rc_isE (kit "NoBoard" (by decide)))) (ea_cons (ev_cb (by walk_at "ea") (rc_isE (kit "NoPicture" (by decide)))) ea_nil)))) (by simp)) fun w H8 σ2 hs e8 _ hw => ?_
    obtain ⟨k1, rfl, _, hk1⟩ := hw
    subst hs
    refine s_asgR (Mv.of T H8) (el_cat (by walk_at "ev") hk1 (el_lst (ea_cons (ev_cb (by walk_at "ea") (rc_isE (kit "NoLine" (by decide)))) (ea_cons (ev_cb (by walk_at "ea") (rc_isE (kit "NoBar" (by decide)))) (ea_cons (ev_cb (by walk_at "ea") (rc_isE (kit "NotTop" (by decide)))) (ea_cons (ev_cb (by walk_at "ea") (rc_isE (kit "NoDeed" (by decide)))) ea_nil)))) (by simp)) (by simp)) fun w H9 e9 _ hw => ?_
    obtain ⟨k2, rfl, _, hk2⟩ := hw
    refine fin H9 ((e02.trans e27).trans (e8.trans e9)) k2 ?_
    rw [hk2]
    rfl
end
end Fp

namespace Fp
open PySem PySem.Spec PyProof.Rows L2 LamX
theorem lay_its : ∀ hd : List (List Int × List Int), PyData.canLayAll0 (hd.map itD) = true ∧ PyData.depthAll (hd.map itD) ≤ 2
  | [] => ⟨rfl, Nat.zero_le _⟩
  | d :: hd => by
    have ih := lay_its hd
    have a := lay_dI (ns := d.1)
    have b := lay_dI (ns := d.2)
    constructor
    · simp [PyData.canLayAll0, itD, PyData.canLay0, a.1, b.1, ih.1]
    · simp only [List.map_cons, PyData.depthAll, itD, PyData.depth, a.2, b.2]
      have := ih.2
      omega
theorem sh_its {hd : List (List Int × List Int)} : SeqAt.shaped (.list (hd.map itD)) = true := by
  have h := lay_its hd
  have h2 := h.2
  unfold SeqAt.shaped
  rw [show PyData.canLay0 (.list (hd.map itD)) = true by unfold PyData.canLay0; exact h.1, show PyData.depth (.list (hd.map itD)) = PyData.depthAll (hd.map itD) + 1 by simp only [PyData.depth]]
  simp
  omega
/-- who owns what in the law's loop: 1 the pegs, 2 the law's state, 3 the list held, 4 the list kept, 5 what is frozen -/
structure Lw (K : PySem.W.Frag) (T : List (Addr × Str)) (H4 H' : Hp) (own : Addr → Nat) (a b hp kp q : Addr) (s1 s2 : PSt) (rs ks qs : List V) (hd hk : List (List Int × List Int)) : Prop where
  ex : Ex T H4 H'
  fr : ∀ x, own x ≠ 0 → nod H4 x ∧ ¬ nod H' x
  peg : PegO K H' a s1 (fun x => own x = 1)
  st : StO K H' b s2 (fun x => own x = 2)
  o3 : own hp = 3
  h3 : H' hp = some (.lst rs)
  o4 : own kp = 4
  h4 : H' kp = some (.lst ks)
  dr : DpAll K (res H' (fun x => own x = 5)) rs (hd.map itD)
  dk : DpAll K (res H' (fun x => own x = 5)) ks (hk.map itD)
  o0 : own q = 0
  hq : H' q = some (.lst qs)
section
variable {K : PySem.W.Frag} {T : List (Addr × Str)} {H4 H' H1 : Hp} {own : Addr → Nat} {a b hp kp q : Addr} {s1 s2 s' : PSt} {rs ks qs : List V} {hd hk : List (List Int × List Int)} {S' : Addr → Prop}
open Classical in
/-- S' is given to the owner n -/
noncomputable def give (own : Addr → Nat) (H1 : Hp) (S' : Addr → Prop) (n : Nat) : Addr → Nat := fun x => if S' x ∧ ¬ nod H1 x then n else own x
theorem give_in {n : Nat} {x : Addr} (h : S' x) (h2 : ¬ nod H1 x) : give own H1 S' n x = n := if_pos ⟨h, h2⟩
theorem give_out {n : Nat} {x : Addr} (h : ¬ S' x) : give own H1 S' n x = own x := if_neg fun z => h z.1
theorem Lw.ex' (L : Lw K T H4 H' own a b hp kp q s1 s2 rs ks qs hd hk) (e : Ex T H' H1) : Lw K T H4 H1 own a b hp kp q s1 s2 rs ks qs hd hk :=
  ⟨L.ex.trans e, fun x h => ⟨(L.fr x h).1, fun z => (L.fr x h).2 (e.dm x z)⟩, L.peg.ex' e, L.st.ex' e, L.o3, e.at L.h3, L.o4, e.at L.h4, (e.sub2 (fun _ _ h => h) fun _ h _ => h).dps L.dr, (e.sub2 (fun _ _ h => h) fun _ h _ => h).dps L.dk, L.o0, e.at L.hq⟩
/-- what a change of the owner n, with new places, leaves to the others -/
theorem Lw.rest {n : Nat} (L : Lw K T H4 H' own a b hp kp q s1 s2 rs ks qs hd hk) (hn : n ≠ 0) (m : Mv T (fun x => own x = n) H' H1) (hS : ∀ x, S' x → own x = n ∨ nod H' x) :
    Ex T H4 H1 ∧ (∀ x, give own H1 S' n x ≠ 0 → nod H4 x ∧ ¬ nod H1 x) ∧ (∀ x, own x ≠ n → ¬ nod H' x → give own H1 S' n x = own x) ∧ ∀ j, j ≠ n → Sub (res H' (fun x => own x = j)) (res H1 (fun x => give own H1 S' n x = j)) := by
  have g : ∀ x, own x ≠ n → ¬ nod H' x → give own H1 S' n x = own x := fun x h1 h2 => give_out fun z => (hS x z).elim h1 h2
  refine ⟨L.ex.seq m fun x h => .inr (L.fr x (by rw [h]; exact hn)).1, fun x h => ?_, g, fun j hj => m.sub2 (fun x h z => hj (h.symm.trans z)) fun x h h2 => by rw [g x (fun z => hj (h.symm.trans z)) h2]; exact h⟩
  by_cases z : S' x ∧ ¬ nod H1 x
  · refine ⟨?_, z.2⟩
    rcases hS x z.1 with w | w
    · exact (L.fr x (by rw [w]; exact hn)).1
    · exact L.ex.dm x w
  · rw [show give own H1 S' n x = own x from if_neg z] at h
    exact ⟨(L.fr x h).1, fun w => (L.fr x h).2 (m.dm x w)⟩
theorem Lw.mutPeg (L : Lw K T H4 H' own a b hp kp q s1 s2 rs ks qs hd hk) (m : Mv T (fun x => own x = 1) H' H1) (O : PegO K H1 a s' S') (hS : ∀ x, S' x → own x = 1 ∨ nod H' x) : Lw K T H4 H1 (give own H1 S' 1) a b hp kp q s' s2 rs ks qs hd hk := by
  obtain ⟨r1, r2, r3, r4⟩ := L.rest (by decide) m hS
  have n3 := nod.not L.h3 rfl
  have n4 := nod.not L.h4 rfl
  have nq := nod.not L.hq rfl
  exact ⟨r1, r2, O.go (Mv.refl (T := T) (S := no)) (fun _ _ h => h) (fun x h h2 => give_in h h2), L.st.go m (fun x h z => by rw [h] at z; cases z) (fun x h h2 => by rw [r3 x (fun z => by rw [h] at z; cases z) h2]; exact h), by rw [r3 hp (by rw [L.o3]; decide) n3]; exact L.o3, m.kp _ _ L.h3 rfl (by rw [L.o3]; decide), by rw [r3 kp (by rw [L.o4]; decide) n4]; exact L.o4, m.kp _ _ L.h4 rfl (by rw [L.o4]; decide),
    (r4 5 (by decide)).dps L.dr, (r4 5 (by decide)).dps L.dk, by rw [r3 q (by rw [L.o0]; decide) nq]; exact L.o0, m.kp _ _ L.hq rfl (by rw [L.o0]; decide)⟩
theorem Lw.mutSt (L : Lw K T H4 H' own a b hp kp q s1 s2 rs ks qs hd hk) (m : Mv T (fun x => own x = 2) H' H1) (O : StO K H1 b s' S') (hS : ∀ x, S' x → own x = 2 ∨ nod H' x) : Lw K T H4 H1 (give own H1 S' 2) a b hp kp q s1 s' rs ks qs hd hk := by
  obtain ⟨r1, r2, r3, r4⟩ := L.rest (by decide) m hS
  have n3 := nod.not L.h3 rfl
  have n4 := nod.not L.h4 rfl
  have nq := nod.not L.hq rfl
  exact ⟨r1, r2, L.peg.go m (fun x h z => by rw [h] at z; cases z) (fun x h h2 => by rw [r3 x (fun z => by rw [h] at z; cases z) h2]; exact h), O.go (Mv.refl (T := T) (S := no)) (fun _ _ h => h) (fun x h h2 => give_in h h2), by rw [r3 hp (by rw [L.o3]; decide) n3]; exact L.o3, m.kp _ _ L.h3 rfl (by rw [L.o3]; decide), by rw [r3 kp (by rw [L.o4]; decide) n4]; exact L.o4, m.kp _ _ L.h4 rfl (by rw [L.o4]; decide),
    (r4 5 (by decide)).dps L.dr, (r4 5 (by decide)).dps L.dk, by rw [r3 q (by rw [L.o0]; decide) nq]; exact L.o0, m.kp _ _ L.hq rfl (by rw [L.o0]; decide)⟩
theorem DpAll.snoc {H : Hp} {v : V} {d : PyData} : ∀ {vs : List V} {ds : List PyData}, DpAll K H vs ds → Dp K H v d → DpAll K H (vs ++ [v]) (ds ++ [d])
  | _, _, .nil, h => .cons h .nil
  | _, _, .cons h1 h2, h => .cons h1 (Fp.DpAll.snoc h2 h)
/-- one more is held -/
theorem Lw.app3 {x : V} {d : List Int × List Int} (L : Lw K T H4 H' own a b hp kp q s1 s2 rs ks qs hd hk) (m : Mv T (fun x => x = hp) H' H1) (h : H1 hp = some (.lst (rs ++ [x]))) (f : FrD K H' H1 x (itD d)) : Lw K T H4 H1 (give own H1 (nod H') 5) a b hp kp q s1 s2 (rs ++ [x]) ks qs (hd ++ [d]) hk := by
  have g : ∀ x, ¬ nod H' x → give own H1 (nod H') 5 x = own x := fun x h => give_out h
  have m' : Mv T (fun x => own x = 3) H' H1 := m.wk fun x h => by rw [h]; exact L.o3
  have n3 := nod.not L.h3 rfl
  have n4 := nod.not L.h4 rfl
  have nq := nod.not L.hq rfl
  have sb : Sub (res H' (fun x => own x = 5)) (res H1 (fun x => give own H1 (nod H') 5 x = 5)) := m'.sub2 (fun x h z => by rw [h] at z; cases z) fun x h h2 => by rw [g x h2]; exact h
  have fd : Sub (res H1 (nod H')) (res H1 (fun x => give own H1 (nod H') 5 x = 5)) := fun y o h e => by
    obtain ⟨n, hy⟩ := res_of h
    rw [res_at (S := fun x => give own H1 (nod H') 5 x = 5) (give_in n (nod.not hy e))]
    exact hy
  refine ⟨L.ex.seq m' fun x h => .inr (L.fr x (by rw [h]; decide)).1, fun x h => ?_, L.peg.go m' (fun x h z => by rw [h] at z; cases z) (fun x h h2 => by rw [g x h2]; exact h), L.st.go m' (fun x h z => by rw [h] at z; cases z) (fun x h h2 => by rw [g x h2]; exact h), by rw [g hp n3]; exact L.o3, h, by rw [g kp n4]; exact L.o4, m'.kp _ _ L.h4 rfl (by rw [L.o4]; decide), ?_, sb.dps L.dk, by rw [g q nq]; exact L.o0, m'.kp _ _ L.hq rfl (by rw [L.o0]; decide)⟩
  · by_cases z : nod H' x ∧ ¬ nod H1 x
    · exact ⟨L.ex.dm x z.1, z.2⟩
    · rw [show give own H1 (nod H') 5 x = own x from if_neg z] at h
      exact ⟨(L.fr x h).1, fun w => (L.fr x h).2 (m'.dm x w)⟩
  · rw [List.map_append]
    exact Fp.DpAll.snoc (sb.dps L.dr) (fd.dp f)
/-- one more is kept -/
theorem Lw.app4 {x : V} {d : List Int × List Int} (L : Lw K T H4 H' own a b hp kp q s1 s2 rs ks qs hd hk) (m : Mv T (fun x => x = kp) H' H1) (h : H1 kp = some (.lst (ks ++ [x]))) (f : FrD K H' H1 x (itD d)) : Lw K T H4 H1 (give own H1 (nod H') 5) a b hp kp q s1 s2 rs (ks ++ [x]) qs hd (hk ++ [d]) := by
  have g : ∀ x, ¬ nod H' x → give own H1 (nod H') 5 x = own x := fun x h => give_out h
  have m' : Mv T (fun x => own x = 4) H' H1 := m.wk fun x h => by rw [h]; exact L.o4
  have n3 := nod.not L.h3 rfl
  have n4 := nod.not L.h4 rfl
  have nq := nod.not L.hq rfl
  have sb : Sub (res H' (fun x => own x = 5)) (res H1 (fun x => give own H1 (nod H') 5 x = 5)) := m'.sub2 (fun x h z => by rw [h] at z; cases z) fun x h h2 => by rw [g x h2]; exact h
  have fd : Sub (res H1 (nod H')) (res H1 (fun x => give own H1 (nod H') 5 x = 5)) := fun y o h e => by
    obtain ⟨n, hy⟩ := res_of h
    rw [res_at (S := fun x => give own H1 (nod H') 5 x = 5) (give_in n (nod.not hy e))]
    exact hy
  refine ⟨L.ex.seq m' fun x h => .inr (L.fr x (by rw [h]; decide)).1, fun x h => ?_, L.peg.go m' (fun x h z => by rw [h] at z; cases z) (fun x h h2 => by rw [g x h2]; exact h), L.st.go m' (fun x h z => by rw [h] at z; cases z) (fun x h h2 => by rw [g x h2]; exact h), by rw [g hp n3]; exact L.o3, m'.kp _ _ L.h3 rfl (by rw [L.o3]; decide), by rw [g kp n4]; exact L.o4, h, sb.dps L.dr, ?_, by rw [g q nq]; exact L.o0, m'.kp _ _ L.hq rfl (by rw [L.o0]; decide)⟩
  · by_cases z : nod H' x ∧ ¬ nod H1 x
    · exact ⟨L.ex.dm x z.1, z.2⟩
    · rw [show give own H1 (nod H') 5 x = own x from if_neg z] at h
      exact ⟨(L.fr x h).1, fun w => (L.fr x h).2 (m'.dm x w)⟩
  · rw [List.map_append]
    exact Fp.DpAll.snoc (sb.dps L.dk) (fd.dp f)
end
/-! ### making pegs -/
def newPg (K : PySem.W.Frag) (s : PSt) : Hp → V → Hp → Prop := fun H v H' => ∃ a, v = .ref a ∧ PegO K H' a s (nod H)
section
variable {K : PySem.W.Frag} {T : List (Addr × Str)} {H H0 : Hp} {σ : L2.St} {ta : TA} {te : TE} {E : XK} {r l : Addr} {m : Int} {rs ls : List Int} {D : Ends} {u : TS}
theorem er_pegs (h : EvA T ta σ H [.ref r, .int m, .ref l]) (m1 : 1 ≤ m) (m2 : m ≤ 16) (ky : Kys K H l r rs ls) (nr : rs.length ≤ 60) (nl : ls.length ≤ 60) (tb : Tabs T H) (pc : PgC K) : EvR T (tMake (He.ga K "Pegs") (sp_Pegs_init K T) [] E ta) σ H (newPg K (.make rs m ls)) := fun H1 e Q q =>
  h H1 e _ fun H2 e2 => fun x dx hx hdx ne => by
    have e6 : Ex T H2 (upd (upd H2 dx (.own x)) x (.ins (He.ga K "Pegs") dx [])) := (Mv.new hdx).trans (Mv.new (by rw [upd_ne (Ne.symm ne)]; exact hx))
    have e26 := e2.trans e6
    have ee := e.trans e26
    refine ⟨x, r, .int m, l, rfl, by simp [kd], .inr ⟨m, dx, rs, ls, rfl, m1, m2, upd_same, ky.ex ee, nr, nl, ee.tb tb, pc, fun H' S M O hS => ⟨rfl, q _ _ (e26.seq M fun y hy => by subst hy; exact .inr (e2.nod hx)) ⟨x, rfl, O.wk fun y hy => ?_⟩⟩⟩⟩
    rcases hS y hy with z | z
    · subst z; exact e2.nod hx
    · exact e26.dm y z
theorem newPg_back {s : PSt} : ∀ H1 H2 v H3, Ex T H H1 → Ex T H1 H2 → Ex T H2 H3 → newPg K s H2 v H3 → newPg K s H1 v H3 := fun _ _ _ _ _ a b ⟨p, z, O⟩ => ⟨p, z, O.wk fun x h => a.dm x h⟩
theorem q_clear {p : Addr} {xs : List V} (e : Ex T H0 H) (hl : H p = some (.lst xs)) (ha : Ev T te σ H0 (.ref p)) (k : ∀ H1, Ex T H0 H1 → Ex T H H1 → u D σ (upd H1 p (.lst []))) : tSeq (tDrop (tBM0 K "list" rClear te)) u D σ H := ha H e _ fun H1 e1 =>
  ⟨.inl ⟨rfl, xs, .inl (.inl (e1.at hl))⟩, p, xs, rfl, rfl, e1.at hl, k H1 (e.trans e1) e1⟩
end
end Fp

local macro_rules | `(tactic| walk_at "sp") => `(tactic| first | exact Fp.v_wholeI | exact Fp.v_is_wholeI | exact Fp.v_whole (by assumption) | exact Fp.v_is_whole (by assumption) | exact Fp.v_before (by walk_at "fact") (by assumption) (by assumption) | exact Fp.v_comes (by walk_at "fact") (by assumption) (by assumption) | exact Fp.v_cell_at (by walk_at "fact") (by decide))
namespace Fp
open PySem PySem.Spec PyProof.Rows L2 LamX
def sp_law (K : PySem.W.Frag) (T : List (Addr × Str)) : Sp := fun vs H Q _ => ∃ p ns, vs = [.ref p] ∧ SqL K H p (List.map V.int ns) ∧ Tabs T H ∧ PgC K ∧ Xk K "NoPegs" ∧ ∀ H', Q (.bl true) H'
theorem len_law {K : PySem.W.Frag} {T : List (Addr × Str)} : ∀ vs H Q E, sp_law K T vs H Q E → vs.length = 1 := fun vs H Q E h => by
  obtain ⟨_, _, rfl, _⟩ := h
  exact rfl
def r_law (K : PySem.W.Frag) (T : List (Addr × Str)) : TS :=
  (tSeq (tAsg (tOp oMod (tOp oDiv (tCall (sp_l_cell_at K T) [] E0 (tCons (tVar 0) (tCons (tC (.int 0)) tNil))) (tC (.int 4))) (tC (.int 16))) (gName 1))
  (tSeq (tAsg (tOp oAdd (tVar 1) (tC (.int 1))) (gName 1))
  (Evl.tCut (tIfS (tTest (tOp oGt (tVar 1) (tC (.int 12)))) (tAsg (tOp oAdd (tC (.int 31)) (tOp oMod (tOp oDiv (tCall (sp_l_cell_at K T) [] E0 (tCons (tVar 0) (tCons (tC (.int 0)) tNil))) (tC (.int 64))) (tC (.int 30)))) (gName 1)) tNext)
  (tSeq (tAsg (tCall (sp_l_ranks K T) [] E0 (tCons (tCall (sp_l_cell_at K T) [] E0 (tCons (tVar 0) (tCons (tC (.int 1)) tNil))) (tCons (tVar 1) tNil))) (gName 2))
  (tSeq (tAsg (tOp oAdd (tC (.int 1)) (tOp oMod (tCall (sp_l_cell_at K T) [] E0 (tCons (tVar 0) (tCons (tC (.int 2)) tNil))) (tC (.int 4)))) (gName 3))
  (Evl.tCut (tIfS (tTest (tOp rEq (tOp oMod (tOp oDiv (tCall (sp_l_cell_at K T) [] E0 (tCons (tVar 0) (tCons (tC (.int 2)) tNil))) (tC (.int 4))) (tC (.int 4))) (tC (.int 1)))) (tAsg (tOp oAdd (tC (.int 1)) (tOp oMod (tOp oDiv (tCall (sp_l_cell_at K T) [] E0 (tCons (tVar 0) (tCons (tC (.int 2)) tNil))) (tC (.int 16))) (tC (.int 16)))) (gName 3)) tNext)
  (tSeq (tAsg (tCall (sp_l_some K T) [] E0 (tCons (tCall (sp_l_cell_at K T) [] E0 (tCons (tVar 0) (tCons (tC (.int 3)) tNil))) (tCons (tVar 1) tNil))) (gName 4))
  (tSeq (tAsg (tLst (tCons (tCB (rLst K) (tCons (tVar 2) tNil)) (tCons (tCB (rLst K) (tCons (tVar 4) tNil)) tNil))) (gName 5))
  (tSeq (tAsg (tMake (He.ga K "Pegs") (sp_Pegs_init K T) [] E0 (tCons (tOp (rIxL K) (tVar 5) (tC (.int 0))) (tCons (tVar 3) (tCons (tOp (rIxL K) (tVar 5) (tC (.int 1))) tNil)))) (gName 6))
  (tSeq (tIfS (tOr (tTest (tOp (rNeD K) (tVar 5) (tLst (tCons (tVar 2) (tCons (tVar 4) tNil))))) (tNot (tB (tCall (sp_l_refused K T) [] E0 (tCons (tVar 2) (tCons (tCall (sp_l_cell_at K T) [] E0 (tCons (tVar 0) (tCons (tC (.int 0)) tNil))) tNil)))))) (tRet (tC (.bl false))) tNext)
  (tSeq (tDrop (tBM0 K "list" rClear (tOp (rIxL K) (tVar 5) (tC (.int 0)))))
  (tSeq (tDrop (tBM K "list" rAppend (tOp (rIxL K) (tVar 5) (tC (.int 1))) (tCons (tOp oSub (tVar 1) (tC (.int 1))) tNil)))
  (tSeq (tAsg (tCall (sp_l_made K T) [] E0 (tCons (tVar 2) (tCons (tVar 3) (tCons (tVar 4) tNil)))) (gName 7))
  (tSeq (tAsg (tLst tNil) (gName 8))
  (tSeq (tIfS (tNot (tB (tCall (sp_l_shows K T) [] E0 (tCons (tVar 6) (tCons (tVar 7) (tCons (tVar 8) tNil)))))) (tRet (tC (.bl false))) tNext)
  (tSeq (tAsg (tLc (iList K (tVar 8)) (gUnl K 2 (gCons (gName 13) (gCons (gName 14) gNil))) tYes (tLst (tCons (tCB (rLst K) (tCons (tVar 13) tNil)) (tCons (tCB (rLst K) (tCons (tVar 14) tNil)) tNil))) [13, 14]) (gName 9))
  (tSeq (tFor (iList K (tSl (rSlL K) (tVar 0) (tPart (tC (.int 4))) (tPart (tC (.int 64))))) (gName 10) (tSeq (tAsg (tCall (sp_l_line K T) [] E0 (tCons (tVar 10) (tCons (tVar 1) (tCons (tOp (rIxL K) (tVar 7) (tC (.int 0))) tNil)))) (gName 11))
  (Evl.tCut (tIfS (tOr (tTest (tOp (rIn K false) (tVar 11) (tOp (rIxL K) (tVar 7) (tC (.int 0))))) (tTest (tOp (rIn K false) (tVar 11) (tOp (rIxL K) (tVar 7) (tC (.int 1)))))) (tSeq (tDrop (tCall (sp_l_go K T) [] E0 (tCons (tVar 3) (tCons (tVar 7) (tCons (tVar 11) tNil)))))
  (tAsg (tMeth (He.ga K "Pegs") "go" (sp_Pegs_go K T) [] E0 (tVar 6) (tCons (tVar 11) tNil)) (gName 12))) (tSeq (tDrop (tCall (sp_l_come K T) [] E0 (tCons (tVar 2) (tCons (tVar 3) (tCons (tVar 7) (tCons (tVar 11) tNil))))))
  (tAsg (tMeth (He.ga K "Pegs") "come" (sp_Pegs_come K T) [] E0 (tVar 6) (tCons (tVar 11) tNil)) (gName 12))))
  (tSeq (tIfS (tOr (tTest (tOp oNotN (tVar 12) (tC .non))) (tNot (tB (tCall (sp_l_shows K T) [] E0 (tCons (tVar 6) (tCons (tVar 7) (tCons (tVar 8) tNil))))))) (tRet (tC (.bl false))) tNext)
  (tDrop (tBM K "list" rAppend (tVar 9) (tCons (tLst (tCons (tCB (rLst K) (tCons (tOp (rIxL K) (tOp (rIxL K) (tVar 8) (tUn (rU fun i => .int (-i)) (tC (.int 1)))) (tC (.int 0))) tNil)) (tCons (tCB (rLst K) (tCons (tOp (rIxL K) (tOp (rIxL K) (tVar 8) (tUn (rU fun i => .int (-i)) (tC (.int 1)))) (tC (.int 1))) tNil)) tNil))) tNil)))))))
  (tRet (tOp (rEqD K) (tVar 8) (tVar 9))))))))))))))))))))
section
variable {K : PySem.W.Frag} {T : List (Addr × Str)} {H H0 : Hp} {Q : VK} {E : XK} {vs : List V}
/-- the first copy of what is held -/
theorem er_kept {s0 s1 s2 s3 s4 s5 s6 s7 s9 s10 s11 s12 : Option V} {p x y z : Addr} {d : List Int × List Int} (hp : H p = some (.lst [.ref x])) (hx : H x = some (.lst [.ref y, .ref z])) (hy : H y = some (.lst (d.1.map V.int))) (hz : H z = some (.lst (d.2.map V.int))) :
    EvR T (tLc (iList K (tVar 8)) (gUnl K 2 (gCons (gName 13) (gCons (gName 14) gNil))) tYes (tLst (tCons (tCB (rLst K) (tCons (tVar 13) tNil)) (tCons (tCB (rLst K) (tCons (tVar 14) tNil)) tNil))) [13, 14]) [s0, s1, s2, s3, s4, s5, s6, s7, some (.ref p), s9, s10, s11, s12, none, none] H
      (fun H1 v H2 => ∃ kp k N, v = .ref kp ∧ nod H1 kp ∧ H2 kp = some (.lst [k]) ∧ (∀ x, N x → nod H1 x ∧ x ≠ kp) ∧ Dp K (res H2 N) k (itD d)) := fun H1 e Q q => ⟨.ref p, rfl, p, rfl, ⟨[.ref x], .inl (.inl (e.at hp))⟩, fun D hD => by
  have e3 : Ex T H1 (upd H1 D (.lst [])) := Mv.new hD
  refine lc_list (xs := [.ref x]) (fun i H' => Ex T H1 H' ∧ (i = 0 → H' D = some (.lst [])) ∧ (i = 1 → ∃ k N, H' D = some (.lst [k]) ∧ (∀ x, N x → nod H1 x ∧ x ≠ D) ∧ Dp K (res H' N) k (itD d))) ⟨e3, fun _ => upd_same, fun z => nomatch z⟩ (fun i H' _ p' => .inl (.inl (p'.1.at (e.at hp)))) (fun i v H' hi p' => ?_) (fun H' p' => ?_)
  · cases i with
    | succ i => cases hi
    | zero =>
      obtain rfl := Option.some.inj hi
      have ee := e.trans p'.1
      have hD0 := p'.2.1 rfl
      refine ⟨x, [.ref y, .ref z], rfl, .inl (.inl (ee.at hx)), rfl, .ref y, [.ref z], rfl, .ref z, [], rfl, rfl, rfl, ?_⟩
      refine (et_yes (T := T) : EvT T tYes _ H' true) H' Mv.refl _ fun H3 e3' => ?_
      replace hD0 := e3'.at hD0
      replace p' := p'.1.trans e3'
      replace ee := ee.trans e3'
      clear e3' hi
      generalize H3 = H' at *
      rw [if_pos rfl]
      refine er_pair2 (T := T) (H := H') (xs := d.1.map V.int) (ys := d.2.map V.int) (el_list (by walk_at "ev") (.inl (.inl (.inl (ee.at hy))))) (el_list (by walk_at "ev") (.inl (.inl (.inl (ee.at hz))))) H' Mv.refl _ fun v H4 e4 hv => ?_
      obtain ⟨f, b1, b2, rfl, nf, n1, n2, hf, h1, h2, _, _, _⟩ := hv
      have k4 := e4.at hD0
      refine ⟨[], k4, by decide, (p'.trans e4).set (.inr (.of hD)) k4, (fun z => nomatch z), fun _ => ⟨.ref f, fun x => nod H1 x ∧ x ≠ D, upd_same, fun _ h => h, ?_⟩⟩
      have g : ∀ {w : Addr} {xs : List V}, nod H' w → H4 w = some (.lst xs) → res (upd H4 D (.lst ([] ++ [.ref f]))) (fun x => nod H1 x ∧ x ≠ D) w = some (.lst xs) := fun n h => by
        have ne := Ne.symm (n.ne hD0)
        rw [res_at ⟨p'.dm _ n, ne⟩, upd_ne ne]
        exact h
      exact .lst (.inl (.inl (g nf hf))) (.cons (dp_n (g n1 h1)) (.cons (dp_n (g n2 h2)) .nil))
  · obtain ⟨k, N, h1, h2, h3⟩ := p'.2.2 rfl
    exact q _ H' p'.1 ⟨D, k, N, rfl, .of hD, h1, h2, h3⟩⟩
open Classical in
/-- who owns what at the start of the loop -/
noncomputable def ownK (H5 H6 H7 H8 H9 H10 H11 : Hp) (hp kp : Addr) (N : Addr → Prop) : Addr → Nat := fun x => if nod H5 x ∧ ¬ nod H6 x then 1 else if nod H7 x ∧ ¬ nod H8 x then 2 else if x = hp then 3 else if x = kp then 4 else if (nod H9 x ∧ ¬ nod H10 x) ∨ (N x ∧ ¬ nod H11 x) then 5 else 0
section
variable {H5 H6 H7 H8 H9 H10 H11 : Hp} {hp kp x : Addr} {N : Addr → Prop} (d6 : ∀ x, nod H7 x → nod H6 x) (d7 : ∀ x, nod H8 x → nod H7 x) (d8 : ∀ x, nod H9 x → nod H8 x) (d9 : ∀ x, nod H10 x → nod H9 x) (d10 : ∀ x, nod H11 x → nod H10 x)
include d6 d7 d8 d9 d10
theorem own_1 (h : nod H5 x) (h2 : ¬ nod H6 x) : ownK H5 H6 H7 H8 H9 H10 H11 hp kp N x = 1 := if_pos ⟨h, h2⟩
theorem own_2 (h : nod H7 x) (h2 : ¬ nod H8 x) : ownK H5 H6 H7 H8 H9 H10 H11 hp kp N x = 2 := by
  unfold ownK
  rw [if_neg (fun z => z.2 (d6 _ h)), if_pos ⟨h, h2⟩]
theorem own_3 (h : nod H8 hp) : ownK H5 H6 H7 H8 H9 H10 H11 hp kp N hp = 3 := by
  unfold ownK
  rw [if_neg (fun z => z.2 (d6 _ (d7 _ h))), if_neg (fun z => z.2 h), if_pos rfl]
theorem own_4 (h : nod H10 kp) (h2 : ¬ nod H10 hp) : ownK H5 H6 H7 H8 H9 H10 H11 hp kp N kp = 4 := by
  unfold ownK
  rw [if_neg (fun z => z.2 (d6 _ (d7 _ (d8 _ (d9 _ h))))), if_neg (fun z => z.2 (d8 _ (d9 _ h))), if_neg (fun z : kp = hp => h2 (z ▸ h)), if_pos rfl]
theorem own_5 (h : nod H9 x) (h2 : ¬ nod H10 x) (n1 : ¬ nod H9 hp) (n2 : nod H10 kp) : ownK H5 H6 H7 H8 H9 H10 H11 hp kp N x = 5 := by
  unfold ownK
  rw [if_neg (fun z => z.2 (d6 _ (d7 _ (d8 _ h)))), if_neg (fun z => z.2 (d8 _ h)), if_neg (fun z : x = hp => n1 (z ▸ h)), if_neg (fun z : x = kp => h2 (z ▸ n2)), if_pos (.inl ⟨h, h2⟩)]
theorem own_5N (h : N x) (h2 : ¬ nod H11 x) (n1 : ¬ nod H9 hp) (hN : nod H10 x ∧ x ≠ kp) : ownK H5 H6 H7 H8 H9 H10 H11 hp kp N x = 5 := by
  unfold ownK
  have h9 := d9 _ hN.1
  rw [if_neg (fun z => z.2 (d6 _ (d7 _ (d8 _ h9)))), if_neg (fun z => z.2 (d8 _ h9)), if_neg (fun z : x = hp => n1 (z ▸ h9)), if_neg hN.2, if_pos (.inr ⟨h, h2⟩)]
theorem own_0 (h : nod H11 x) (n1 : ¬ nod H11 hp) (n2 : ¬ nod H11 kp) : ownK H5 H6 H7 H8 H9 H10 H11 hp kp N x = 0 := by
  unfold ownK
  have h10 := d10 _ h
  have h9 := d9 _ h10
  rw [if_neg (fun z => z.2 (d6 _ (d7 _ (d8 _ h9)))), if_neg (fun z => z.2 (d8 _ h9)), if_neg (fun z : x = hp => n1 (z ▸ h)), if_neg (fun z : x = kp => n2 (z ▸ h)), if_neg (fun z => z.elim (fun z => z.2 h10) (fun z => z.2 h))]
theorem own_fr (h : ownK H5 H6 H7 H8 H9 H10 H11 hp kp N x ≠ 0) (n1 : nod H8 hp ∧ ¬ nod H11 hp) (n2 : nod H10 kp ∧ ¬ nod H11 kp) (hN : ∀ x, N x → nod H10 x ∧ x ≠ kp) : (nod H5 x ∨ nod H7 x) ∧ ¬ nod H11 x := by
  unfold ownK at h
  split at h
  · rename_i z
    exact ⟨.inl z.1, fun w => z.2 (d6 _ (d7 _ (d8 _ (d9 _ (d10 _ w)))))⟩
  · split at h
    · rename_i z
      exact ⟨.inr z.1, fun w => z.2 (d8 _ (d9 _ (d10 _ w)))⟩
    · split at h
      · rename_i z
        subst z
        exact ⟨.inr (d7 _ n1.1), n1.2⟩
      · split at h
        · rename_i z
          subst z
          exact ⟨.inr (d7 _ (d8 _ (d9 _ n2.1))), n2.2⟩
        · split at h
          · rename_i z
            rcases z with z | z
            · exact ⟨.inr (d7 _ (d8 _ z.1)), fun w => z.2 (d10 _ w)⟩
            · exact ⟨.inr (d7 _ (d8 _ (d9 _ (hN _ z.1).1))), z.2⟩
          · exact absurd rfl h
end
theorem p_law (h : sp_law K T vs H Q E) : r_law K T { nx := fun _ H' => Q .non H', rt := Q } (start ["_law_script", "_law_size", "_law_ranks_here", "_law_many", "_law_lines", "_law_handed", "_law_pegs", "_law_state", "_law_held", "_law_kept", "_law_cell", "_law_line_here", "_law_told", "_law_one", "_law_other"] vs) H := by
  obtain ⟨p, ns, rfl, hp, tb, pc, X, q⟩ := h
  unfold r_law
  refine q_asg (Mv.of T H) (by walk_at "ev") rfl fun H1 e1 _ => ?_
  have g0 := Int.emod_nonneg (cellAt ns 0 / 4) (show (16 : Int) ≠ 0 by decide)
  have g1 := Int.emod_lt_of_pos (cellAt ns 0 / 4) (show (0 : Int) < 16 by decide)
  generalize cellAt ns 0 / 4 % 16 = z at g0 g1
  refine q_asg e1 (by walk_at "ev") rfl fun H1 e1 _ => ?_
  refine q_cut (fun σ' H' => ∃ n : Nat, 1 ≤ n ∧ n ≤ 60 ∧ σ' = [some (.ref p), some (.int n), none, none, none, none, none, none, none, none, none, none, none, none, none] ∧ Ex T H H') ?_ ?_
  · refine s_if e1 (by walk_at "et") (fun hb H2 e2 _ => ?_) (fun hb H2 e2 _ => nextI ?_)
    · have f0 := Int.emod_nonneg (cellAt ns 0 / 64) (show (30 : Int) ≠ 0 by decide)
      have f1 := Int.emod_lt_of_pos (cellAt ns 0 / 64) (show (0 : Int) < 30 by decide)
      obtain ⟨n, hn⟩ := Int.eq_ofNat_of_zero_le (show 0 ≤ 31 + cellAt ns 0 / 64 % 30 by omega)
      exact s_asg (v := .int n) e2 (ev_is (by walk_at "ev") (by rw [hn])) fun H3 e3 _ => ⟨n, by omega, by omega, rfl, e3⟩
    · have hb := of_decide_eq_false hb
      obtain ⟨n, hn⟩ := Int.eq_ofNat_of_zero_le (show 0 ≤ z + 1 by omega)
      exact ⟨n, by omega, by omega, by rw [hn]; rfl, e2⟩
  rintro σ' H2 ⟨n, n1, n60, rfl, e2⟩
  clear g0 g1 e1
  refine q_asgR e2 (er_call0 (R := newRks n) (by walk_at "ea") (v_ranks n60) newRks_back) fun v H3 σ2 hs e3 _ hv => ?_
  obtain ⟨rs, _, hrl, r, rfl, nr, hr⟩ := hv
  subst hs
  clear e2
  have hp3 := e3.l hp
  refine q_asg (Mv.of T H3) (by walk_at "ev") rfl fun H4 e4 _ => ?_
  refine q_cut (fun σ' H' => ∃ m : Int, 1 ≤ m ∧ m ≤ 16 ∧ σ' = [some (.ref p), some (.int n), some (.ref r), some (.int m), none, none, none, none, none, none, none, none, none, none, none] ∧ Ex T H3 H') ?_ ?_
  · refine s_if e4 (by walk_at "et") (fun hb H5 e5 _ => ?_) (fun hb H5 e5 _ => nextI ?_)
    · have f0 := Int.emod_nonneg (cellAt ns 2 / 16) (show (16 : Int) ≠ 0 by decide)
      have f1 := Int.emod_lt_of_pos (cellAt ns 2 / 16) (show (0 : Int) < 16 by decide)
      exact s_asg (v := .int (1 + cellAt ns 2 / 16 % 16)) e5 (by walk_at "ev") fun H6 e6 _ => ⟨_, by omega, by omega, rfl, e6⟩
    · have f0 := Int.emod_nonneg (cellAt ns 2) (show (4 : Int) ≠ 0 by decide)
      have f1 := Int.emod_lt_of_pos (cellAt ns 2) (show (0 : Int) < 4 by decide)
      exact ⟨1 + cellAt ns 2 % 4, by omega, by omega, rfl, e5⟩
  rintro σ' H5 ⟨m, m1, m2, rfl, e5⟩
  clear e4
  have hr5 := e5.at hr
  have lr5 : SqL K H5 r (rs.map V.int) := .inl (.inl hr5)
  have hp5 := e5.l hp3
  refine q_asgR (Mv.of T H5) (er_call0 (R := newLns n) (by walk_at "ea") (v_some n60) newLns_back) fun v H6 σ2 hs e6 _ hv => ?_
  obtain ⟨ls, nl, l, rfl, _, hl⟩ := hv
  subst hs
  have ll := nl.len
  have lr6 := e6.l lr5
  have ll6 : SqL K H6 l (ls.map V.int) := .inl (.inl hl)
  have e06 := (e3.trans e5).trans e6
  have tb6 := e06.tb tb
  refine q_asgR (Mv.of T H6) (er_pair2 (xs := rs.map V.int) (ys := ls.map V.int) (el_list (by walk_at "ev") (.inl lr6)) (el_list (by walk_at "ev") (.inl ll6))) fun v H7 σ2 hs e7 _ hv => ?_
  obtain ⟨hd, ha, hb, rfl, nhd, nha, nhb, hhd, hha, hhb, _, _, hab⟩ := hv
  subst hs
  have ky : Kys K H7 hb ha rs ls := ⟨.inl (.inl hhb), .inl (.inl hha), fun x hx => by rw [hrl]; exact nl.2 x hx⟩
  have lhd : SqL K H7 hd [.ref ha, .ref hb] := .inl (.inl hhd)
  refine q_asgR (Mv.of T H7) (er_pegs (m := m) (ea_cons (ev_op (by walk_at "ev") ev_c (rv_ixL lhd rfl)) (ea_cons (by walk_at "ev") (ea_cons (ev_op (by walk_at "ev") ev_c (rv_ixL lhd rfl)) ea_nil))) m1 m2 ky (by omega) (by omega) (e7.tb tb6) pc) fun v H8 σ2 hs e8 _ hv => ?_
  obtain ⟨a, rfl, O8⟩ := hv
  subst hs
  have e68 := e7.trans e8
  have lhd8 := e8.l lhd
  have lr8 := e68.l lr6
  have ll8 := e68.l ll6
  have hp8 := (e6.trans e68).l hp5
  have hD : Dp K H8 (.ref hd) (.list [dI rs, dI ls]) := (Dp.lst lhd (.cons (dp_n hha) (.cons (dp_n hhb) .nil))).ex e8
  refine q_if (b := false) (Mv.of T H8) (et_is (et_or (et_test (ev_opVL (by walk_at "ev") (el_lst (by walk_at "ea") (by simp)) fun a H9 ha' e9 => rv_neDf (d := .list [dI rs, dI ls]) (hD.ex e9) (.lst (.inl (.inl ha')) (.cons ((dp_l lr8).ex e9) (.cons ((dp_l ll8).ex e9) .nil))) (by simp [SeqAt.shaped, PyData.canLay0, PyData.canLayAll0, PyData.depth, PyData.depthAll, lay_dI]))) fun _ => et_not (et_B (ev_call0 (by walk_at "ea") (v_refused X)))) (by rfl)) (fun hb => nomatch hb) (fun _ H9 e9 _ => nextI ?_)
  dsimp only
  have e79 := e8.trans e9
  refine q_clear (Mv.of T H9) (e79.at hha) (ev_op (by walk_at "ev") ev_c (rv_ixL (e9.l lhd8) rfl)) fun H10 e10 _ => ?_
  have e710 := e79.trans e10
  have nab : hb ≠ ha := hab.symm
  have hd9 : hd ≠ ha ∧ hd ≠ hb := by
    constructor
    · intro z
      subst z
      rw [hha] at hhd
      have := Option.some.inj hhd
      cases hrs : rs <;> rw [hrs] at this <;> simp at this
    · intro z
      subst z
      rw [hhb] at hhd
      have := Option.some.inj hhd
      cases hls : ls <;> rw [hls] at this <;> simp at this
  refine q_app (v := .int ((n : Int) - 1)) (l := hb) (xs := ls.map V.int) (Mv.of T _) (by rw [upd_ne nab]; exact e710.at hhb) (ev_op (by walk_at "ev") ev_c (rv_ixL (p := hd) (xs := [.ref ha, .ref hb]) (.inl (.inl (by rw [upd_ne hd9.1]; exact e710.at hhd))) rfl)) (by walk_at "ev") (by rw [List.length_map]; omega) fun H11 e11 _ => ?_
  have hb11 : H11 hb = some (.lst (ls.map V.int)) := e11.at (by rw [upd_ne nab]; exact e710.at hhb)
  have E6 : Ex T H6 (upd H11 hb (.lst (ls.map V.int ++ [.int ((n : Int) - 1)]))) := (((e7.trans e710).set (.inr nha) (e710.at hha)).trans e11).set (.inr nhb) hb11
  have M8 : Mv T (fun x => x = ha ∨ x = hb) H8 (upd H11 hb (.lst (ls.map V.int ++ [.int ((n : Int) - 1)]))) := ((((e9.trans e10).mv).set (.inl (.inl rfl)) (e710.at hha)).trans e11.mv).set (.inl (.inr rfl)) hb11
  generalize (upd H11 hb (.lst (ls.map V.int ++ [.int ((n : Int) - 1)]))) = Ha at E6 M8
  have O8' : PegO K Ha a (.make rs m ls) (fun x => nod H7 x ∧ ¬ nod H8 x) := (O8.go (Mv.refl (T := T) (S := no)) (fun _ _ h => h) (S' := fun x => nod H7 x ∧ ¬ nod H8 x) fun x h h2 => ⟨h, h2⟩).go M8 (fun x h z => by
    rcases z with z | z
    · exact nod.not hha rfl (z ▸ h.1)
    · exact nod.not hhb rfl (z ▸ h.1)) fun x h _ => h
  have lra := E6.l lr6
  have lla := E6.l ll6
  have nl' : Lns rs.length ls := by rw [hrl]; exact nl
  refine q_asgR (Mv.of T Ha) (er_call0 (R := newSt K (.make rs m ls)) (by walk_at "ea") (v_made m1 m2 lra lla nl' (by omega)) newSt_back) fun v Hb σ2 hs eb _ hv => ?_
  obtain ⟨b, rfl, Sb⟩ := hv
  subst hs
  have Sb' : StO K Hb b (.make rs m ls) (fun x => nod Ha x ∧ ¬ nod Hb x) := Sb.go (Mv.refl (T := T) (S := no)) (fun _ _ h => h) fun x h h2 => ⟨h, h2⟩
  have ok0 : POk (.make rs m ls) := .make m1 m2 (by omega) nl'
  refine q_asgR (Mv.of T Hb) (el_lst ea_nil (by decide)) fun v Hc σ2 hs ec _ hv => ?_
  obtain ⟨hp', rfl, nhp, hhp⟩ := hv
  subst hs
  have Oc := (O8'.ex' eb).ex' ec
  have Sc := Sb'.ex' ec
  refine q_ifCall (vs := [.ref a, .ref b, .ref hp']) (Mv.of T Hc) (by walk_at "ea") fun Hc' ec' _ => ⟨a, b, hp', _, _, _, [], rfl, Oc.ex' ec', Sc.ex' ec', ok0, ((E6.trans eb).trans (ec.trans ec')).tb tb6, ec'.at hhp, by decide, fun z => z.2 nhp, fun Hd x d md hhd' fd hit => ⟨true, rfl, ?_⟩⟩
  rw [if_neg (by decide)]
  refine nextI ?_
  dsimp only
  have cc := ec.trans ec'
  replace Oc := Oc.ex' ec'
  replace Sc := Sc.ex' ec'
  have nhc : ¬ nod Hc' hp' := nod.not (ec'.at hhp) rfl
  clear hhp ec ec' O8' Sb' Sb O8
  obtain ⟨y, z, hx1, hy1, hz1⟩ := hit
  rw [List.nil_append] at hhd'
  refine q_asgR (Mv.of T Hd) (er_kept hhd' hx1 hy1 hz1) fun v He σ2 hs ee _ hv => ?_
  obtain ⟨kp, k0, N, rfl, nkp, hkp, hN, dN⟩ := hv
  subst hs
  obtain ⟨cs, hcs, hcl⟩ := cutV_ints ns (some 4) (some 64)
  have hcl : cs.length ≤ 60 := by
    refine Nat.le_trans hcl ?_
    rw [show HT.sIx ns.length ns.length (some 64) = min 64 ns.length from HT.sIx_nat _ _ 64, show HT.sIx ns.length 0 (some 4) = min 4 ns.length from HT.sIx_nat _ _ 4]
    omega
  have nhp6 : nod H6 hp' := E6.dm _ (eb.dm _ nhp)
  have Ed : Ex T H6 Hd := ((E6.trans eb).trans cc).seq md fun x h => .inr (h ▸ nhp6)
  have Ee := Ed.trans ee
  have hpe : SqL K He p (ns.map V.int) := Ee.l (e6.l hp5)
  have el := el_sl (T := T) (σ := [some (.ref p), some (.int n), some (.ref r), some (.int m), some (.ref l), some (.ref hd), some (.ref a), some (.ref b), some (.ref hp'), some (.ref kp), none, none, none, none, none]) (ta := tVar 0) (by walk_at "ev") (eo_part (te := tC (.int 4)) (i := 4) (by walk_at "ev")) (eo_part (te := tC (.int 64)) (i := 64) (by walk_at "ev")) hpe
  rw [hcs] at el
  refine s_forNL (Mv.of T He) el (fun q i σ' H' => ∃ v10 v11 v12 own s rs' ks' hd', σ' = [some (.ref p), some (.int n), some (.ref r), some (.int m), some (.ref l), some (.ref hd), some (.ref a), some (.ref b), some (.ref hp'), some (.ref kp), v10, v11, v12, none, none] ∧ Lw K T H6 H' own a b hp' kp q s s rs' ks' (cs.map V.int) hd' hd' ∧ POk s ∧ s.ranks = rs ∧ s.many = m ∧ rs'.length = i + 1 ∧ ks'.length = i + 1 ∧ i ≤ 60) (fun q Hf nq ef _ hq => ?_) (fun q i σ' H' _ ⟨_, _, _, _, _, _, _, _, _, L, _⟩ => .inl (.inl L.hq)) ?_ ?_
  · have d6 := M8.dm
    have d7 := eb.dm
    have d8 := cc.dm
    have d9 := md.dm
    have d10 := ee.dm
    have df := ef.dm
    have nkp' := nod.not hkp rfl
    have nhp' : ¬ nod Hd hp' := nod.not hhd' rfl
    have nhe : ¬ nod He hp' := fun z => nhp' (d10 _ z)
    have nke : ¬ nod He kp := nkp'
    refine ⟨none, none, none, ownK H7 H8 Ha Hb Hc' Hd He hp' kp N, _, _, _, [d], rfl, ⟨Ee.trans ef, fun x h => ?_, ?_, ?_, own_3 d6 d7 d8 d9 d10 nhp, (ee.trans ef).at hhd', own_4 d6 d7 d8 d9 d10 nkp nhp', ef.at hkp, .cons ?_ .nil, .cons ?_ .nil, own_0 d6 d7 d8 d9 d10 nq nhe nke, hq⟩, ok0, rfl, rfl, rfl, rfl, Nat.zero_le _⟩
    · have z := own_fr d6 d7 d8 d9 d10 h ⟨nhp, nhe⟩ ⟨nkp, nke⟩ hN
      exact ⟨z.1.elim (e7.dm x) (E6.dm x), fun w => z.2 (df x w)⟩
    · refine ((Oc.go md (fun x h z => ?_) (fun x h _ => h)).ex' (ee.trans ef)).go (Mv.refl (T := T) (S := no)) (fun _ _ h => h) fun x h _ => own_1 d6 d7 d8 d9 d10 h.1 h.2
      exact h.2 (d6 x (d7 x (z ▸ nhp)))
    · refine ((Sc.go md (fun x h z => ?_) (fun x h _ => h)).ex' (ee.trans ef)).go (Mv.refl (T := T) (S := no)) (fun _ _ h => h) fun x h _ => own_2 d6 d7 d8 d9 d10 h.1 h.2
      exact h.2 (z ▸ nhp)
    · refine Sub.dp (fun y o h e => ?_) fd
      obtain ⟨sy, hy⟩ := res_of h
      rw [res_at (S := fun x => ownK H7 H8 Ha Hb Hc' Hd He hp' kp N x = 5) (own_5 d6 d7 d8 d9 d10 sy (nod.not hy e) nhc nkp)]
      exact (ee.trans ef).at hy e
    · refine Sub.dp (fun y o h e => ?_) dN
      obtain ⟨sy, hy⟩ := res_of h
      rw [res_at (S := fun x => ownK H7 H8 Ha Hb Hc' Hd He hp' kp N x = 5) (own_5N d6 d7 d8 d9 d10 sy (nod.not hy e) nhc (hN y sy))]
      exact ef.at hy e
  · rintro qa i x σ' H' hi ⟨v10, v11, v12, own, s, rs', ks', hd', rfl, L, ok, er, em, lr', lk', li⟩
    obtain ⟨c, hc, rfl⟩ := item_int hi
    have hi60 : i < 60 := by
      have := (List.getElem?_eq_some_iff.mp hc).1
      omega
    refine nameI ?_
    obtain ⟨hA, wA, cA, A, sa, sh, sw, sc⟩ := L.st.ex
    have hxs : ∀ x ∈ s.hung, 0 ≤ x ∧ x < (n : Int) := fun x hx => by
      have := ok.ns.2 x (List.mem_append_left _ hx)
      rw [er, hrl] at this
      exact this
    refine q_asgR (Mv.of T H') (er_call0 (R := fun _ v _ => ∃ i : Int, v = .int i ∧ 0 ≤ i ∧ i < (n : Int)) (ea_cons (x := .int c) (by walk_at "ev") (ea_cons (x := .int n) (by walk_at "ev") (ea_cons (ev_op (by walk_at "ev") ev_c (rv_ixL A.l0 rfl)) ea_nil))) (v_line A.hg hxs n1) (fun _ _ _ _ _ _ _ h => h)) fun v H1 σ2 hs e1 _ hv => ?_
    obtain ⟨j, rfl, j0, j1⟩ := hv
    subst hs
    have L1 := L.ex' e1
    have A1 := A.ex e1
    have jr : inR s.ranks j := ⟨j0, by rw [er, hrl]; exact j1⟩
    refine q_cut (fun σ' H2 => ∃ own s2, σ' = [some (.ref p), some (.int n), some (.ref r), some (.int m), some (.ref l), some (.ref hd), some (.ref a), some (.ref b), some (.ref hp'), some (.ref kp), some (.int c), some (.int j), some .non, none, none] ∧ Lw K T H6 H2 own a b hp' kp qa s2 s2 rs' ks' (cs.map V.int) hd' hd' ∧ POk s2 ∧ s2.ranks = rs ∧ s2.many = m) ?_ ?_
    · refine s_if (b := decide (j ∈ s.hung) || decide (j ∈ inOrd s.ranks s.book)) (Mv.of T H1) (et_or (et_test (ev_op (by walk_at "ev") (ev_op (by walk_at "ev") ev_c (rv_ixL A1.l0 rfl)) (rv_inI A1.lh))) fun _ => et_test (ev_op (by walk_at "ev") (ev_op (by walk_at "ev") ev_c (rv_ixL A1.l0 rfl)) (rv_inI A1.lw))) (fun hb H2 e2 _ => ?_) (fun hb H2 e2 _ => ?_)
      · have hj : j ∈ s.hung ∨ j ∈ s.book := by simpa [inOrd_mem] using hb
        have g := ok.go hj
        have L2 := L1.ex' e2
        refine q_call (vs := [.int m, .ref b, .int j]) (Mv.of T H2) (by walk_at "ea") fun H3 e3 _ => ⟨b, j, s, _, by rw [em], (L2.ex' e3).st, ok, hj, fun H4 S4 m4 O4 h4 => ?_⟩
        have L4 := (L2.ex' e3).mutSt m4 O4 h4
        obtain ⟨dx, r0, h0, b0, P, _⟩ := L4.peg.ex
        refine s_asgMeth (Mv.of T H4) (by walk_at "ev") P.at_ rfl (by walk_at "ea") rfl fun H5 e5 _ => ⟨a, j, s, _, rfl, (L4.ex' e5).peg, hj, ((L4.ex' e5).ex).tb tb6, fun H6' S6 m6 O6 h6 => ?_⟩
        exact ⟨_, s.go j, rfl, (L4.ex' e5).mutPeg m6 O6 h6, g.1, go_rm.1.trans er, go_rm.2.trans em⟩
      · have hj : j ∉ s.hung ++ s.book := by simpa [inOrd_mem] using hb
        have g := ok.come jr hj
        have L2 := L1.ex' e2
        have nS : ¬ own r = 2 := fun z => (L.fr r (by rw [z]; decide)).1 _ (e6.at hr5) |> fun q => nomatch q
        refine q_call (vs := [.ref r, .int m, .ref b, .int j]) (Mv.of T H2) (by walk_at "ea") fun H3 e3 _ => ⟨r, b, j, s, _, by rw [em], ?_, nS, (L2.ex' e3).st, ok, jr, hj, fun H4 S4 m4 O4 h4 => ?_⟩
        · rw [er]
          exact (L2.ex' e3).ex.l lr6
        have L4 := (L2.ex' e3).mutSt m4 O4 h4
        obtain ⟨dx, r0, h0, b0, P, _⟩ := L4.peg.ex
        refine s_asgMeth (Mv.of T H4) (by walk_at "ev") P.at_ rfl (by walk_at "ea") rfl fun H5 e5 _ => ⟨a, j, s, _, rfl, (L4.ex' e5).peg, jr, ((L4.ex' e5).ex).tb tb6, g.1.wf, fun H6' S6 m6 O6 h6 => ?_⟩
        exact ⟨_, s.come j, rfl, (L4.ex' e5).mutPeg m6 O6 h6, g.1, come_rm.1.trans er, come_rm.2.trans em⟩
    · rintro σ' H2 ⟨own2, s2, rfl, L2, ok2, er2, em2⟩
      refine q_ifOrCall (vs := [.ref a, .ref b, .ref hp']) (Mv.of T H2) (et_is (by walk_at "et") (by rfl)) (by walk_at "ea") fun H3 e3 _ => ⟨a, b, hp', s2, _, _, rs', rfl, (L2.ex' e3).peg, (L2.ex' e3).st, ok2, (L2.ex' e3).ex.tb tb6, (L2.ex' e3).h3, by omega, (fun z => by rw [L2.o3] at z; cases z), fun H4 x d m4 h4 f4 hit => ⟨true, rfl, ?_⟩⟩
      rw [if_neg (by decide)]
      refine nextI ?_
      dsimp only
      have L4 := (L2.ex' e3).app3 m4 h4 f4
      obtain ⟨y, z, hx4, hy4, hz4⟩ := hit
      have lr4 : SqL K H4 hp' (rs' ++ [.ref x]) := .inl (.inl L4.h3)
      have ix : atI (rs' ++ [.ref x]) (-1) = some (.ref x) := ix_neg (by simp)
      have lx4 : SqL K H4 x [.ref y, .ref z] := .inl (.inl hx4)
      refine s_appR (l := kp) (Mv.of T H4) L4.h4 (by walk_at "ev") (er_pair2 (xs := d.1.map V.int) (ys := d.2.map V.int) (el_list (ev_op (ev_op (by walk_at "ev") (ev_neg ev_c) (rv_ixL lr4 ix)) ev_c (rv_ixL lx4 rfl)) (.inl (.inl (.inl hy4)))) (el_list (ev_op (ev_op (by walk_at "ev") (ev_neg ev_c) (rv_ixL lr4 ix)) ev_c (rv_ixL lx4 rfl)) (.inl (.inl (.inl hz4))))) (by omega) fun w H5 H6' e5 _ e6' hw => ?_
      obtain ⟨f, y', z', rfl, nf, ny, nz, hf, hy', hz', _, _, _⟩ := hw
      have fd6 : FrD K H4 H6' (.ref f) (itD d) := by
        have g : ∀ {w : Addr} {xs : List V}, nod H5 w → H6' w = some (.lst xs) → res H6' (nod H5) w = some (.lst xs) := fun n h => by rw [res_at n]; exact h
        exact FrD.back (H1 := H5) (.lst (.inl (.inl (g nf hf))) (.cons (dp_n (g ny hy')) (.cons (dp_n (g nz hz')) .nil))) e5
      have hk6 := (e5.trans e6').at L4.h4
      have m7 : Mv T (fun x => x = kp) H4 (upd H6' kp (.lst (ks' ++ [.ref f]))) := ((e5.trans e6').mv).set (.inl rfl) hk6
      have fd7 : FrD K H4 (upd H6' kp (.lst (ks' ++ [.ref f]))) (.ref f) (itD d) := fd6.mv (T := T) (Mv.set1 hk6) fun x n z => nod.not L4.h4 rfl (z ▸ n)
      exact ⟨_, _, _, _, s2, _, _, hd' ++ [d], rfl, L4.app4 m7 upd_same fd7, ok2, er2, em2, by rw [List.length_append, lr']; rfl, by rw [List.length_append, lk']; rfl, by omega⟩
  · rintro qa σ' H' ⟨v10, v11, v12, own, s, rs', ks', hd', rfl, L, _⟩
    dsimp only
    exact s_ret (Mv.of T H') (ev_op (by walk_at "ev") (by walk_at "ev") (rv_eqDt (d := .list (hd'.map itD)) (.lst (.inl (.inl L.h3)) (res_sub.dps L.dr)) (.lst (.inl (.inl L.h4)) (res_sub.dps L.dk)) sh_its)) fun H'' _ => q _
end
end Fp

namespace Fp
open PySem PySem.Spec PyProof.Rows L2 LamX
theorem Df.of {K : PySem.W.Frag} {mg : Str → Option Value} {x : Str} {st : Stmt} (h : ∃ fd, FunD K x x (defArgs st) (defBody st) (defScope st) [] [] (He.fAd K (x, none)) fd) (g : mg x = some (.ref (He.ga K x))) : Df K mg x st := by
  obtain ⟨fd, F⟩ := h
  exact ⟨_, fd, F, g, rfl⟩
/-- what the end wants of the law -/
theorem law_at {l : PySem.W.OpenLaw} {w : World} {K : PySem.W.Frag} {mg : Str → Option Value} {fa : Addr} {h : Heap} {n k : Nat} {N : List Str} {st : Stmt} {sp : Sp} {cs : List (Addr × Addr)} (D : Df K mg "law" st) (hm : mg "law" = some (.ref fa))
    (hT : ∀ p ∈ cs, h.get? p.2 = some { cls := .none, data := .fields #[] }) (nT : ∀ p ∈ cs, K.lookup p.2 = none) (C : ∀ p ∈ cs, PySem.W.CodeHd h p.1 p.2) (S : FnScope N ["_law_script"] (defScope st)) (len : ∀ vs H Q E, sp vs H Q E → vs.length = 1)
    (hb : ∀ (kV doc pm : Value) (an : Option Addr) (cdv ct : Value) (us : List Value), us.length = (["_law_script"] : List Str).length → bindArgs (PySem.W.fnOf "law" "law" (defArgs st) (defBody st) (defScope st) .none kV doc pm an cdv ct) ⟨us, []⟩ = pure ((["_law_script"] : List Str).zip us))
    (hsp : ∀ (H : Hp) (a : Addr) (ns : List Int), ns.length ≤ n → (∀ z ∈ ns, Builtin.Int.intBits z ≤ 1048576) → (∀ p ∈ cs, H p.2 = some (.tbl #[])) → SqL K H a (ns.map V.int) → sp [.ref a] H (fun v _ => v = .bl true) fun _ _ _ => False)
    (hbody : ∀ base : Heap, K.In base → base.Ns mainGlobals mg → (∀ p ∈ cs, TabB base mg p.1 p.2) → ∀ (f : Addr) (cdv : Value) (A : Around) (outer : List Env) (s : Shared) (H : Hp) (vs : List V) (Q : VK) (E : XK), Room k (A.deeper (envOfC "law" (defScope st) s.heap.objs.size f cdv)) → sp vs H Q E →
      ∃ t, PSs (cxOf CX0 l.prog w K mg base N "law" (defScope st) f cdv A outer s H E).nox (defBody st) t ∧ t { nx := fun _ H' => Q .non H', rt := Q } (start N vs) H) : LawAtS l w K CX0 (k + 1) n "_law_script" mg fa h := by
  obtain ⟨f, fd, F, hm', hf⟩ := D.ex
  rw [hm] at hm'
  obtain rfl : fa = f := by cases hm'; rfl
  refine ⟨fd, cs, sp, hT, nT, C, fun s u => F.bindsA hb s [u] rfl, hsp, fun base hK G tb => F.ok S len fun cdv A outer s H vs Q E hr h => ?_⟩
  obtain ⟨t, h1, h2⟩ := hbody base hK G tb fa cdv A outer s H vs Q E hr h
  exact ⟨t, h1.nox, h2⟩
end Fp

namespace Fp
open PySem PySem.Spec PyProof.Rows L2 LamX
def top (i : Nat) : Stmt := PySem.Challenge.pw_fewpegs_k02_pegs_come_and_go.main.body.getD i (.Pass ⟨0, 0, 0, 0⟩)
abbrev s_is_whole : Stmt := top 10
abbrev s_before : Stmt := top 11
abbrev s_in_order : Stmt := top 12
abbrev s_l_cell_at : Stmt := top 17
abbrev s_l_whole : Stmt := top 18
abbrev s_l_ranks : Stmt := top 19
abbrev s_l_comes : Stmt := top 20
abbrev s_l_put : Stmt := top 21
abbrev s_l_some : Stmt := top 22
abbrev s_l_made : Stmt := top 23
abbrev s_l_come : Stmt := top 24
abbrev s_l_go : Stmt := top 25
abbrev s_l_list : Stmt := top 26
abbrev s_l_shows : Stmt := top 27
abbrev s_l_refused : Stmt := top 28
abbrev s_l_line : Stmt := top 29
abbrev s_law : Stmt := top 30
abbrev s_NotTop_init : Stmt := inClass (top 7) 0
abbrev s_NoDeed_init : Stmt := inClass (top 8) 0
abbrev s_Pegs_init : Stmt := inClass (top 15) 0
abbrev s_Pegs_is_pressing : Stmt := inClass (top 15) 1
abbrev s_Pegs_come : Stmt := inClass (top 15) 2
abbrev s_Pegs_go : Stmt := inClass (top 15) 3
abbrev s_Pegs_call_keeper : Stmt := inClass (top 15) 4
abbrev s_Pegs_on_pegs : Stmt := inClass (top 15) 5
abbrev s_Pegs_waiting : Stmt := inClass (top 15) 6
abbrev s_Pegs_first : Stmt := inClass (top 15) 7
abbrev s_Pegs_tallies : Stmt := inClass (top 15) 8
theorem sc_is_whole : FnScope ["thing"] ["thing"] (defScope s_is_whole) := ⟨rfl, rfl, rfl, by decide +kernel, rfl, by decide +kernel, by decide +kernel⟩
theorem g_is_whole {P : Program} {w : World} {K : PySem.W.Frag} {mg : Str → Option Value} {base : Heap} {T : List (Addr × Str)} (B : Bi mg) (D : Df K mg "is_whole" s_is_whole)  : Gd P w K mg base CX0 1 "is_whole" ["thing"] (sp_is_whole K T) :=
  D.ok0 sc_is_whole len_is_whole (fun _ _ _ _ _ _ us hl => match us, hl with | [_], _ => rfl) fun f cdv A outer s H vs Q E hr h => ⟨r_is_whole K T,
  (pss_one (ps_ret (pe_and (pe_callB call_is rfl B.isinstance (by decide +kernel) (pa_cons (pv 0) (pa_cons (pe_bltn (v := .ty "int") rfl B.int (by decide +kernel) rfl) pa_nil))) (pe_one (pe_not (pe_callB call_is rfl B.isinstance (by decide +kernel) (pa_cons (pv 0) (pa_cons (pe_bltn (v := .ty "bool") rfl B.bool (by decide +kernel) rfl) pa_nil)))))))), p_is_whole h⟩
theorem sc_before : FnScope ["ranks", "one", "other"] ["ranks", "one", "other"] (defScope s_before) := ⟨rfl, rfl, rfl, by decide +kernel, rfl, by decide +kernel, by decide +kernel⟩
theorem g_before {P : Program} {w : World} {K : PySem.W.Frag} {mg : Str → Option Value} {base : Heap} {T : List (Addr × Str)} (B : Bi mg) (D : Df K mg "before" s_before)  : Gd P w K mg base CX0 1 "before" ["ranks", "one", "other"] (sp_before K T) :=
  D.ok0 sc_before len_before (fun _ _ _ _ _ _ us hl => match us, hl with | [_, _, _], _ => rfl) fun f cdv A outer s H vs Q E hr h => ⟨r_before K T,
  (pss_cons (ps_if (pt_cmpR op_ne (pe_ix ix_list (pv 0) (pv 1) (fun _ _ => rfl)) (pe_ix ix_list (pv 0) (pv 2) (fun _ _ => rfl)) (nomark _)) (pss_one (ps_ret (pe_cmpR op_lt (pe_ix ix_list (pv 0) (pv 1) (fun _ _ => rfl)) (pe_ix ix_list (pv 0) (pv 2) (fun _ _ => rfl)) (nomark _)))) pss_nil)
  (pss_one (ps_ret (pe_cmpR op_lt (pv 1) (pv 2) (nomark _))))), p_before h⟩
theorem sc_in_order : FnScope ["ranks", "lines"] ["ranks", "lines"] (defScope s_in_order) := ⟨rfl, rfl, rfl, by decide +kernel, rfl, by decide +kernel, by decide +kernel⟩
theorem g_in_order {P : Program} {w : World} {K : PySem.W.Frag} {mg : Str → Option Value} {base : Heap} {T : List (Addr × Str)} {Pt : Addr} (B : Bi mg) (D : Df K mg "in_order" s_in_order) (TB : TabB base mg (He.codeOf K ("in_order", none)) Pt) (hmT : (Pt, ("in_order" : Str) ++ ".<locals>." ++ "<lambda>") ∈ T) (hu : ∀ p ∈ T, p.1 = Pt → p.2 = ("in_order" : Str) ++ ".<locals>." ++ "<lambda>") : Gd P w K mg base CX0 1 "in_order" ["ranks", "lines"] (sp_in_order K T) :=
  D.okC sc_in_order len_in_order (fun _ _ _ _ _ _ us hl => match us, hl with | [_, _], _ => rfl) fun f cdv A outer s H vs Q E hcode hr h => ⟨r_in_order K T, (pss_one (ps_ret (pe_sortK (ir := 0) (pa_cons (pv 1) pa_nil) hr rfl B.sorted TB hcode hmT hu rfl rfl rfl (fun _ _ _ _ _ _ => rfl)))), p_in_order h⟩
theorem sc_Pegs_init : FnScope ["self", "ranks", "many", "lines", "order"] ["self", "ranks", "many", "lines"] (defScope s_Pegs_init) := ⟨rfl, rfl, rfl, by decide +kernel, rfl, by decide +kernel, by decide +kernel⟩
theorem g_Pegs_init {P : Program} {w : World} {K : PySem.W.Frag} {mg : Str → Option Value} {base : Heap} {T : List (Addr × Str)} (B : Bi mg) (D : Dk K mg "Pegs" "Pegs.__init__" s_Pegs_init []) (c_MOST : ∃ t, mg "MOST" = some (.int 16 t)) (R_NoPegs : Ee K mg "NoPegs") (G_in_order : Gd P w K mg base CX0 1 "in_order" ["ranks", "lines"] (sp_in_order K T)) (G_is_whole : Gd P w K mg base CX0 1 "is_whole" ["thing"] (sp_is_whole K T)) : Gk P w K mg base (L2.CX P w) 2 "Pegs" ["self", "ranks", "many", "lines"] [] (sp_Pegs_init K T) :=
  D.gk (D.dm.fnX sc_Pegs_init len_Pegs_init (fun _ _ F => bindN (fun _ _ _ _ _ _ us hl => match us, hl with | [_, _, _, _], _ => rfl) F) fun f cdv A outer s H vs Q E hr h => ⟨r_Pegs_init K T E,
  (pss_cons (ps_if (PW.pt (pw_or (pt_not (pt_val (pe_g G_is_whole (hr.mono (by decide)) rfl pass0 (pa_cons (pv 2) pa_nil)))) (pw_or (pt_cmpR op_lt (pv 2) pe_int (nomark _)) (pw_or1 (pt_cmpR op_gt (pv 2) (pe_gi c_MOST rfl) (nomark _)))))) (pss_one (ps_no R_NoPegs rfl (takes_of rfl rfl rfl rfl) rfl)) pss_nil)
  (PSs.nox (pss_cons (ps_set (i := 4) sc_Pegs_init.nd rfl (Or.inl rfl) (pe_g G_in_order (hr.mono (by decide)) rfl pass0 (pa_cons (pv 1) (pa_cons (pv 3) pa_nil))))
  (pss_cons (ps_fld (pv 0) (pe_callTy call_list_of rfl B.list (by decide +kernel) (pa_cons (pv 1) pa_nil)) rfl)
  (pss_cons (ps_fld (pv 0) (pv 2) rfl)
  (pss_cons (ps_fld (pv 0) (pe_slice sl_list (pv 4) po_none (po_some (pv 2))) rfl)
  (pss_cons (ps_fld (pv 0) (pe_slice sl_list (pv 4) (po_some (pv 2)) po_none) rfl)
  (pss_cons (ps_fld (pv 0) (pe_callB call_len_seq rfl B.len boot_len (pa_cons (pv 4) pa_nil)) rfl)
  (pss_cons (ps_fld (pv 0) (pe_callB call_len_seq rfl B.len boot_len (pa_cons (pe_fld (pv 0) rfl) pa_nil)) rfl)
  (pss_one (ps_fld (pv 0) pe_int rfl))))))))))), p_Pegs_init h⟩)
theorem sc_Pegs_is_pressing : FnScope ["self", "line"] ["self", "line"] (defScope s_Pegs_is_pressing) := ⟨rfl, rfl, rfl, by decide +kernel, rfl, by decide +kernel, by decide +kernel⟩
theorem g_Pegs_is_pressing {P : Program} {w : World} {K : PySem.W.Frag} {mg : Str → Option Value} {base : Heap} {T : List (Addr × Str)} (B : Bi mg) (D : Dm K "Pegs" "is_pressing" "Pegs.is_pressing" s_Pegs_is_pressing []) (G_before : Gd P w K mg base CX0 1 "before" ["ranks", "one", "other"] (sp_before K T)) : Gm P w K mg base CX0 2 "Pegs" "is_pressing" ["self", "line"] [] (sp_Pegs_is_pressing K T) :=
  D.gm (D.fn0 sc_Pegs_is_pressing len_Pegs_is_pressing (fun _ _ F => bindN (fun _ _ _ _ _ _ us hl => match us, hl with | [_, _], _ => rfl) F) fun f cdv A outer s H vs Q E hr h => ⟨r_Pegs_is_pressing K T,
  (pss_cons (ps_if (PW.pt (pw_and (pt_cmpR (op_neD hr.units) (pe_fld (pv 0) rfl) (pe_lst pa_nil) (nomark _)) (pw_and1 (pt_val (pe_g G_before (hr.mono (by decide)) rfl pass0 (pa_cons (pe_fld (pv 0) rfl) (pa_cons (pv 1) (pa_cons (pe_ix ix_list (pe_fld (pv 0) rfl) (pe_un un_neg pe_int) (fun _ _ => rfl)) pa_nil)))))))) (pss_one (ps_ret pe_bl)) pss_nil)
  (pss_one (ps_ret (pe_and (pe_cmpR (op_eqD hr.units) (pe_fld (pv 0) rfl) (pe_lst pa_nil) (nomark _)) (pe_one (pe_cmpR op_lt (pe_callB call_len_seq rfl B.len boot_len (pa_cons (pe_fld (pv 0) rfl) pa_nil)) (pe_fld (pv 0) rfl) (nomark _))))))), p_Pegs_is_pressing h⟩)
theorem sc_Pegs_come : FnScope ["self", "line"] ["self", "line"] (defScope s_Pegs_come) := ⟨rfl, rfl, rfl, by decide +kernel, rfl, by decide +kernel, by decide +kernel⟩
theorem g_Pegs_come {P : Program} {w : World} {K : PySem.W.Frag} {mg : Str → Option Value} {base : Heap} {T : List (Addr × Str)} (B : Bi mg) (D : Dm K "Pegs" "come" "Pegs.come" s_Pegs_come []) (G_Pegs_is_pressing : Gm P w K mg base CX0 2 "Pegs" "is_pressing" ["self", "line"] [] (sp_Pegs_is_pressing K T)) (G_in_order : Gd P w K mg base CX0 1 "in_order" ["ranks", "lines"] (sp_in_order K T)) : Gm P w K mg base CX0 3 "Pegs" "come" ["self", "line"] [] (sp_Pegs_come K T) :=
  D.gm (D.fn0 sc_Pegs_come len_Pegs_come (fun _ _ F => bindN (fun _ _ _ _ _ _ us hl => match us, hl with | [_, _], _ => rfl) F) fun f cdv A outer s H vs Q E hr h => ⟨r_Pegs_come K T,
  (pss_cons (ps_fld (pv 0) (pe_op op_add (pe_fld (pv 0) rfl) pe_int) rfl)
  (pss_cons (ps_if (pt_not (pt_val (pe_m G_Pegs_is_pressing (hr.mono (by decide)) pass0 (pv 0) (pa_cons (pv 1) pa_nil)))) (pss_cons (ps_expr (pe_bm PySem.F.plainAttrs_list PySem.F.slot_list_append PySem.F.type_list_append mt_append (pe_fld (pv 0) rfl) (pa_cons (pv 1) pa_nil)))
  (pss_one ps_retN)) pss_nil)
  (Evl.pss_cut (ps_if (pt_cmpR op_eq (pe_callB call_len_seq rfl B.len boot_len (pa_cons (pe_fld (pv 0) rfl) pa_nil)) (pe_fld (pv 0) rfl) (nomark _)) (pss_one (ps_expr (pe_bm PySem.F.plainAttrs_list PySem.F.slot_list_append PySem.F.type_list_append mt_append (pe_fld (pv 0) rfl) (pa_cons (pe_bm0 PySem.F.plainAttrs_list PySem.F.slot_list_pop PySem.F.type_list_pop mt_pop (pe_fld (pv 0) rfl)) pa_nil)))) pss_nil)
  (pss_cons (ps_fld (pv 0) (pe_g G_in_order (hr.mono (by decide)) rfl pass0 (pa_cons (pe_fld (pv 0) rfl) (pa_cons (pe_op op_cat (pe_fld (pv 0) rfl) (pe_lst (pa_cons (pv 1) pa_nil))) pa_nil))) rfl)
  (pss_one (ps_fld (pv 0) (pe_op op_add (pe_fld (pv 0) rfl) pe_int) rfl)))))), p_Pegs_come h⟩)
theorem sc_Pegs_call_keeper : FnScope ["self", "order"] ["self"] (defScope s_Pegs_call_keeper) := ⟨rfl, rfl, rfl, by decide +kernel, rfl, by decide +kernel, by decide +kernel⟩
theorem g_Pegs_call_keeper {P : Program} {w : World} {K : PySem.W.Frag} {mg : Str → Option Value} {base : Heap} {T : List (Addr × Str)} (B : Bi mg) (D : Dm K "Pegs" "call_keeper" "Pegs.call_keeper" s_Pegs_call_keeper []) (G_in_order : Gd P w K mg base CX0 1 "in_order" ["ranks", "lines"] (sp_in_order K T)) : Gm P w K mg base CX0 2 "Pegs" "call_keeper" ["self"] [] (sp_Pegs_call_keeper K T) :=
  D.gm (D.fn0 sc_Pegs_call_keeper len_Pegs_call_keeper (fun _ _ F => bindN (fun _ _ _ _ _ _ us hl => match us, hl with | [_], _ => rfl) F) fun f cdv A outer s H vs Q E hr h => ⟨r_Pegs_call_keeper K T,
  (pss_cons (ps_set (i := 1) sc_Pegs_call_keeper.nd rfl (Or.inl rfl) (pe_g G_in_order (hr.mono (by decide)) rfl pass0 (pa_cons (pe_fld (pv 0) rfl) (pa_cons (pe_fld (pv 0) rfl) pa_nil))))
  (pss_cons (ps_fld (pv 0) (pe_slice sl_list (pv 1) po_none (po_some (pe_fld (pv 0) rfl))) rfl)
  (pss_cons (ps_fld (pv 0) (pe_slice sl_list (pv 1) (po_some (pe_fld (pv 0) rfl)) po_none) rfl)
  (pss_cons (ps_fld (pv 0) (pe_op op_add (pe_fld (pv 0) rfl) (pe_callB call_len_seq rfl B.len boot_len (pa_cons (pe_fld (pv 0) rfl) pa_nil))) rfl)
  (pss_one (ps_fld (pv 0) (pe_op op_add (pe_fld (pv 0) rfl) pe_int) rfl)))))), p_Pegs_call_keeper h⟩)
theorem sc_Pegs_go : FnScope ["self", "line"] ["self", "line"] (defScope s_Pegs_go) := ⟨rfl, rfl, rfl, by decide +kernel, rfl, by decide +kernel, by decide +kernel⟩
theorem g_Pegs_go {P : Program} {w : World} {K : PySem.W.Frag} {mg : Str → Option Value} {base : Heap} {T : List (Addr × Str)} (B : Bi mg) (D : Dm K "Pegs" "go" "Pegs.go" s_Pegs_go []) (G_Pegs_call_keeper : Gm P w K mg base CX0 2 "Pegs" "call_keeper" ["self"] [] (sp_Pegs_call_keeper K T)) : Gm P w K mg base CX0 3 "Pegs" "go" ["self", "line"] [] (sp_Pegs_go K T) :=
  D.gm (D.fn0 sc_Pegs_go len_Pegs_go (fun _ _ F => bindN (fun _ _ _ _ _ _ us hl => match us, hl with | [_, _], _ => rfl) F) fun f cdv A outer s H vs Q E hr h => ⟨r_Pegs_go K T,
  (Evl.pss_cut (ps_if (pt_cmpR op_in_seq (pv 1) (pe_fld (pv 0) rfl) rfl) (pss_one (ps_expr (pe_bm PySem.F.plainAttrs_list PySem.F.slot_list_remove PySem.F.type_list_remove mt_remove (pe_fld (pv 0) rfl) (pa_cons (pv 1) pa_nil)))) (pss_one (ps_expr (pe_bm PySem.F.plainAttrs_list PySem.F.slot_list_remove PySem.F.type_list_remove mt_remove (pe_fld (pv 0) rfl) (pa_cons (pv 1) pa_nil)))))
  (pss_one (ps_if (PW.pt (pw_and (pt_cmpR (op_eqD hr.units) (pe_fld (pv 0) rfl) (pe_lst pa_nil) (nomark _)) (pw_and1 (pt_cmpR (op_neD hr.units) (pe_fld (pv 0) rfl) (pe_lst pa_nil) (nomark _))))) (pss_one (ps_expr (pe_m0 G_Pegs_call_keeper (hr.mono (by decide)) pass0 (pv 0)))) pss_nil))), p_Pegs_go h⟩)
theorem sc_Pegs_on_pegs : FnScope ["self"] ["self"] (defScope s_Pegs_on_pegs) := ⟨rfl, rfl, rfl, by decide +kernel, rfl, by decide +kernel, by decide +kernel⟩
theorem g_Pegs_on_pegs {P : Program} {w : World} {K : PySem.W.Frag} {mg : Str → Option Value} {base : Heap} {T : List (Addr × Str)} (B : Bi mg) (D : Dm K "Pegs" "on_pegs" "Pegs.on_pegs" s_Pegs_on_pegs [])  : Gm P w K mg base CX0 1 "Pegs" "on_pegs" ["self"] [] (sp_Pegs_on_pegs K T) :=
  D.gm (D.fn0 sc_Pegs_on_pegs len_Pegs_on_pegs (fun _ _ F => bindN (fun _ _ _ _ _ _ us hl => match us, hl with | [_], _ => rfl) F) fun f cdv A outer s H vs Q E hr h => ⟨r_Pegs_on_pegs K T,
  (pss_one (ps_ret (pe_callTy call_list_of rfl B.list (by decide +kernel) (pa_cons (pe_fld (pv 0) rfl) pa_nil)))), p_Pegs_on_pegs h⟩)
theorem sc_Pegs_waiting : FnScope ["self"] ["self"] (defScope s_Pegs_waiting) := ⟨rfl, rfl, rfl, by decide +kernel, rfl, by decide +kernel, by decide +kernel⟩
theorem g_Pegs_waiting {P : Program} {w : World} {K : PySem.W.Frag} {mg : Str → Option Value} {base : Heap} {T : List (Addr × Str)} (B : Bi mg) (D : Dm K "Pegs" "waiting" "Pegs.waiting" s_Pegs_waiting []) (G_in_order : Gd P w K mg base CX0 1 "in_order" ["ranks", "lines"] (sp_in_order K T)) : Gm P w K mg base CX0 2 "Pegs" "waiting" ["self"] [] (sp_Pegs_waiting K T) :=
  D.gm (D.fn0 sc_Pegs_waiting len_Pegs_waiting (fun _ _ F => bindN (fun _ _ _ _ _ _ us hl => match us, hl with | [_], _ => rfl) F) fun f cdv A outer s H vs Q E hr h => ⟨r_Pegs_waiting K T,
  (pss_one (ps_ret (pe_g G_in_order (hr.mono (by decide)) rfl pass0 (pa_cons (pe_fld (pv 0) rfl) (pa_cons (pe_fld (pv 0) rfl) pa_nil))))), p_Pegs_waiting h⟩)
theorem sc_Pegs_first : FnScope ["self"] ["self"] (defScope s_Pegs_first) := ⟨rfl, rfl, rfl, by decide +kernel, rfl, by decide +kernel, by decide +kernel⟩
theorem g_Pegs_first {P : Program} {w : World} {K : PySem.W.Frag} {mg : Str → Option Value} {base : Heap} {T : List (Addr × Str)} (B : Bi mg) (D : Dm K "Pegs" "first" "Pegs.first" s_Pegs_first [])  : Gm P w K mg base CX0 1 "Pegs" "first" ["self"] [] (sp_Pegs_first K T) :=
  D.gm (D.fn0 sc_Pegs_first len_Pegs_first (fun _ _ F => bindN (fun _ _ _ _ _ _ us hl => match us, hl with | [_], _ => rfl) F) fun f cdv A outer s H vs Q E hr h => ⟨r_Pegs_first K T,
  (pss_cons (ps_if (pt_cmpR (op_eqD hr.units) (pe_fld (pv 0) rfl) (pe_lst pa_nil) (nomark _)) (pss_one (ps_ret pe_non)) pss_nil)
  (pss_one (ps_ret (pe_ix ix_list (pe_fld (pv 0) rfl) pe_int (fun _ _ => rfl))))), p_Pegs_first h⟩)
theorem sc_Pegs_tallies : FnScope ["self"] ["self"] (defScope s_Pegs_tallies) := ⟨rfl, rfl, rfl, by decide +kernel, rfl, by decide +kernel, by decide +kernel⟩
theorem g_Pegs_tallies {P : Program} {w : World} {K : PySem.W.Frag} {mg : Str → Option Value} {base : Heap} {T : List (Addr × Str)} (B : Bi mg) (D : Dm K "Pegs" "tallies" "Pegs.tallies" s_Pegs_tallies [])  : Gm P w K mg base CX0 1 "Pegs" "tallies" ["self"] [] (sp_Pegs_tallies K T) :=
  D.gm (D.fn0 sc_Pegs_tallies len_Pegs_tallies (fun _ _ F => bindN (fun _ _ _ _ _ _ us hl => match us, hl with | [_], _ => rfl) F) fun f cdv A outer s H vs Q E hr h => ⟨r_Pegs_tallies K T,
  (pss_one (ps_ret (pe_tup (pa_cons (pe_fld (pv 0) rfl) (pa_cons (pe_fld (pv 0) rfl) (pa_cons (pe_fld (pv 0) rfl) pa_nil)))))), p_Pegs_tallies h⟩)
theorem sc_l_cell_at : FnScope ["_law_script", "_law_k"] ["_law_script", "_law_k"] (defScope s_l_cell_at) := ⟨rfl, rfl, rfl, by decide +kernel, rfl, by decide +kernel, by decide +kernel⟩
theorem g_l_cell_at {P : Program} {w : World} {K : PySem.W.Frag} {mg : Str → Option Value} {base : Heap} {T : List (Addr × Str)} (B : Bi mg) (D : Df K mg "_law_cell_at" s_l_cell_at)  : Gd P w K mg base CX0 1 "_law_cell_at" ["_law_script", "_law_k"] (sp_l_cell_at K T) :=
  D.ok0 sc_l_cell_at len_l_cell_at (fun _ _ _ _ _ _ us hl => match us, hl with | [_, _], _ => rfl) fun f cdv A outer s H vs Q E hr h => ⟨r_l_cell_at K T,
  (pss_cons (ps_if (pt_cmpR op_lt (pv 1) (pe_callB call_len_seq rfl B.len boot_len (pa_cons (pv 0) pa_nil)) (nomark _)) (pss_one (ps_ret (pe_ix ix_list (pv 0) (pv 1) (fun _ _ => rfl)))) pss_nil)
  (pss_one (ps_ret pe_int))), p_l_cell_at h⟩
theorem sc_l_whole : FnScope ["_law_found"] ["_law_found"] (defScope s_l_whole) := ⟨rfl, rfl, rfl, by decide +kernel, rfl, by decide +kernel, by decide +kernel⟩
theorem g_l_whole {P : Program} {w : World} {K : PySem.W.Frag} {mg : Str → Option Value} {base : Heap} {T : List (Addr × Str)} (B : Bi mg) (D : Df K mg "_law_whole" s_l_whole)  : Gd P w K mg base CX0 1 "_law_whole" ["_law_found"] (sp_l_whole K T) :=
  D.ok0 sc_l_whole len_l_whole (fun _ _ _ _ _ _ us hl => match us, hl with | [_], _ => rfl) fun f cdv A outer s H vs Q E hr h => ⟨r_l_whole K T,
  (pss_one (ps_ret (pe_and (pe_callB call_is rfl B.isinstance (by decide +kernel) (pa_cons (pv 0) (pa_cons (pe_bltn (v := .ty "int") rfl B.int (by decide +kernel) rfl) pa_nil))) (pe_one (pe_not (pe_callB call_is rfl B.isinstance (by decide +kernel) (pa_cons (pv 0) (pa_cons (pe_bltn (v := .ty "bool") rfl B.bool (by decide +kernel) rfl) pa_nil)))))))), p_l_whole h⟩
theorem sc_l_ranks : FnScope ["_law_cell", "_law_many", "_law_ranks_here", "_law_k", "_law_number"] ["_law_cell", "_law_many"] (defScope s_l_ranks) := ⟨rfl, rfl, rfl, by decide +kernel, rfl, by decide +kernel, by decide +kernel⟩
theorem g_l_ranks {P : Program} {w : World} {K : PySem.W.Frag} {mg : Str → Option Value} {base : Heap} {T : List (Addr × Str)} (B : Bi mg) (D : Df K mg "_law_ranks" s_l_ranks)  : Gd P w K mg base CX0 1 "_law_ranks" ["_law_cell", "_law_many"] (sp_l_ranks K T) :=
  D.ok0 sc_l_ranks len_l_ranks (fun _ _ _ _ _ _ us hl => match us, hl with | [_, _], _ => rfl) fun f cdv A outer s H vs Q E hr h => ⟨r_l_ranks K T,
  (pss_cons (ps_set (i := 2) sc_l_ranks.nd rfl (Or.inl rfl) (pe_lst pa_nil))
  (pss_cons (ps_for PassesOwn.never rfl (pi_range1 rfl B.range (pa_cons (pv 1) pa_nil)) (pg_name (i := 3) sc_l_ranks.nd rfl (Or.inl rfl)) (pss_cons (ps_set (i := 4) sc_l_ranks.nd rfl (Or.inl rfl) (pe_op op_mod (pe_op op_mul (pe_op op_add (pe_op op_add (pe_op op_add (pe_op op_mod (pe_op op_fdivW (pv 0) pe_int) pe_int) (pe_op op_mul (pe_op op_mul pe_int (pv 3)) (pv 3))) (pv 3)) pe_int) pe_int) pe_int))
  (pss_cons (ps_set (i := 4) sc_l_ranks.nd rfl (Or.inl rfl) (pe_op op_mod (pe_op op_mul (pv 4) (pv 4)) pe_int))
  (pss_one (ps_if (pt_cmpR op_eq (pe_op op_mod (pv 0) pe_int) pe_int (nomark _)) (pss_one (ps_expr (pe_bm PySem.F.plainAttrs_list PySem.F.slot_list_append PySem.F.type_list_append mt_append (pv 2) (pa_cons (pe_op op_mod (pv 4) pe_int) pa_nil)))) (pss_one (ps_if (pt_cmpR op_eq (pe_op op_mod (pv 0) pe_int) pe_int (nomark _)) (pss_one (ps_expr (pe_bm PySem.F.plainAttrs_list PySem.F.slot_list_append PySem.F.type_list_append mt_append (pv 2) (pa_cons (pe_op op_mod (pe_op op_pow (pv 4) pe_int) (pe_op op_pow pe_int pe_int)) pa_nil)))) (pss_one (ps_if (pt_cmpR op_eq (pe_op op_mod (pv 0) pe_int) pe_int (nomark _)) (pss_one (ps_expr (pe_bm PySem.F.plainAttrs_list PySem.F.slot_list_append PySem.F.type_list_append mt_append (pv 2) (pa_cons (pe_op op_sub (pe_op op_sub (pe_op op_pow pe_int pe_int) pe_int) (pe_op op_mod (pv 4) pe_int)) pa_nil)))) (pss_one (ps_expr (pe_bm PySem.F.plainAttrs_list PySem.F.slot_list_append PySem.F.type_list_append mt_append (pv 2) (pa_cons (pe_op op_add (pe_op op_mul (pe_op op_sub (pv 1) (pv 3)) (pe_op op_pow pe_int pe_int)) (pe_op op_mod (pv 4) pe_int)) pa_nil)))))))))))))
  (pss_one (ps_ret (pv 2))))), p_l_ranks h⟩
theorem sc_l_comes : FnScope ["_law_ranks_here", "_law_one", "_law_other"] ["_law_ranks_here", "_law_one", "_law_other"] (defScope s_l_comes) := ⟨rfl, rfl, rfl, by decide +kernel, rfl, by decide +kernel, by decide +kernel⟩
theorem g_l_comes {P : Program} {w : World} {K : PySem.W.Frag} {mg : Str → Option Value} {base : Heap} {T : List (Addr × Str)} (B : Bi mg) (D : Df K mg "_law_comes" s_l_comes)  : Gd P w K mg base CX0 1 "_law_comes" ["_law_ranks_here", "_law_one", "_law_other"] (sp_l_comes K T) :=
  D.ok0 sc_l_comes len_l_comes (fun _ _ _ _ _ _ us hl => match us, hl with | [_, _, _], _ => rfl) fun f cdv A outer s H vs Q E hr h => ⟨r_l_comes K T,
  (pss_one (ps_ret (pe_or (pe_cmpR op_lt (pe_ix ix_list (pv 0) (pv 1) (fun _ _ => rfl)) (pe_ix ix_list (pv 0) (pv 2) (fun _ _ => rfl)) (nomark _)) (pe_one (pe_and (pe_cmpR op_eq (pe_ix ix_list (pv 0) (pv 1) (fun _ _ => rfl)) (pe_ix ix_list (pv 0) (pv 2) (fun _ _ => rfl)) (nomark _)) (pe_one (pe_cmpR op_lt (pv 1) (pv 2) (nomark _)))))))), p_l_comes h⟩
theorem sc_l_put : FnScope ["_law_ranks_here", "_law_row", "_law_line_here", "_law_at"] ["_law_ranks_here", "_law_row", "_law_line_here"] (defScope s_l_put) := ⟨rfl, rfl, rfl, by decide +kernel, rfl, by decide +kernel, by decide +kernel⟩
theorem g_l_put {P : Program} {w : World} {K : PySem.W.Frag} {mg : Str → Option Value} {base : Heap} {T : List (Addr × Str)} (B : Bi mg) (D : Df K mg "_law_put" s_l_put) (G_l_comes : Gd P w K mg base CX0 1 "_law_comes" ["_law_ranks_here", "_law_one", "_law_other"] (sp_l_comes K T)) : Gd P w K mg base CX0 2 "_law_put" ["_law_ranks_here", "_law_row", "_law_line_here"] (sp_l_put K T) :=
  D.ok0 sc_l_put len_l_put (fun _ _ _ _ _ _ us hl => match us, hl with | [_, _, _], _ => rfl) fun f cdv A outer s H vs Q E hr h => ⟨r_l_put K T,
  (pss_cons (ps_set (i := 3) sc_l_put.nd rfl (Or.inl rfl) pe_int)
  (pss_cons (ps_while PassesOwn.never (PW.pt (pw_and (pt_cmpR op_lt (pv 3) (pe_callB call_len_seq rfl B.len boot_len (pa_cons (pv 1) pa_nil)) (nomark _)) (pw_and1 (pt_val (pe_g G_l_comes (hr.mono (by decide)) rfl pass0 (pa_cons (pv 0) (pa_cons (pe_ix ix_list (pv 1) (pv 3) (fun _ _ => rfl)) (pa_cons (pv 2) pa_nil)))))))) (pss_one (ps_set (i := 3) sc_l_put.nd rfl (Or.inl rfl) (pe_op op_add (pv 3) pe_int))))
  (pss_one (ps_expr (pe_bm PySem.F.plainAttrs_list PySem.F.slot_list_insert PySem.F.type_list_insert mt_insert (pv 1) (pa_cons (pv 3) (pa_cons (pv 2) pa_nil))))))), p_l_put h⟩
theorem sc_l_some : FnScope ["_law_cell", "_law_many", "_law_lines", "_law_k", "_law_number"] ["_law_cell", "_law_many"] (defScope s_l_some) := ⟨rfl, rfl, rfl, by decide +kernel, rfl, by decide +kernel, by decide +kernel⟩
theorem g_l_some {P : Program} {w : World} {K : PySem.W.Frag} {mg : Str → Option Value} {base : Heap} {T : List (Addr × Str)} (B : Bi mg) (D : Df K mg "_law_some" s_l_some)  : Gd P w K mg base CX0 1 "_law_some" ["_law_cell", "_law_many"] (sp_l_some K T) :=
  D.ok0 sc_l_some len_l_some (fun _ _ _ _ _ _ us hl => match us, hl with | [_, _], _ => rfl) fun f cdv A outer s H vs Q E hr h => ⟨r_l_some K T,
  (pss_cons (ps_set (i := 2) sc_l_some.nd rfl (Or.inl rfl) (pe_lst pa_nil))
  (pss_cons (ps_for PassesOwn.never rfl (pi_range1 rfl B.range (pa_cons (pv 1) pa_nil)) (pg_name (i := 3) sc_l_some.nd rfl (Or.inl rfl)) (pss_cons (ps_set (i := 4) sc_l_some.nd rfl (Or.inl rfl) (pe_op op_mod (pe_op op_mul (pe_op op_add (pe_op op_add (pe_op op_mod (pe_op op_fdivW (pv 0) pe_int) pe_int) (pe_op op_mul (pe_op op_mul pe_int (pv 3)) (pv 3))) pe_int) pe_int) pe_int))
  (pss_cons (ps_set (i := 4) sc_l_some.nd rfl (Or.inl rfl) (pe_op op_mod (pe_op op_mul (pv 4) (pv 4)) pe_int))
  (pss_one (ps_if (pt_cmpR op_lt (pe_op op_mod (pv 4) pe_int) (pe_op op_mod (pv 0) pe_int) (nomark _)) (pss_one (ps_expr (pe_bm PySem.F.plainAttrs_list PySem.F.slot_list_insert PySem.F.type_list_insert mt_insert (pv 2) (pa_cons (pe_op op_mod (pe_op op_fdivW (pv 4) pe_int) (pe_op op_add (pe_callB call_len_seq rfl B.len boot_len (pa_cons (pv 2) pa_nil)) pe_int)) (pa_cons (pv 3) pa_nil))))) pss_nil)))))
  (pss_one (ps_ret (pv 2))))), p_l_some h⟩
theorem sc_l_made : FnScope ["_law_ranks_here", "_law_many", "_law_lines", "_law_order", "_law_line_here"] ["_law_ranks_here", "_law_many", "_law_lines"] (defScope s_l_made) := ⟨rfl, rfl, rfl, by decide +kernel, rfl, by decide +kernel, by decide +kernel⟩
theorem g_l_made {P : Program} {w : World} {K : PySem.W.Frag} {mg : Str → Option Value} {base : Heap} {T : List (Addr × Str)} (B : Bi mg) (D : Df K mg "_law_made" s_l_made) (G_l_put : Gd P w K mg base CX0 2 "_law_put" ["_law_ranks_here", "_law_row", "_law_line_here"] (sp_l_put K T)) : Gd P w K mg base CX0 3 "_law_made" ["_law_ranks_here", "_law_many", "_law_lines"] (sp_l_made K T) :=
  D.ok0 sc_l_made len_l_made (fun _ _ _ _ _ _ us hl => match us, hl with | [_, _, _], _ => rfl) fun f cdv A outer s H vs Q E hr h => ⟨r_l_made K T,
  (pss_cons (ps_set (i := 3) sc_l_made.nd rfl (Or.inl rfl) (pe_lst pa_nil))
  (pss_cons (ps_for PassesOwn.never rfl (pi_list (pv 2)) (pg_name (i := 4) sc_l_made.nd rfl (Or.inl rfl)) (pss_one (ps_expr (pe_g G_l_put (hr.mono (by decide)) rfl pass0 (pa_cons (pv 0) (pa_cons (pv 3) (pa_cons (pv 4) pa_nil)))))))
  (pss_one (ps_ret (pe_lst (pa_cons (pe_slice sl_list (pv 3) po_none (po_some (pv 1))) (pa_cons (pe_slice sl_list (pv 3) (po_some (pv 1)) po_none) (pa_cons (pe_lst (pa_cons (pe_callB call_len_seq rfl B.len boot_len (pa_cons (pv 3) pa_nil)) (pa_cons (pe_callB (call_min2 rfl) rfl B.min (by decide +kernel) (pa_cons (pv 1) (pa_cons (pe_callB call_len_seq rfl B.len boot_len (pa_cons (pv 3) pa_nil)) pa_nil))) (pa_cons pe_int pa_nil)))) pa_nil)))))))), p_l_made h⟩
theorem sc_l_come : FnScope ["_law_ranks_here", "_law_many", "_law_state", "_law_line_here", "_law_hung", "_law_pressing"] ["_law_ranks_here", "_law_many", "_law_state", "_law_line_here"] (defScope s_l_come) := ⟨rfl, rfl, rfl, by decide +kernel, rfl, by decide +kernel, by decide +kernel⟩
theorem g_l_come {P : Program} {w : World} {K : PySem.W.Frag} {mg : Str → Option Value} {base : Heap} {T : List (Addr × Str)} (B : Bi mg) (D : Df K mg "_law_come" s_l_come) (G_l_comes : Gd P w K mg base CX0 1 "_law_comes" ["_law_ranks_here", "_law_one", "_law_other"] (sp_l_comes K T)) (G_l_put : Gd P w K mg base CX0 2 "_law_put" ["_law_ranks_here", "_law_row", "_law_line_here"] (sp_l_put K T)) : Gd P w K mg base CX0 3 "_law_come" ["_law_ranks_here", "_law_many", "_law_state", "_law_line_here"] (sp_l_come K T) :=
  D.ok0 sc_l_come len_l_come (fun _ _ _ _ _ _ us hl => match us, hl with | [_, _, _, _], _ => rfl) fun f cdv A outer s H vs Q E hr h => ⟨r_l_come K T,
  (pss_cons (ps_set (i := 4) sc_l_come.nd rfl (Or.inl rfl) (pe_ix ix_list (pv 2) pe_int (fun _ _ => rfl)))
  (pss_cons (ps_asg (pe_op op_add (pe_ix ix_list (pe_ix ix_list (pv 2) pe_int (fun _ _ => rfl)) pe_int (fun _ _ => rfl)) pe_int) (pg_sub (pe_ix ix_list (pv 2) pe_int (fun _ _ => rfl)) pe_int set_list))
  (pss_cons (ps_set (i := 5) sc_l_come.nd rfl (Or.inl rfl) (pe_and (pe_cmpR (op_neD hr.units) (pv 4) (pe_lst pa_nil) (nomark _)) (pe_one (pe_g G_l_comes (hr.mono (by decide)) rfl pass0 (pa_cons (pv 0) (pa_cons (pv 3) (pa_cons (pe_ix ix_list (pv 4) (pe_un un_neg pe_int) (fun _ _ => rfl)) pa_nil)))))))
  (pss_cons (ps_if (PW.pt (pw_and (pt_not (pt_val (pv 5))) (pw_and1 (PW.pt (pw_or (pt_cmpR (op_neD hr.units) (pe_ix ix_list (pv 2) pe_int (fun _ _ => rfl)) (pe_lst pa_nil) (nomark _)) (pw_or1 (pt_cmpR op_eq (pe_callB call_len_seq rfl B.len boot_len (pa_cons (pv 4) pa_nil)) (pv 1) (nomark _)))))))) (pss_cons (ps_expr (pe_g G_l_put (hr.mono (by decide)) rfl pass0 (pa_cons (pv 0) (pa_cons (pe_ix ix_list (pv 2) pe_int (fun _ _ => rfl)) (pa_cons (pv 3) pa_nil)))))
  (pss_one ps_retN)) pss_nil)
  (Evl.pss_cut (ps_if (pt_cmpR op_eq (pe_callB call_len_seq rfl B.len boot_len (pa_cons (pv 4) pa_nil)) (pv 1) (nomark _)) (pss_one (ps_expr (pe_g G_l_put (hr.mono (by decide)) rfl pass0 (pa_cons (pv 0) (pa_cons (pe_ix ix_list (pv 2) pe_int (fun _ _ => rfl)) (pa_cons (pe_bm0 PySem.F.plainAttrs_list PySem.F.slot_list_pop PySem.F.type_list_pop mt_pop (pv 4)) pa_nil)))))) pss_nil)
  (pss_cons (ps_expr (pe_g G_l_put (hr.mono (by decide)) rfl pass0 (pa_cons (pv 0) (pa_cons (pv 4) (pa_cons (pv 3) pa_nil)))))
  (pss_one (ps_asg (pe_op op_add (pe_ix ix_list (pe_ix ix_list (pv 2) pe_int (fun _ _ => rfl)) pe_int (fun _ _ => rfl)) pe_int) (pg_sub (pe_ix ix_list (pv 2) pe_int (fun _ _ => rfl)) pe_int set_list))))))))), p_l_come h⟩
theorem sc_l_go : FnScope ["_law_many", "_law_state", "_law_line_here"] ["_law_many", "_law_state", "_law_line_here"] (defScope s_l_go) := ⟨rfl, rfl, rfl, by decide +kernel, rfl, by decide +kernel, by decide +kernel⟩
theorem g_l_go {P : Program} {w : World} {K : PySem.W.Frag} {mg : Str → Option Value} {base : Heap} {T : List (Addr × Str)} (B : Bi mg) (D : Df K mg "_law_go" s_l_go)  : Gd P w K mg base CX0 1 "_law_go" ["_law_many", "_law_state", "_law_line_here"] (sp_l_go K T) :=
  D.ok0 sc_l_go len_l_go (fun _ _ _ _ _ _ us hl => match us, hl with | [_, _, _], _ => rfl) fun f cdv A outer s H vs Q E hr h => ⟨r_l_go K T,
  (Evl.pss_cut (ps_if (pt_cmpR op_in_seq (pv 2) (pe_ix ix_list (pv 1) pe_int (fun _ _ => rfl)) rfl) (pss_one (ps_expr (pe_bm PySem.F.plainAttrs_list PySem.F.slot_list_remove PySem.F.type_list_remove mt_remove (pe_ix ix_list (pv 1) pe_int (fun _ _ => rfl)) (pa_cons (pv 2) pa_nil)))) (pss_one (ps_expr (pe_bm PySem.F.plainAttrs_list PySem.F.slot_list_remove PySem.F.type_list_remove mt_remove (pe_ix ix_list (pv 1) pe_int (fun _ _ => rfl)) (pa_cons (pv 2) pa_nil)))))
  (pss_one (ps_if (PW.pt (pw_and (pt_cmpR (op_eqD hr.units) (pe_ix ix_list (pv 1) pe_int (fun _ _ => rfl)) (pe_lst pa_nil) (nomark _)) (pw_and1 (pt_cmpR (op_neD hr.units) (pe_ix ix_list (pv 1) pe_int (fun _ _ => rfl)) (pe_lst pa_nil) (nomark _))))) (pss_cons (ps_asg (pe_slice sl_list (pe_ix ix_list (pv 1) pe_int (fun _ _ => rfl)) po_none (po_some (pv 0))) (pg_sub (pv 1) pe_int set_list))
  (pss_cons (ps_asg (pe_slice sl_list (pe_ix ix_list (pv 1) pe_int (fun _ _ => rfl)) (po_some (pv 0)) po_none) (pg_sub (pv 1) pe_int set_list))
  (pss_cons (ps_asg (pe_op op_add (pe_ix ix_list (pe_ix ix_list (pv 1) pe_int (fun _ _ => rfl)) pe_int (fun _ _ => rfl)) (pe_callB call_len_seq rfl B.len boot_len (pa_cons (pe_ix ix_list (pv 1) pe_int (fun _ _ => rfl)) pa_nil))) (pg_sub (pe_ix ix_list (pv 1) pe_int (fun _ _ => rfl)) pe_int set_list))
  (pss_one (ps_asg (pe_op op_add (pe_ix ix_list (pe_ix ix_list (pv 1) pe_int (fun _ _ => rfl)) pe_int (fun _ _ => rfl)) pe_int) (pg_sub (pe_ix ix_list (pv 1) pe_int (fun _ _ => rfl)) pe_int set_list)))))) pss_nil))), p_l_go h⟩
theorem sc_l_list : FnScope ["_law_found", "_law_due", "_law_k"] ["_law_found", "_law_due"] (defScope s_l_list) := ⟨rfl, rfl, rfl, by decide +kernel, rfl, by decide +kernel, by decide +kernel⟩
theorem g_l_list {P : Program} {w : World} {K : PySem.W.Frag} {mg : Str → Option Value} {base : Heap} {T : List (Addr × Str)} (B : Bi mg) (D : Df K mg "_law_list" s_l_list) (G_l_whole : Gd P w K mg base CX0 1 "_law_whole" ["_law_found"] (sp_l_whole K T)) : Gd P w K mg base CX0 2 "_law_list" ["_law_found", "_law_due"] (sp_l_list K T) :=
  D.ok0 sc_l_list len_l_list (fun _ _ _ _ _ _ us hl => match us, hl with | [_, _], _ => rfl) fun f cdv A outer s H vs Q E hr h => ⟨r_l_list K T,
  (pss_cons (ps_if (PW.pt (pw_or (pt_not (pt_val (pe_callB call_is rfl B.isinstance (by decide +kernel) (pa_cons (pv 0) (pa_cons (pe_bltn (v := .ty "list") rfl B.list (by decide +kernel) rfl) pa_nil))))) (pw_or1 (pt_cmpR op_ne (pe_callB call_len_seq rfl B.len boot_len (pa_cons (pv 0) pa_nil)) (pe_callB call_len_seq rfl B.len boot_len (pa_cons (pv 1) pa_nil)) (nomark _))))) (pss_one (ps_ret pe_bl)) pss_nil)
  (pss_cons (ps_for PassesOwn.never rfl (pi_range1 rfl B.range (pa_cons (pe_callB call_len_seq rfl B.len boot_len (pa_cons (pv 1) pa_nil)) pa_nil)) (pg_name (i := 2) sc_l_list.nd rfl (Or.inl rfl)) (pss_one (ps_if (PW.pt (pw_or (pt_not (pt_val (pe_g G_l_whole (hr.mono (by decide)) rfl pass0 (pa_cons (pe_ix ix_list (pv 0) (pv 2) (fun _ _ => rfl)) pa_nil)))) (pw_or1 (pt_cmpR op_ne (pe_ix ix_list (pv 0) (pv 2) (fun _ _ => rfl)) (pe_ix ix_list (pv 1) (pv 2) (fun _ _ => rfl)) (nomark _))))) (pss_one (ps_ret pe_bl)) pss_nil)))
  (pss_one (ps_ret pe_bl)))), p_l_list h⟩
theorem sc_l_shows : FnScope ["_law_pegs", "_law_state", "_law_held", "_law_found", "_law_first", "_law_three"] ["_law_pegs", "_law_state", "_law_held"] (defScope s_l_shows) := ⟨rfl, rfl, rfl, by decide +kernel, rfl, by decide +kernel, by decide +kernel⟩
theorem g_l_shows {P : Program} {w : World} {K : PySem.W.Frag} {mg : Str → Option Value} {base : Heap} {T : List (Addr × Str)} (B : Bi mg) (D : Df K mg "_law_shows" s_l_shows) (G_Pegs_first : Gm P w K mg base CX0 1 "Pegs" "first" ["self"] [] (sp_Pegs_first K T)) (G_Pegs_on_pegs : Gm P w K mg base CX0 1 "Pegs" "on_pegs" ["self"] [] (sp_Pegs_on_pegs K T)) (G_Pegs_tallies : Gm P w K mg base CX0 1 "Pegs" "tallies" ["self"] [] (sp_Pegs_tallies K T)) (G_Pegs_waiting : Gm P w K mg base CX0 2 "Pegs" "waiting" ["self"] [] (sp_Pegs_waiting K T)) (G_l_list : Gd P w K mg base CX0 2 "_law_list" ["_law_found", "_law_due"] (sp_l_list K T)) (G_l_whole : Gd P w K mg base CX0 1 "_law_whole" ["_law_found"] (sp_l_whole K T)) : Gd P w K mg base CX0 3 "_law_shows" ["_law_pegs", "_law_state", "_law_held"] (sp_l_shows K T) :=
  D.ok0 sc_l_shows len_l_shows (fun _ _ _ _ _ _ us hl => match us, hl with | [_, _, _], _ => rfl) fun f cdv A outer s H vs Q E hr h => ⟨r_l_shows K T,
  (pss_cons (ps_set (i := 3) sc_l_shows.nd rfl (Or.inl rfl) (pe_lst (pa_cons (pe_m0 G_Pegs_on_pegs (hr.mono (by decide)) pass0 (pv 0)) (pa_cons (pe_m0 G_Pegs_waiting (hr.mono (by decide)) pass0 (pv 0)) pa_nil))))
  (pss_cons (ps_set (i := 4) sc_l_shows.nd rfl (Or.inl rfl) (pe_m0 G_Pegs_first (hr.mono (by decide)) pass0 (pv 0)))
  (pss_cons (ps_set (i := 5) sc_l_shows.nd rfl (Or.inl rfl) (pe_m0 G_Pegs_tallies (hr.mono (by decide)) pass0 (pv 0)))
  (pss_cons (ps_if (PW.pt (pw_or (pt_not (pt_val (pe_g G_l_list (hr.mono (by decide)) rfl pass0 (pa_cons (pe_ix ix_list (pv 3) pe_int (fun _ _ => rfl)) (pa_cons (pe_ix ix_list (pv 1) pe_int (fun _ _ => rfl)) pa_nil))))) (pw_or1 (pt_not (pt_val (pe_g G_l_list (hr.mono (by decide)) rfl pass0 (pa_cons (pe_ix ix_list (pv 3) pe_int (fun _ _ => rfl)) (pa_cons (pe_ix ix_list (pv 1) pe_int (fun _ _ => rfl)) pa_nil)))))))) (pss_one (ps_ret pe_bl)) pss_nil)
  (pss_cons (ps_if (PW.pt (pw_or (pt_not (pt_val (pe_callB call_is rfl B.isinstance (by decide +kernel) (pa_cons (pv 5) (pa_cons (pe_bltn (v := .ty "tuple") rfl B.tuple (by decide +kernel) rfl) pa_nil))))) (pw_or1 (pt_not (pt_val (pe_g G_l_list (hr.mono (by decide)) rfl pass0 (pa_cons (pe_callTy call_list_of rfl B.list (by decide +kernel) (pa_cons (pv 5) pa_nil)) (pa_cons (pe_ix ix_list (pv 1) pe_int (fun _ _ => rfl)) pa_nil)))))))) (pss_one (ps_ret pe_bl)) pss_nil)
  (Evl.pss_cut (ps_if (pt_cmpR op_eq (pe_op op_mod (pe_callB call_len_seq rfl B.len boot_len (pa_cons (pv 2) pa_nil)) pe_int) pe_int (nomark _)) (pss_cons (ps_expr (pe_bm PySem.F.plainAttrs_list PySem.F.slot_list_append PySem.F.type_list_append mt_append (pe_ix ix_list (pv 3) pe_int (fun _ _ => rfl)) (pa_cons pe_int pa_nil)))
  (pss_one (ps_expr (pe_bm PySem.F.plainAttrs_list PySem.F.slot_list_insert PySem.F.type_list_insert mt_insert (pe_ix ix_list (pv 3) pe_int (fun _ _ => rfl)) (pa_cons pe_int (pa_cons pe_int pa_nil)))))) pss_nil)
  (pss_cons (ps_expr (pe_bm PySem.F.plainAttrs_list PySem.F.slot_list_append PySem.F.type_list_append mt_append (pv 2) (pa_cons (pv 3) pa_nil)))
  (pss_cons (ps_if (pt_cmpR (op_eqD hr.units) (pe_ix ix_list (pv 1) pe_int (fun _ _ => rfl)) (pe_lst pa_nil) (nomark _)) (pss_one (ps_ret (pe_cmpR op_isN (pv 4) pe_non (nomark _)))) pss_nil)
  (pss_one (ps_ret (pe_and (pe_g G_l_whole (hr.mono (by decide)) rfl pass0 (pa_cons (pv 4) pa_nil)) (pe_one (pe_cmpR op_eq (pv 4) (pe_ix ix_list (pe_ix ix_list (pv 1) pe_int (fun _ _ => rfl)) pe_int (fun _ _ => rfl)) (nomark _)))))))))))))), p_l_shows h⟩
theorem sc_l_refused : FnScope ["_law_ranks_here", "_law_cell", "_law_odd", "_law_kinds", "e"] ["_law_ranks_here", "_law_cell"] (defScope s_l_refused) := ⟨rfl, rfl, rfl, by decide +kernel, rfl, by decide +kernel, by decide +kernel⟩
theorem g_l_refused {P : Program} {w : World} {K : PySem.W.Frag} {mg : Str → Option Value} {base : Heap} {T : List (Addr × Str)} (B : Bi mg) (D : Df K mg "_law_refused" s_l_refused) (G_Pegs : Gk P w K mg base (L2.CX P w) 2 "Pegs" ["self", "ranks", "many", "lines"] [] (sp_Pegs_init K T)) (cg_BoardError : mg "BoardError" = some (.ref (He.ga K "BoardError"))) (cg_NoBar : mg "NoBar" = some (.ref (He.ga K "NoBar"))) (cg_NoBoard : mg "NoBoard" = some (.ref (He.ga K "NoBoard"))) (cg_NoDeed : mg "NoDeed" = some (.ref (He.ga K "NoDeed"))) (cg_NoLine : mg "NoLine" = some (.ref (He.ga K "NoLine"))) (cg_NoPegs : mg "NoPegs" = some (.ref (He.ga K "NoPegs"))) (cg_NoPicture : mg "NoPicture" = some (.ref (He.ga K "NoPicture"))) (cg_NotTop : mg "NotTop" = some (.ref (He.ga K "NotTop"))) : Gd P w K mg base CX0 4 "_law_refused" ["_law_ranks_here", "_law_cell"] (sp_l_refused K T) :=
  D.ok0 sc_l_refused len_l_refused (fun _ _ _ _ _ _ us hl => match us, hl with | [_, _], _ => rfl) fun f cdv A outer s H vs Q E hr h => ⟨r_l_refused K T,
  (pss_cons (ps_set (i := 2) sc_l_refused.nd rfl (Or.inl rfl) (pe_ix ix_list (pe_lst (pa_cons pe_int (pa_cons pe_int (pa_cons (pe_un un_neg pe_int) (pa_cons pe_bl (pa_cons pe_bl (pa_cons pe_non (pa_cons pe_str (pa_cons (pe_lst (pa_cons pe_int pa_nil)) (pa_cons (pe_tup (pa_cons pe_int pa_nil)) (pa_cons (pe_op op_add pe_int (pe_op op_mod (pe_op op_fdivW (pv 1) pe_int) (pe_op op_pow pe_int pe_int))) pa_nil))))))))))) (pe_op op_mod (pv 1) pe_int) (fun _ _ => rfl)))
  (pss_cons (ps_set (i := 3) sc_l_refused.nd rfl (Or.inl rfl) (pe_lst pa_nil))
  (pss_cons (ps_tryAs (i := 4) rfl rfl sc_l_refused.nd rfl rfl ⟨rfl, by decide, .inl cg_BoardError⟩ (fun W pn xe tk _ => (pss_one (ps_expr (pe_kS G_Pegs (hr.mono (by decide)) rfl (fun σ => passAt tk σ) (pa_cons (pv 0) (pa_cons (pv 2) (pa_cons (pe_lst (pa_cons pe_int pa_nil)) pa_nil))))))) (fun a oe cls d pn hz hf => pss_ex (p := fun D : Addr => cls = .ref D ∧ d = none ∧ ExcC K D) (t := fun D => (tSeq (tAsg (tLst (tCons (tCB (rIsE K D a) (tCons (tVar 4) (tCons (tC (.ref (He.ga K "NoPegs"))) tNil))) (tCons (tCB (rIsE K D a) (tCons (tVar 4) (tCons (tC (.ty "ValueError")) tNil))) (tCons (tCB (rIsE K D a) (tCons (tVar 4) (tCons (tC (.ref (He.ga K "NoBoard"))) tNil))) (tCons (tCB (rIsE K D a) (tCons (tVar 4) (tCons (tC (.ref (He.ga K "NoPicture"))) tNil))) tNil))))) (gName 3))
  (tAsg (tOp rCat (tVar 3) (tLst (tCons (tCB (rIsE K D a) (tCons (tVar 4) (tCons (tC (.ref (He.ga K "NoLine"))) tNil))) (tCons (tCB (rIsE K D a) (tCons (tVar 4) (tCons (tC (.ref (He.ga K "NoBar"))) tNil))) (tCons (tCB (rIsE K D a) (tCons (tVar 4) (tCons (tC (.ref (He.ga K "NotTop"))) tNil))) (tCons (tCB (rIsE K D a) (tCons (tVar 4) (tCons (tC (.ref (He.ga K "NoDeed"))) tNil))) tNil)))))) (gName 3)))) (fun D hp => by obtain ⟨rfl, rfl, hC⟩ := hp; exact (pss_cons (ps_set (i := 3) sc_l_refused.nd rfl (Or.inl rfl) (pe_lst (pa_cons (pe_callB (call_isE hC hz hf) rfl B.isinstance (by decide +kernel) (pa_cons (pv 4) (pa_cons (pe_glob (v := .ref (He.ga K "NoPegs")) rfl cg_NoPegs rfl) pa_nil))) (pa_cons (pe_callB (call_isE hC hz hf) rfl B.isinstance (by decide +kernel) (pa_cons (pv 4) (pa_cons (pe_bltn (v := .ty "ValueError") rfl B.ve (by decide +kernel) rfl) pa_nil))) (pa_cons (pe_callB (call_isE hC hz hf) rfl B.isinstance (by decide +kernel) (pa_cons (pv 4) (pa_cons (pe_glob (v := .ref (He.ga K "NoBoard")) rfl cg_NoBoard rfl) pa_nil))) (pa_cons (pe_callB (call_isE hC hz hf) rfl B.isinstance (by decide +kernel) (pa_cons (pv 4) (pa_cons (pe_glob (v := .ref (He.ga K "NoPicture")) rfl cg_NoPicture rfl) pa_nil))) pa_nil))))))
  (pss_one (ps_set (i := 3) sc_l_refused.nd rfl (Or.inl rfl) (pe_op op_cat (pv 3) (pe_lst (pa_cons (pe_callB (call_isE hC hz hf) rfl B.isinstance (by decide +kernel) (pa_cons (pv 4) (pa_cons (pe_glob (v := .ref (He.ga K "NoLine")) rfl cg_NoLine rfl) pa_nil))) (pa_cons (pe_callB (call_isE hC hz hf) rfl B.isinstance (by decide +kernel) (pa_cons (pv 4) (pa_cons (pe_glob (v := .ref (He.ga K "NoBar")) rfl cg_NoBar rfl) pa_nil))) (pa_cons (pe_callB (call_isE hC hz hf) rfl B.isinstance (by decide +kernel) (pa_cons (pv 4) (pa_cons (pe_glob (v := .ref (He.ga K "NotTop")) rfl cg_NotTop rfl) pa_nil))) (pa_cons (pe_callB (call_isE hC hz hf) rfl B.isinstance (by decide +kernel) (pa_cons (pv 4) (pa_cons (pe_glob (v := .ref (He.ga K "NoDeed")) rfl cg_NoDeed rfl) pa_nil))) pa_nil))))))))))))
  (pss_one (ps_ret (pe_cmpR (op_eqD hr.units) (pv 3) (pe_lst (pa_cons pe_bl (pa_cons pe_bl (pa_cons pe_bl (pa_cons pe_bl (pa_cons pe_bl (pa_cons pe_bl (pa_cons pe_bl (pa_cons pe_bl pa_nil))))))))) (nomark _))))))), p_l_refused h⟩
theorem sc_l_line : FnScope ["_law_cell", "_law_many", "_law_hung", "_law_number"] ["_law_cell", "_law_many", "_law_hung"] (defScope s_l_line) := ⟨rfl, rfl, rfl, by decide +kernel, rfl, by decide +kernel, by decide +kernel⟩
theorem g_l_line {P : Program} {w : World} {K : PySem.W.Frag} {mg : Str → Option Value} {base : Heap} {T : List (Addr × Str)} (B : Bi mg) (D : Df K mg "_law_line" s_l_line)  : Gd P w K mg base CX0 1 "_law_line" ["_law_cell", "_law_many", "_law_hung"] (sp_l_line K T) :=
  D.ok0 sc_l_line len_l_line (fun _ _ _ _ _ _ us hl => match us, hl with | [_, _, _], _ => rfl) fun f cdv A outer s H vs Q E hr h => ⟨r_l_line K T,
  (pss_cons (ps_if (PW.pt (pw_and (pt_cmpR op_lt (pe_op op_mod (pv 0) pe_int) pe_int (nomark _)) (pw_and1 (pt_cmpR (op_neD hr.units) (pv 2) (pe_lst pa_nil) (nomark _))))) (pss_one (ps_ret (pe_ix ix_list (pv 2) (pe_op op_mod (pe_op op_fdivW (pv 0) pe_int) (pe_callB call_len_seq rfl B.len boot_len (pa_cons (pv 2) pa_nil))) (fun _ _ => rfl)))) pss_nil)
  (pss_cons (ps_set (i := 3) sc_l_line.nd rfl (Or.inl rfl) (pe_op op_mod (pe_op op_mul (pe_op op_add (pe_op op_mod (pe_op op_fdivW (pv 0) pe_int) pe_int) pe_int) pe_int) pe_int))
  (pss_one (ps_ret (pe_op op_mod (pe_op op_mod (pe_op op_mul (pv 3) (pv 3)) pe_int) (pv 1)))))), p_l_line h⟩
theorem sc_law : FnScope ["_law_script", "_law_size", "_law_ranks_here", "_law_many", "_law_lines", "_law_handed", "_law_pegs", "_law_state", "_law_held", "_law_kept", "_law_cell", "_law_line_here", "_law_told", "_law_one", "_law_other"] ["_law_script"] (defScope s_law) := ⟨rfl, rfl, rfl, by decide +kernel, rfl, by decide +kernel, by decide +kernel⟩
theorem w_law {P : Program} {w : World} {K : PySem.W.Frag} {mg : Str → Option Value} {base : Heap} {T : List (Addr × Str)} (B : Bi mg) (G_Pegs : Gk P w K mg base (L2.CX P w) 2 "Pegs" ["self", "ranks", "many", "lines"] [] (sp_Pegs_init K T)) (G_Pegs_come : Gm P w K mg base CX0 3 "Pegs" "come" ["self", "line"] [] (sp_Pegs_come K T)) (G_Pegs_go : Gm P w K mg base CX0 3 "Pegs" "go" ["self", "line"] [] (sp_Pegs_go K T)) (G_l_cell_at : Gd P w K mg base CX0 1 "_law_cell_at" ["_law_script", "_law_k"] (sp_l_cell_at K T)) (G_l_come : Gd P w K mg base CX0 3 "_law_come" ["_law_ranks_here", "_law_many", "_law_state", "_law_line_here"] (sp_l_come K T)) (G_l_go : Gd P w K mg base CX0 1 "_law_go" ["_law_many", "_law_state", "_law_line_here"] (sp_l_go K T)) (G_l_line : Gd P w K mg base CX0 1 "_law_line" ["_law_cell", "_law_many", "_law_hung"] (sp_l_line K T)) (G_l_made : Gd P w K mg base CX0 3 "_law_made" ["_law_ranks_here", "_law_many", "_law_lines"] (sp_l_made K T)) (G_l_ranks : Gd P w K mg base CX0 1 "_law_ranks" ["_law_cell", "_law_many"] (sp_l_ranks K T)) (G_l_refused : Gd P w K mg base CX0 4 "_law_refused" ["_law_ranks_here", "_law_cell"] (sp_l_refused K T)) (G_l_shows : Gd P w K mg base CX0 3 "_law_shows" ["_law_pegs", "_law_state", "_law_held"] (sp_l_shows K T)) (G_l_some : Gd P w K mg base CX0 1 "_law_some" ["_law_cell", "_law_many"] (sp_l_some K T)) : ∀ (f : Addr) (cdv : Value) (A : Around) (outer : List Env) (s : Shared) (H : Hp) (vs : List V) (Q : VK) (E : XK), Room 4 (A.deeper (envOfC "law" (defScope s_law) s.heap.objs.size f cdv)) → sp_law K T vs H Q E →
    ∃ t, PSs (cxOf CX0 P w K mg base ["_law_script", "_law_size", "_law_ranks_here", "_law_many", "_law_lines", "_law_handed", "_law_pegs", "_law_state", "_law_held", "_law_kept", "_law_cell", "_law_line_here", "_law_told", "_law_one", "_law_other"] "law" (defScope s_law) f cdv A outer s H E).nox (defBody s_law) t ∧ t { nx := fun _ H' => Q .non H', rt := Q } (start ["_law_script", "_law_size", "_law_ranks_here", "_law_many", "_law_lines", "_law_handed", "_law_pegs", "_law_state", "_law_held", "_law_kept", "_law_cell", "_law_line_here", "_law_told", "_law_one", "_law_other"] vs) H := fun f cdv A outer s H vs Q E hr h => ⟨r_law K T,
  (pss_cons (ps_set (i := 1) sc_law.nd rfl (Or.inl rfl) (pe_op op_mod (pe_op op_fdivW (pe_g G_l_cell_at (hr.mono (by decide)) rfl pass0 (pa_cons (pv 0) (pa_cons pe_int pa_nil))) pe_int) pe_int))
  (pss_cons (ps_set (i := 1) sc_law.nd rfl (Or.inl rfl) (pe_op op_add (pv 1) pe_int))
  (Evl.pss_cut (ps_if (pt_cmpR op_gt (pv 1) pe_int (nomark _)) (pss_one (ps_set (i := 1) sc_law.nd rfl (Or.inl rfl) (pe_op op_add pe_int (pe_op op_mod (pe_op op_fdivW (pe_g G_l_cell_at (hr.mono (by decide)) rfl pass0 (pa_cons (pv 0) (pa_cons pe_int pa_nil))) pe_int) pe_int)))) pss_nil)
  (pss_cons (ps_set (i := 2) sc_law.nd rfl (Or.inl rfl) (pe_g G_l_ranks (hr.mono (by decide)) rfl pass0 (pa_cons (pe_g G_l_cell_at (hr.mono (by decide)) rfl pass0 (pa_cons (pv 0) (pa_cons pe_int pa_nil))) (pa_cons (pv 1) pa_nil))))
  (pss_cons (ps_set (i := 3) sc_law.nd rfl (Or.inl rfl) (pe_op op_add pe_int (pe_op op_mod (pe_g G_l_cell_at (hr.mono (by decide)) rfl pass0 (pa_cons (pv 0) (pa_cons pe_int pa_nil))) pe_int)))
  (Evl.pss_cut (ps_if (pt_cmpR op_eq (pe_op op_mod (pe_op op_fdivW (pe_g G_l_cell_at (hr.mono (by decide)) rfl pass0 (pa_cons (pv 0) (pa_cons pe_int pa_nil))) pe_int) pe_int) pe_int (nomark _)) (pss_one (ps_set (i := 3) sc_law.nd rfl (Or.inl rfl) (pe_op op_add pe_int (pe_op op_mod (pe_op op_fdivW (pe_g G_l_cell_at (hr.mono (by decide)) rfl pass0 (pa_cons (pv 0) (pa_cons pe_int pa_nil))) pe_int) pe_int)))) pss_nil)
  (pss_cons (ps_set (i := 4) sc_law.nd rfl (Or.inl rfl) (pe_g G_l_some (hr.mono (by decide)) rfl pass0 (pa_cons (pe_g G_l_cell_at (hr.mono (by decide)) rfl pass0 (pa_cons (pv 0) (pa_cons pe_int pa_nil))) (pa_cons (pv 1) pa_nil))))
  (pss_cons (ps_set (i := 5) sc_law.nd rfl (Or.inl rfl) (pe_lst (pa_cons (pe_callTy call_list_of rfl B.list (by decide +kernel) (pa_cons (pv 2) pa_nil)) (pa_cons (pe_callTy call_list_of rfl B.list (by decide +kernel) (pa_cons (pv 4) pa_nil)) pa_nil))))
  (pss_cons (ps_set (i := 6) sc_law.nd rfl (Or.inl rfl) (pe_k G_Pegs (hr.mono (by decide)) rfl (passN fun _ _ _ h => h) (pa_cons (pe_ix ix_list (pv 5) pe_int (fun _ _ => rfl)) (pa_cons (pv 3) (pa_cons (pe_ix ix_list (pv 5) pe_int (fun _ _ => rfl)) pa_nil)))))
  (pss_cons (ps_if (PW.pt (pw_or (pt_cmpR (op_neD hr.units) (pv 5) (pe_lst (pa_cons (pv 2) (pa_cons (pv 4) pa_nil))) (nomark _)) (pw_or1 (pt_not (pt_val (pe_g G_l_refused (hr.mono (by decide)) rfl pass0 (pa_cons (pv 2) (pa_cons (pe_g G_l_cell_at (hr.mono (by decide)) rfl pass0 (pa_cons (pv 0) (pa_cons pe_int pa_nil))) pa_nil)))))))) (pss_one (ps_ret pe_bl)) pss_nil)
  (pss_cons (ps_expr (pe_bm0 PySem.F.plainAttrs_list PySem.F.slot_list_clear PySem.F.type_list_clear mt_clear (pe_ix ix_list (pv 5) pe_int (fun _ _ => rfl))))
  (pss_cons (ps_expr (pe_bm PySem.F.plainAttrs_list PySem.F.slot_list_append PySem.F.type_list_append mt_append (pe_ix ix_list (pv 5) pe_int (fun _ _ => rfl)) (pa_cons (pe_op op_sub (pv 1) pe_int) pa_nil)))
  (pss_cons (ps_set (i := 7) sc_law.nd rfl (Or.inl rfl) (pe_g G_l_made (hr.mono (by decide)) rfl pass0 (pa_cons (pv 2) (pa_cons (pv 3) (pa_cons (pv 4) pa_nil)))))
  (pss_cons (ps_set (i := 8) sc_law.nd rfl (Or.inl rfl) (pe_lst pa_nil))
  (pss_cons (ps_if (pt_not (pt_val (pe_g G_l_shows (hr.mono (by decide)) rfl pass0 (pa_cons (pv 6) (pa_cons (pv 7) (pa_cons (pv 8) pa_nil)))))) (pss_one (ps_ret pe_bl)) pss_nil)
  (pss_cons (ps_setLc (i := 9) (own := [("_law_one", 13), ("_law_other", 14)]) rfl sc_law.nd rfl rfl (sw_true rfl rfl rfl (by decide +kernel)) (pi_list (pv 8)) (blkOk_by (own := [("_law_one", 13), ("_law_other", 14)]) (N := ["_law_script", "_law_size", "_law_ranks_here", "_law_many", "_law_lines", "_law_handed", "_law_pegs", "_law_state", "_law_held", "_law_kept", "_law_cell", "_law_line_here", "_law_told", "_law_one", "_law_other"]) (sc := defScope s_law) (by decide +kernel)) (fun _ _ _ _ _ => (pg_unl rfl (pgs_cons (pg_name (i := 13) sc_law.nd rfl (Or.inl rfl)) (pgs_cons (pg_name (i := 14) sc_law.nd rfl (Or.inl rfl)) pgs_nil)))) (fun _ _ _ _ _ => pts_nil) (fun _ _ _ _ _ => (pe_lst (pa_cons (pe_callTy call_list_of rfl B.list (by decide +kernel) (pa_cons (pv 13) pa_nil)) (pa_cons (pe_callTy call_list_of rfl B.list (by decide +kernel) (pa_cons (pv 14) pa_nil)) pa_nil)))))
  (pss_cons (ps_for PassesOwn.never rfl (pi_list (pe_slice sl_list (pv 0) (po_some pe_int) (po_some pe_int))) (pg_name (i := 10) sc_law.nd rfl (Or.inl rfl)) (pss_cons (ps_set (i := 11) sc_law.nd rfl (Or.inl rfl) (pe_g G_l_line (hr.mono (by decide)) rfl pass0 (pa_cons (pv 10) (pa_cons (pv 1) (pa_cons (pe_ix ix_list (pv 7) pe_int (fun _ _ => rfl)) pa_nil)))))
  (Evl.pss_cut (ps_if (PW.pt (pw_or (pt_cmpR op_in_seq (pv 11) (pe_ix ix_list (pv 7) pe_int (fun _ _ => rfl)) rfl) (pw_or1 (pt_cmpR op_in_seq (pv 11) (pe_ix ix_list (pv 7) pe_int (fun _ _ => rfl)) rfl)))) (pss_cons (ps_expr (pe_g G_l_go (hr.mono (by decide)) rfl pass0 (pa_cons (pv 3) (pa_cons (pv 7) (pa_cons (pv 11) pa_nil)))))
  (pss_one (ps_set (i := 12) sc_law.nd rfl (Or.inl rfl) (pe_m G_Pegs_go (hr.mono (by decide)) pass0 (pv 6) (pa_cons (pv 11) pa_nil))))) (pss_cons (ps_expr (pe_g G_l_come (hr.mono (by decide)) rfl pass0 (pa_cons (pv 2) (pa_cons (pv 3) (pa_cons (pv 7) (pa_cons (pv 11) pa_nil))))))
  (pss_one (ps_set (i := 12) sc_law.nd rfl (Or.inl rfl) (pe_m G_Pegs_come (hr.mono (by decide)) pass0 (pv 6) (pa_cons (pv 11) pa_nil))))))
  (pss_cons (ps_if (PW.pt (pw_or (pt_cmpR op_notN (pv 12) pe_non (nomark _)) (pw_or1 (pt_not (pt_val (pe_g G_l_shows (hr.mono (by decide)) rfl pass0 (pa_cons (pv 6) (pa_cons (pv 7) (pa_cons (pv 8) pa_nil))))))))) (pss_one (ps_ret pe_bl)) pss_nil)
  (pss_one (ps_expr (pe_bm PySem.F.plainAttrs_list PySem.F.slot_list_append PySem.F.type_list_append mt_append (pv 9) (pa_cons (pe_lst (pa_cons (pe_callTy call_list_of rfl B.list (by decide +kernel) (pa_cons (pe_ix ix_list (pe_ix ix_list (pv 8) (pe_un un_neg pe_int) (fun _ _ => rfl)) pe_int (fun _ _ => rfl)) pa_nil)) (pa_cons (pe_callTy call_list_of rfl B.list (by decide +kernel) (pa_cons (pe_ix ix_list (pe_ix ix_list (pv 8) (pe_un un_neg pe_int) (fun _ _ => rfl)) pe_int (fun _ _ => rfl)) pa_nil)) pa_nil))) pa_nil))))))))
  (pss_one (ps_ret (pe_cmpR (op_eqD hr.units) (pv 8) (pv 9) (nomark _))))))))))))))))))))), p_law h⟩
end Fp

namespace Fp
open PySem PySem.Spec PyProof.Rows L2 LamX
def mkD (x : Str) (s : Stmt) : He.DefD := ⟨(x, none), x, x, defArgs s, defBody s, defScope s, [], []⟩
def mkM (c m q : Str) (s : Stmt) (dv : List He.Dv) : He.DefD := ⟨(c, some m), m, q, defArgs s, defBody s, defScope s, dv, []⟩
def names0 : List Str := ["BoardError", "NoLine", "NoBoard", "NoPegs", "NoPicture", "NoBar", "NotTop", "NoDeed", "is_whole", "before", "in_order", "MOST", "Pegs", "_law_cell_at", "_law_whole", "_law_ranks", "_law_comes", "_law_put", "_law_some", "_law_made", "_law_come", "_law_go", "_law_list", "_law_shows", "_law_refused", "_law_line"]
def names : List Str := names0
def fn0 : List He.DefD := [mkD "is_whole" s_is_whole, mkD "before" s_before, mkD "in_order" s_in_order, mkD "_law_cell_at" s_l_cell_at, mkD "_law_whole" s_l_whole, mkD "_law_ranks" s_l_ranks, mkD "_law_comes" s_l_comes, mkD "_law_put" s_l_put, mkD "_law_some" s_l_some, mkD "_law_made" s_l_made, mkD "_law_come" s_l_come, mkD "_law_go" s_l_go, mkD "_law_list" s_l_list, mkD "_law_shows" s_l_shows, mkD "_law_refused" s_l_refused, mkD "_law_line" s_l_line, mkD "law" s_law, mkM "NotTop" "__init__" "NotTop.__init__" s_NotTop_init [], mkM "NoDeed" "__init__" "NoDeed.__init__" s_NoDeed_init [], mkM "Pegs" "__init__" "Pegs.__init__" s_Pegs_init []]
def fn1 : List He.DefD := [mkM "Pegs" "is_pressing" "Pegs.is_pressing" s_Pegs_is_pressing [], mkM "Pegs" "come" "Pegs.come" s_Pegs_come [], mkM "Pegs" "go" "Pegs.go" s_Pegs_go [], mkM "Pegs" "call_keeper" "Pegs.call_keeper" s_Pegs_call_keeper [], mkM "Pegs" "on_pegs" "Pegs.on_pegs" s_Pegs_on_pegs [], mkM "Pegs" "waiting" "Pegs.waiting" s_Pegs_waiting [], mkM "Pegs" "first" "Pegs.first" s_Pegs_first [], mkM "Pegs" "tallies" "Pegs.tallies" s_Pegs_tallies []]
def fn : List He.DefD := fn0 ++ fn1
def fa0 : List He.Fa := [.glo "is_whole", .glo "before", .glo "in_order", .glo "_law_cell_at", .glo "_law_whole", .glo "_law_ranks", .glo "_law_comes", .glo "_law_put", .glo "_law_some", .glo "_law_made", .glo "_law_come", .glo "_law_go", .glo "_law_list", .glo "_law_shows", .glo "_law_refused", .glo "_law_line", .glo "law", .glo "BoardError", .glo "NoLine", .glo "NoBoard", .glo "NoPegs", .glo "NoPicture", .glo "NoBar", .glo "NotTop", .glo "NoDeed", .glo "Pegs", .free "len", .free "isinstance", .free "sorted", .free "range"]
def fa1 : List He.Fa := [.free "list", .free "int", .free "bool", .free "all", .free "zip", .free "tuple", .free "str", .free "enumerate", .free "min", .free "ValueError", .exc "NoLine", .exc "NoBoard", .exc "NoPegs", .exc "NoPicture", .exc "NoBar", .cls "Pegs", .mkr "Pegs", .meth "Pegs" "__init__", .meth "Pegs" "is_pressing", .meth "Pegs" "come", .meth "Pegs" "go", .meth "Pegs" "call_keeper", .meth "Pegs" "on_pegs", .meth "Pegs" "waiting", .meth "Pegs" "first", .meth "Pegs" "tallies", .noat "Pegs" "ranks", .noat "Pegs" "many", .noat "Pegs" "hung", .noat "Pegs" "book"]
def fa2 : List He.Fa := [.noat "Pegs" "came", .noat "Pegs" "laid", .noat "Pegs" "calls", .int "MOST" 16]
def fa : List He.Fa := fa0 ++ fa1 ++ fa2
def tf : List He.Defn := [("in_order", none)]
def ex (K : PySem.W.Frag) : Bool := xkB K "NoPegs"
section
variable {K : PySem.W.Frag} {h : Heap} {mg : Str → Option Value}
theorem bi_ok (c : He.SaysD fa fn K) (X : K.In h) (G : h.Ns mainGlobals mg) : Bi mg := ⟨He.free_ok X G (c.fact 26 (f := .free "len")), He.free_ok X G (c.fact 27 (f := .free "isinstance")), He.free_ok X G (c.fact 28 (f := .free "sorted")), He.free_ok X G (c.fact 29 (f := .free "range")), He.free_ok X G (c.fact 30 (f := .free "list")), He.free_ok X G (c.fact 31 (f := .free "int")), He.free_ok X G (c.fact 32 (f := .free "bool")), He.free_ok X G (c.fact 33 (f := .free "all")), He.free_ok X G (c.fact 34 (f := .free "zip")), He.free_ok X G (c.fact 35 (f := .free "tuple")), He.free_ok X G (c.fact 36 (f := .free "str")), He.free_ok X G (c.fact 37 (f := .free "enumerate")), He.free_ok X G (c.fact 38 (f := .free "min")), He.free_ok X G (c.fact 39 (f := .free "ValueError"))⟩
theorem cg_BoardError (c : He.SaysD fa fn K) (X : K.In h) (G : h.Ns mainGlobals mg) : mg "BoardError" = some (.ref (He.ga K "BoardError")) := He.glo_ok X G (c.fact 17 (f := .glo "BoardError"))
theorem cg_NoLine (c : He.SaysD fa fn K) (X : K.In h) (G : h.Ns mainGlobals mg) : mg "NoLine" = some (.ref (He.ga K "NoLine")) := He.glo_ok X G (c.fact 18 (f := .glo "NoLine"))
theorem R_NoLine (c : He.SaysD fa fn K) (X : K.In h) (G : h.Ns mainGlobals mg) : Ee K mg "NoLine" := by
  obtain ⟨h1, h2, h3, h4⟩ := He.exc_ok (c.fact 40 (f := .exc "NoLine"))
  exact ⟨cg_NoLine c X G, h1, h2, h3, h4⟩
theorem cg_NoBoard (c : He.SaysD fa fn K) (X : K.In h) (G : h.Ns mainGlobals mg) : mg "NoBoard" = some (.ref (He.ga K "NoBoard")) := He.glo_ok X G (c.fact 19 (f := .glo "NoBoard"))
theorem R_NoBoard (c : He.SaysD fa fn K) (X : K.In h) (G : h.Ns mainGlobals mg) : Ee K mg "NoBoard" := by
  obtain ⟨h1, h2, h3, h4⟩ := He.exc_ok (c.fact 41 (f := .exc "NoBoard"))
  exact ⟨cg_NoBoard c X G, h1, h2, h3, h4⟩
theorem cg_NoPegs (c : He.SaysD fa fn K) (X : K.In h) (G : h.Ns mainGlobals mg) : mg "NoPegs" = some (.ref (He.ga K "NoPegs")) := He.glo_ok X G (c.fact 20 (f := .glo "NoPegs"))
theorem R_NoPegs (c : He.SaysD fa fn K) (X : K.In h) (G : h.Ns mainGlobals mg) : Ee K mg "NoPegs" := by
  obtain ⟨h1, h2, h3, h4⟩ := He.exc_ok (c.fact 42 (f := .exc "NoPegs"))
  exact ⟨cg_NoPegs c X G, h1, h2, h3, h4⟩
theorem cg_NoPicture (c : He.SaysD fa fn K) (X : K.In h) (G : h.Ns mainGlobals mg) : mg "NoPicture" = some (.ref (He.ga K "NoPicture")) := He.glo_ok X G (c.fact 21 (f := .glo "NoPicture"))
theorem R_NoPicture (c : He.SaysD fa fn K) (X : K.In h) (G : h.Ns mainGlobals mg) : Ee K mg "NoPicture" := by
  obtain ⟨h1, h2, h3, h4⟩ := He.exc_ok (c.fact 43 (f := .exc "NoPicture"))
  exact ⟨cg_NoPicture c X G, h1, h2, h3, h4⟩
theorem cg_NoBar (c : He.SaysD fa fn K) (X : K.In h) (G : h.Ns mainGlobals mg) : mg "NoBar" = some (.ref (He.ga K "NoBar")) := He.glo_ok X G (c.fact 22 (f := .glo "NoBar"))
theorem R_NoBar (c : He.SaysD fa fn K) (X : K.In h) (G : h.Ns mainGlobals mg) : Ee K mg "NoBar" := by
  obtain ⟨h1, h2, h3, h4⟩ := He.exc_ok (c.fact 44 (f := .exc "NoBar"))
  exact ⟨cg_NoBar c X G, h1, h2, h3, h4⟩
theorem cg_NotTop (c : He.SaysD fa fn K) (X : K.In h) (G : h.Ns mainGlobals mg) : mg "NotTop" = some (.ref (He.ga K "NotTop")) := He.glo_ok X G (c.fact 23 (f := .glo "NotTop"))
theorem cg_NoDeed (c : He.SaysD fa fn K) (X : K.In h) (G : h.Ns mainGlobals mg) : mg "NoDeed" = some (.ref (He.ga K "NoDeed")) := He.glo_ok X G (c.fact 24 (f := .glo "NoDeed"))
theorem cg_Pegs (c : He.SaysD fa fn K) (X : K.In h) (G : h.Ns mainGlobals mg) : mg "Pegs" = some (.ref (He.ga K "Pegs")) := He.glo_ok X G (c.fact 25 (f := .glo "Pegs"))
theorem d_Pegs_init (c : He.SaysD fa fn K) : Dm K "Pegs" "__init__" "Pegs.__init__" s_Pegs_init [] := ⟨He.cls_ok (c.fact 45 (f := .cls "Pegs")), He.meth_ok (c.fact 47 (f := .meth "Pegs" "__init__")), c.def_ 19 (d := mkM "Pegs" "__init__" "Pegs.__init__" s_Pegs_init [])⟩
theorem k_Pegs (c : He.SaysD fa fn K) (X : K.In h) (G : h.Ns mainGlobals mg) : Dk K mg "Pegs" "Pegs.__init__" s_Pegs_init [] := ⟨He.mkr_ok (c.fact 46 (f := .mkr "Pegs")), cg_Pegs c X G, d_Pegs_init c⟩
theorem d_Pegs_is_pressing (c : He.SaysD fa fn K) : Dm K "Pegs" "is_pressing" "Pegs.is_pressing" s_Pegs_is_pressing [] := ⟨He.cls_ok (c.fact 45 (f := .cls "Pegs")), He.meth_ok (c.fact 48 (f := .meth "Pegs" "is_pressing")), c.def_ 20 (d := mkM "Pegs" "is_pressing" "Pegs.is_pressing" s_Pegs_is_pressing [])⟩
theorem d_Pegs_come (c : He.SaysD fa fn K) : Dm K "Pegs" "come" "Pegs.come" s_Pegs_come [] := ⟨He.cls_ok (c.fact 45 (f := .cls "Pegs")), He.meth_ok (c.fact 49 (f := .meth "Pegs" "come")), c.def_ 21 (d := mkM "Pegs" "come" "Pegs.come" s_Pegs_come [])⟩
theorem d_Pegs_go (c : He.SaysD fa fn K) : Dm K "Pegs" "go" "Pegs.go" s_Pegs_go [] := ⟨He.cls_ok (c.fact 45 (f := .cls "Pegs")), He.meth_ok (c.fact 50 (f := .meth "Pegs" "go")), c.def_ 22 (d := mkM "Pegs" "go" "Pegs.go" s_Pegs_go [])⟩
theorem d_Pegs_call_keeper (c : He.SaysD fa fn K) : Dm K "Pegs" "call_keeper" "Pegs.call_keeper" s_Pegs_call_keeper [] := ⟨He.cls_ok (c.fact 45 (f := .cls "Pegs")), He.meth_ok (c.fact 51 (f := .meth "Pegs" "call_keeper")), c.def_ 23 (d := mkM "Pegs" "call_keeper" "Pegs.call_keeper" s_Pegs_call_keeper [])⟩
theorem d_Pegs_on_pegs (c : He.SaysD fa fn K) : Dm K "Pegs" "on_pegs" "Pegs.on_pegs" s_Pegs_on_pegs [] := ⟨He.cls_ok (c.fact 45 (f := .cls "Pegs")), He.meth_ok (c.fact 52 (f := .meth "Pegs" "on_pegs")), c.def_ 24 (d := mkM "Pegs" "on_pegs" "Pegs.on_pegs" s_Pegs_on_pegs [])⟩
theorem d_Pegs_waiting (c : He.SaysD fa fn K) : Dm K "Pegs" "waiting" "Pegs.waiting" s_Pegs_waiting [] := ⟨He.cls_ok (c.fact 45 (f := .cls "Pegs")), He.meth_ok (c.fact 53 (f := .meth "Pegs" "waiting")), c.def_ 25 (d := mkM "Pegs" "waiting" "Pegs.waiting" s_Pegs_waiting [])⟩
theorem d_Pegs_first (c : He.SaysD fa fn K) : Dm K "Pegs" "first" "Pegs.first" s_Pegs_first [] := ⟨He.cls_ok (c.fact 45 (f := .cls "Pegs")), He.meth_ok (c.fact 54 (f := .meth "Pegs" "first")), c.def_ 26 (d := mkM "Pegs" "first" "Pegs.first" s_Pegs_first [])⟩
theorem d_Pegs_tallies (c : He.SaysD fa fn K) : Dm K "Pegs" "tallies" "Pegs.tallies" s_Pegs_tallies [] := ⟨He.cls_ok (c.fact 45 (f := .cls "Pegs")), He.meth_ok (c.fact 55 (f := .meth "Pegs" "tallies")), c.def_ 27 (d := mkM "Pegs" "tallies" "Pegs.tallies" s_Pegs_tallies [])⟩
theorem pgc_ok (c : He.SaysD fa fn K) : PgC K := by
  refine ⟨He.cls_ok (c.fact 45 (f := .cls "Pegs")), fun f hf => ?_⟩
  simp only [List.mem_cons, List.not_mem_nil, or_false] at hf
  rcases hf with rfl | rfl | rfl | rfl | rfl | rfl | rfl
  · exact He.noat_ok (c.fact 56 (f := .noat "Pegs" "ranks"))
  · exact He.noat_ok (c.fact 57 (f := .noat "Pegs" "many"))
  · exact He.noat_ok (c.fact 58 (f := .noat "Pegs" "hung"))
  · exact He.noat_ok (c.fact 59 (f := .noat "Pegs" "book"))
  · exact He.noat_ok (c.fact 60 (f := .noat "Pegs" "came"))
  · exact He.noat_ok (c.fact 61 (f := .noat "Pegs" "laid"))
  · exact He.noat_ok (c.fact 62 (f := .noat "Pegs" "calls"))
theorem c_MOST (c : He.SaysD fa fn K) (X : K.In h) (G : h.Ns mainGlobals mg) : ∃ t, mg "MOST" = some (.int 16 t) := He.int_ok X G (c.fact 63 (f := .int "MOST" 16))
theorem d_is_whole (c : He.SaysD fa fn K) (X : K.In h) (G : h.Ns mainGlobals mg) : Df K mg "is_whole" s_is_whole := .of (c.def_ 0 (d := mkD "is_whole" s_is_whole)) (He.glo_ok X G (c.fact 0 (f := .glo "is_whole")))
theorem d_before (c : He.SaysD fa fn K) (X : K.In h) (G : h.Ns mainGlobals mg) : Df K mg "before" s_before := .of (c.def_ 1 (d := mkD "before" s_before)) (He.glo_ok X G (c.fact 1 (f := .glo "before")))
theorem d_in_order (c : He.SaysD fa fn K) (X : K.In h) (G : h.Ns mainGlobals mg) : Df K mg "in_order" s_in_order := .of (c.def_ 2 (d := mkD "in_order" s_in_order)) (He.glo_ok X G (c.fact 2 (f := .glo "in_order")))
theorem d_l_cell_at (c : He.SaysD fa fn K) (X : K.In h) (G : h.Ns mainGlobals mg) : Df K mg "_law_cell_at" s_l_cell_at := .of (c.def_ 3 (d := mkD "_law_cell_at" s_l_cell_at)) (He.glo_ok X G (c.fact 3 (f := .glo "_law_cell_at")))
theorem d_l_whole (c : He.SaysD fa fn K) (X : K.In h) (G : h.Ns mainGlobals mg) : Df K mg "_law_whole" s_l_whole := .of (c.def_ 4 (d := mkD "_law_whole" s_l_whole)) (He.glo_ok X G (c.fact 4 (f := .glo "_law_whole")))
theorem d_l_ranks (c : He.SaysD fa fn K) (X : K.In h) (G : h.Ns mainGlobals mg) : Df K mg "_law_ranks" s_l_ranks := .of (c.def_ 5 (d := mkD "_law_ranks" s_l_ranks)) (He.glo_ok X G (c.fact 5 (f := .glo "_law_ranks")))
theorem d_l_comes (c : He.SaysD fa fn K) (X : K.In h) (G : h.Ns mainGlobals mg) : Df K mg "_law_comes" s_l_comes := .of (c.def_ 6 (d := mkD "_law_comes" s_l_comes)) (He.glo_ok X G (c.fact 6 (f := .glo "_law_comes")))
theorem d_l_put (c : He.SaysD fa fn K) (X : K.In h) (G : h.Ns mainGlobals mg) : Df K mg "_law_put" s_l_put := .of (c.def_ 7 (d := mkD "_law_put" s_l_put)) (He.glo_ok X G (c.fact 7 (f := .glo "_law_put")))
theorem d_l_some (c : He.SaysD fa fn K) (X : K.In h) (G : h.Ns mainGlobals mg) : Df K mg "_law_some" s_l_some := .of (c.def_ 8 (d := mkD "_law_some" s_l_some)) (He.glo_ok X G (c.fact 8 (f := .glo "_law_some")))
theorem d_l_made (c : He.SaysD fa fn K) (X : K.In h) (G : h.Ns mainGlobals mg) : Df K mg "_law_made" s_l_made := .of (c.def_ 9 (d := mkD "_law_made" s_l_made)) (He.glo_ok X G (c.fact 9 (f := .glo "_law_made")))
theorem d_l_come (c : He.SaysD fa fn K) (X : K.In h) (G : h.Ns mainGlobals mg) : Df K mg "_law_come" s_l_come := .of (c.def_ 10 (d := mkD "_law_come" s_l_come)) (He.glo_ok X G (c.fact 10 (f := .glo "_law_come")))
theorem d_l_go (c : He.SaysD fa fn K) (X : K.In h) (G : h.Ns mainGlobals mg) : Df K mg "_law_go" s_l_go := .of (c.def_ 11 (d := mkD "_law_go" s_l_go)) (He.glo_ok X G (c.fact 11 (f := .glo "_law_go")))
theorem d_l_list (c : He.SaysD fa fn K) (X : K.In h) (G : h.Ns mainGlobals mg) : Df K mg "_law_list" s_l_list := .of (c.def_ 12 (d := mkD "_law_list" s_l_list)) (He.glo_ok X G (c.fact 12 (f := .glo "_law_list")))
theorem d_l_shows (c : He.SaysD fa fn K) (X : K.In h) (G : h.Ns mainGlobals mg) : Df K mg "_law_shows" s_l_shows := .of (c.def_ 13 (d := mkD "_law_shows" s_l_shows)) (He.glo_ok X G (c.fact 13 (f := .glo "_law_shows")))
theorem d_l_refused (c : He.SaysD fa fn K) (X : K.In h) (G : h.Ns mainGlobals mg) : Df K mg "_law_refused" s_l_refused := .of (c.def_ 14 (d := mkD "_law_refused" s_l_refused)) (He.glo_ok X G (c.fact 14 (f := .glo "_law_refused")))
theorem d_l_line (c : He.SaysD fa fn K) (X : K.In h) (G : h.Ns mainGlobals mg) : Df K mg "_law_line" s_l_line := .of (c.def_ 15 (d := mkD "_law_line" s_l_line)) (He.glo_ok X G (c.fact 15 (f := .glo "_law_line")))
theorem d_law (c : He.SaysD fa fn K) (X : K.In h) (G : h.Ns mainGlobals mg) : Df K mg "law" s_law := .of (c.def_ 16 (d := mkD "law" s_law)) (He.glo_ok X G (c.fact 16 (f := .glo "law")))
end
abbrev R : PySem.W.OpenRow := PySem.W.OpenLaw.row PySem.Challenge.rw_fewpegs_k02_pegs_come_and_go
abbrev hk : PySem.W.Hook := He.hookX 5 fa fn [] tf ex
def ob (s : PySem.W.SharedT) : He.AlX := He.obsX 5 fa fn [] tf ex (HandSHeadRun.getT s)
theorem ob_eq (s : PySem.W.SharedT) : ob s = hk.obs s.abs := He.obsX_eq (HandSHeadRun.getT_eq s)
theorem run (w : World) : HandSHeadRun.RunEq R (PySem.W.view R.prog [30]) hk ob 20000 names w := by
  intro os
  kernel_rfl
abbrev l0 : PySem.W.OpenLaw := PySem.Challenge.rw_fewpegs_k02_pegs_come_and_go
def tT (K : PySem.W.Frag) : List (Addr × Str) := [((He.cT K ("in_order", none)).2, ("in_order" : Str) ++ ".<locals>." ++ "<lambda>")]
theorem lawF (w : World) (mg : Str → Option Value) (fa : Addr) (h : Heap) (Y : hk.says w h) (G : h.Ns mainGlobals mg) (e : mg "law" = some (.ref fa)) : ∃ K : PySem.W.Frag, K.In h ∧ LawAtS l0 w K CX0 5 63 "_law_script" mg fa h := by
  obtain ⟨K, X, c⟩ := Y
  have cd := c.t.d
  have B := bi_ok cd X G
  refine ⟨K, X, law_at (cs := tf.map (He.cT K)) (sp := sp_law K (tT K)) (k := 4) (d_law cd X G) e (List.forall_mem_map.mpr c.empty) (List.forall_mem_map.mpr c.out) (List.forall_mem_map.mpr fun p hp => PySem.W.codeHd_of_K X (c.hd p hp)) sc_law len_law (fun _ _ _ _ _ _ us hl => match us, hl with | [_], _ => rfl) (fun H a ns hn hbits ht hs => ⟨a, ns, rfl, hs, fun p hp => ?_, pgc_ok cd, xkB_ok c.more, fun _ => rfl⟩) fun base hK Gb tb => ?_⟩
  · rw [List.mem_singleton.mp hp]
    exact TabS.nil (ht _ (List.mem_singleton.mpr rfl))
  ·
    have G_in_order := g_in_order (P := l0.prog) (w := w) (base := base) (T := tT K) B (d_in_order cd X G) (tb _ (List.mem_singleton.mpr rfl)) (List.mem_singleton.mpr rfl) (fun p hp _ => by rw [List.mem_singleton.mp hp])
    have G_is_whole := g_is_whole (P := l0.prog) (w := w) (base := base) (T := tT K) B (d_is_whole cd X G) 
    have G_Pegs := g_Pegs_init (P := l0.prog) (w := w) (base := base) (T := tT K) B (k_Pegs cd X G) (c_MOST cd X G) (R_NoPegs cd X G) G_in_order G_is_whole
    have G_before := g_before (P := l0.prog) (w := w) (base := base) (T := tT K) B (d_before cd X G) 
    have G_Pegs_is_pressing := g_Pegs_is_pressing (P := l0.prog) (w := w) (base := base) (T := tT K) B (d_Pegs_is_pressing cd) G_before
    have G_Pegs_come := g_Pegs_come (P := l0.prog) (w := w) (base := base) (T := tT K) B (d_Pegs_come cd) G_Pegs_is_pressing G_in_order
    have G_Pegs_call_keeper := g_Pegs_call_keeper (P := l0.prog) (w := w) (base := base) (T := tT K) B (d_Pegs_call_keeper cd) G_in_order
    have G_Pegs_go := g_Pegs_go (P := l0.prog) (w := w) (base := base) (T := tT K) B (d_Pegs_go cd) G_Pegs_call_keeper
    have G_l_cell_at := g_l_cell_at (P := l0.prog) (w := w) (base := base) (T := tT K) B (d_l_cell_at cd X G) 
    have G_l_comes := g_l_comes (P := l0.prog) (w := w) (base := base) (T := tT K) B (d_l_comes cd X G) 
    have G_l_put := g_l_put (P := l0.prog) (w := w) (base := base) (T := tT K) B (d_l_put cd X G) G_l_comes
    have G_l_come := g_l_come (P := l0.prog) (w := w) (base := base) (T := tT K) B (d_l_come cd X G) G_l_comes G_l_put
    have G_l_go := g_l_go (P := l0.prog) (w := w) (base := base) (T := tT K) B (d_l_go cd X G) 
    have G_l_line := g_l_line (P := l0.prog) (w := w) (base := base) (T := tT K) B (d_l_line cd X G) 
    have G_l_made := g_l_made (P := l0.prog) (w := w) (base := base) (T := tT K) B (d_l_made cd X G) G_l_put
    have G_l_ranks := g_l_ranks (P := l0.prog) (w := w) (base := base) (T := tT K) B (d_l_ranks cd X G) 
    have G_l_refused := g_l_refused (P := l0.prog) (w := w) (base := base) (T := tT K) B (d_l_refused cd X G) G_Pegs (cg_BoardError cd X G) (cg_NoBar cd X G) (cg_NoBoard cd X G) (cg_NoDeed cd X G) (cg_NoLine cd X G) (cg_NoPegs cd X G) (cg_NoPicture cd X G) (cg_NotTop cd X G)
    have G_Pegs_first := g_Pegs_first (P := l0.prog) (w := w) (base := base) (T := tT K) B (d_Pegs_first cd) 
    have G_Pegs_on_pegs := g_Pegs_on_pegs (P := l0.prog) (w := w) (base := base) (T := tT K) B (d_Pegs_on_pegs cd) 
    have G_Pegs_tallies := g_Pegs_tallies (P := l0.prog) (w := w) (base := base) (T := tT K) B (d_Pegs_tallies cd) 
    have G_Pegs_waiting := g_Pegs_waiting (P := l0.prog) (w := w) (base := base) (T := tT K) B (d_Pegs_waiting cd) G_in_order
    have G_l_whole := g_l_whole (P := l0.prog) (w := w) (base := base) (T := tT K) B (d_l_whole cd X G) 
    have G_l_list := g_l_list (P := l0.prog) (w := w) (base := base) (T := tT K) B (d_l_list cd X G) G_l_whole
    have G_l_shows := g_l_shows (P := l0.prog) (w := w) (base := base) (T := tT K) B (d_l_shows cd X G) G_Pegs_first G_Pegs_on_pegs G_Pegs_tallies G_Pegs_waiting G_l_list G_l_whole
    have G_l_some := g_l_some (P := l0.prog) (w := w) (base := base) (T := tT K) B (d_l_some cd X G) 
    exact w_law B G_Pegs G_Pegs_come G_Pegs_go G_l_cell_at G_l_come G_l_go G_l_line G_l_made G_l_ranks G_l_refused G_l_shows G_l_some
end Fp
open PySem PySem.W PySem.Calls PyProof.Rows
theorem PySem.Challenge.cw_fewpegs_k02_pegs_come_and_go_holds : PySem.Challenge.rw_fewpegs_k02_pegs_come_and_go.Holds := by
  w_on; o_law
  refine HandSHeadRun.head_any (r := OpenLaw.row PySem.Challenge.rw_fewpegs_k02_pegs_come_and_go) (q := view (OpenLaw.row PySem.Challenge.rw_fewpegs_k02_pegs_come_and_go).prog [30]) (H := Fp.hk) (ob := Fp.ob) (M := 20000) (loose := Fp.names) (d := HandSHeadRun.topDef (OpenLaw.row PySem.Challenge.rw_fewpegs_k02_pegs_come_and_go).prog 30) (kwd := []) Fp.ob_eq
    (by kernel_rfl) (fun s => by kernel_rfl) Fp.run (by kernel_rfl) (by kernel_rfl) (by kernel_rfl) (by rfl) (by first | assumption | decide +kernel) (by decide +kernel) ⟨rfl, rfl, rfl, rfl, rfl, by decide +kernel⟩ ?hw ?hc
  case hw => w_witness2
  case hc => exact LamX.walk_ofTsE (l := PySem.Challenge.rw_fewpegs_k02_pegs_come_and_go) (n := 63) (k := 5) (CX := fun _ => L2.CX0) (x := "_law_script") rfl (by decide) rfl ⟨rfl, by decide +kernel, by decide +kernel⟩ (fun w mg fa h Y G e => Fp.lawF w mg fa h Y G e) (fun _ _ _ _ _ h => h)

