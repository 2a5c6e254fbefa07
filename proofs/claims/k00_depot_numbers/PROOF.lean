import PyProof.Rows.All
import Wide.All
import OpenK.AllK
import Wide.FinOn
import HandS.ForMost
import HandS.HeadHook2
import HandS.TryOnly
import HandS.TupAny
import HandS.Wide
import HandS.IsInst
import HandS.SetFor
import HandS.SortInts
import HandS.More
import HandS.Iter
import HandS.Zip
import HandS.Rev
import HandS.Comp
import HandS.CallSlots
import HandS.Property
import HandS.ExcOwn
import HandS.ClsMeth
import HandS.HeadEnd
import HandS.HeadHook1
import HandS.Head0
import HandS.Head1
import HandS.Head2
import HandS.Codes
import PySem.Challenge.RW_everymorning_k00_depot_numbers
set_option Elab.async false
set_option linter.all false
set_option maxRecDepth 100000
set_option maxHeartbeats 0
/-! C1: plain data for Python values, and how they lie in the layer's abstract heap. -/
namespace Ev
open PySem PySem.Spec PyProof.Rows L2

/-- how a list node is held: shared for good; lent by a caller; owned by one name; a passing look at an owned one; the law's script -/
inductive Md where
  | fz | bor | own | tmp | scr
  deriving DecidableEq, Repr

/-- data -/
inductive D where
  | unset | non
  | bl (b : Bool)
  | int (i : Int)
  | str (x : Str)
  | seq (t : Bool) (k : Md) (ds : List D)
  | obj (k : Md) (c : Str) (ns : List Str) (ds : List D)
  | deep (k : Md) (ds : List D)
  | fn (x : Str)
  | ty (n : String)

abbrev D.tup (ds : List D) : D := .seq true .fz ds
abbrev D.lst (ds : List D) : D := .seq false .fz ds
abbrev D.own (ds : List D) : D := .seq false .own ds

/-- a tuple, its object known to have no dict of its own -/
def TupX (K : PySem.W.Frag) (H : Hp) (a : Addr) (vs : List V) : Prop :=
  (∃ ob : Obj, H a = some (.frz ob (.tup vs)) ∧ ob.dict = none) ∨
    ∃ (o : Obj) (its : Array Value) (n : Nat), K.lookup a = some o ∧ o.cls = .type "tuple" ∧ o.dict = none ∧ o.data = .seq its n ∧ its.size ≤ sizeLine ∧ Vals vs its.toList
theorem TupX.sq {K : PySem.W.Frag} {H : Hp} {a : Addr} {vs : List V} (h : TupX K H a vs) : SqT K H a vs := by
  rcases h with ⟨ob, h, _⟩ | ⟨o, its, n, h1, h2, _, h4, h5, h6⟩
  · exact .inl (.inr ⟨ob, h⟩)
  · exact .inr ⟨o, its, n, h1, h2, h4, h5, h6⟩
/-- what is kept -/
def Sq (K : PySem.W.Frag) (t : Bool) (H : Hp) (a : Addr) (vs : List V) : Prop := match t with
  | true => TupX K H a vs
  | false => H a = some (.lst vs)
/-- what is passed on -/
def SqM (K : PySem.W.Frag) (t : Bool) (H : Hp) (a : Addr) (vs : List V) : Prop := match t with
  | true => SqT K H a vs
  | false => H a = some (.lst vs)
/-- what is read (the script may stand in the module itself) -/
def SqG (K : PySem.W.Frag) (t : Bool) (H : Hp) (a : Addr) (vs : List V) : Prop := match t with
  | true => SqT K H a vs
  | false => SqL K H a vs

/-- a part of the heap -/
def Sub (A B : Hp) : Prop := ∀ a o, A a = some o → B a = some o
theorem Sub.refl (A : Hp) : Sub A A := fun _ _ h => h
theorem Sub.trans {A B C : Hp} (x : Sub A B) (y : Sub B C) : Sub A C := fun a o h => y a o (x a o h)

section
variable {K : PySem.W.Frag}
theorem Rd.sub {A B : Hp} {a : Addr} {u : HO} (s : Sub A B) (h : Rd A a u) : Rd B a u := by
  rcases h with h | ⟨o, h⟩
  · exact .inl (s _ _ h)
  · exact .inr ⟨o, s _ _ h⟩
theorem TupX.sub {A B : Hp} {a : Addr} {vs : List V} (s : Sub A B) (h : TupX K A a vs) : TupX K B a vs := h.elim (fun ⟨ob, z, d⟩ => .inl ⟨ob, s _ _ z, d⟩) .inr
theorem Sq.sub {A B : Hp} {t : Bool} {a : Addr} {vs : List V} (s : Sub A B) (h : Sq K t A a vs) : Sq K t B a vs := by
  cases t with
  | true => exact TupX.sub s h
  | false => exact s _ _ h
theorem SqM.sub {A B : Hp} {t : Bool} {a : Addr} {vs : List V} (s : Sub A B) (h : SqM K t A a vs) : SqM K t B a vs := by
  cases t with
  | true => exact h.elim (fun z => .inl (Rd.sub s z)) .inr
  | false => exact s _ _ h
theorem Sq.m {H : Hp} {t : Bool} {a : Addr} {vs : List V} (h : Sq K t H a vs) : SqM K t H a vs := by
  cases t with
  | true => exact TupX.sq h
  | false => exact h
theorem SqM.g {H : Hp} {t : Bool} {a : Addr} {vs : List V} (h : SqM K t H a vs) : SqG K t H a vs := by
  cases t with
  | true => exact h
  | false => exact .inl (.inl h)
theorem Sq.g {H : Hp} {t : Bool} {a : Addr} {vs : List V} (h : Sq K t H a vs) : SqG K t H a vs := h.m.g
theorem sqL_sub {A B : Hp} {a : Addr} {vs : List V} (s : Sub A B) (h : SqL K A a vs) : SqL K B a vs := h.elim (fun z => .inl (Rd.sub s z)) .inr
end

/-! shared data -/
mutual
def RepF (K : PySem.W.Frag) (Fr : Hp) : D → V → Prop
  | .non, v => v = .non
  | .bl b, v => v = .bl b
  | .int i, v => v = .int i
  | .str x, v => v = .str x
  | .seq t .fz ds, v => ∃ a vs, v = .ref a ∧ Sq K t Fr a vs ∧ RepFs K Fr ds vs
  | .obj .fz c ns ds, v => ∃ a dx fvs, v = .ref a ∧ Fr a = some (.ins (He.ga K c) dx fvs) ∧ fvs.map (·.1) = ns ∧ RepFs K Fr ds (fvs.map (·.2))
  | .fn x, v => v = .ref (He.ga K x)
  | .ty n, v => v = .ty n
  | _, _ => False
def RepFs (K : PySem.W.Frag) (Fr : Hp) : List D → List V → Prop
  | [], [] => True
  | d :: ds, v :: vs => RepF K Fr d v ∧ RepFs K Fr ds vs
  | _, _ => False
end

/-! data at hand: F the addresses that it owns -/
mutual
def Rep (K : PySem.W.Frag) (B Fr H : Hp) : D → V → List Addr → Prop
  | .seq t .own ds, v, F => ∃ a vs, v = .ref a ∧ F = [a] ∧ (H a = some (.lst vs) ∧ t = false) ∧ RepFs K Fr ds vs
  | .seq t .bor ds, v, F => F = [] ∧ ∃ a vs, v = .ref a ∧ (Sq K t B a vs ∨ Sq K t Fr a vs) ∧ RepFs K Fr ds vs
  | .seq t .tmp ds, v, F => F = [] ∧ ∃ a vs, v = .ref a ∧ SqM K t H a vs ∧ RepFs K Fr ds vs
  | .obj .own c ns ds, v, F => ∃ a dx fvs, v = .ref a ∧ F = [a] ∧ H a = some (.ins (He.ga K c) dx fvs) ∧ fvs.map (·.1) = ns ∧ RepFs K Fr ds (fvs.map (·.2))
  | .obj .tmp c ns ds, v, F => F = [] ∧ ∃ a dx fvs, v = .ref a ∧ H a = some (.ins (He.ga K c) dx fvs) ∧ fvs.map (·.1) = ns ∧ RepFs K Fr ds (fvs.map (·.2))
  | .deep .own ds, v, F => ∃ a vs G, v = .ref a ∧ F = a :: G ∧ H a = some (.lst vs) ∧ Reps K B Fr H ds vs G
  | .deep .tmp ds, v, F => F = [] ∧ ∃ a vs, v = .ref a ∧ H a = some (.lst vs) ∧ Reps K B Fr H ds vs []
  | .deep .fz _, _, _ => False
  | .deep .bor _, _, _ => False
  | .obj .bor _ _ _, _, _ => False
  | .obj .scr _ _ _, _, _ => False
  | .deep .scr _, _, _ => False
  | .seq t .scr ds, v, F => F = [] ∧ t = false ∧ ∃ a vs, v = .ref a ∧ (SqL K B a vs ∨ SqL K Fr a vs) ∧ RepFs K Fr ds vs
  | .non, v, F => F = [] ∧ v = .non
  | .bl b, v, F => F = [] ∧ v = .bl b
  | .int i, v, F => F = [] ∧ v = .int i
  | .str x, v, F => F = [] ∧ v = .str x
  | .seq t .fz ds, v, F => F = [] ∧ RepF K Fr (.seq t .fz ds) v
  | .obj .fz c ns ds, v, F => F = [] ∧ RepF K Fr (.obj .fz c ns ds) v
  | .fn x, v, F => F = [] ∧ v = .ref (He.ga K x)
  | .ty n, v, F => F = [] ∧ v = .ty n
  | .unset, _, _ => False
def Reps (K : PySem.W.Frag) (B Fr H : Hp) : List D → List V → List Addr → Prop
  | [], [], F => F = []
  | d :: ds, v :: vs, F => ∃ F1 F2, F = F1 ++ F2 ∧ Rep K B Fr H d v F1 ∧ Reps K B Fr H ds vs F2
  | _, _, _ => False
end
end Ev
namespace Ev
open PySem PySem.Spec PyProof.Rows L2
variable {K : PySem.W.Frag}

mutual
/-- stays, whatever happens to what others own -/
def D.stb : D → Bool
  | .seq _ .tmp _ => false
  | .obj .tmp _ _ _ => false
  | .deep .tmp _ => false
  | .deep .own ds => stbs ds
  | _ => true
def stbs : List D → Bool
  | [] => true
  | d :: ds => d.stb && stbs ds
end
mutual
/-- may become shared -/
def D.canFz : D → Bool
  | .non => true
  | .bl _ => true
  | .int _ => true
  | .str _ => true
  | .fn _ => true
  | .ty _ => true
  | .seq _ .fz _ => true
  | .seq _ .own _ => true
  | .obj .fz _ _ _ => true
  | .obj .own _ _ _ => true
  | .deep .own ds => canFzs ds
  | _ => false
def canFzs : List D → Bool
  | [] => true
  | d :: ds => d.canFz && canFzs ds
end
mutual
def D.frz : D → D
  | .seq t .own ds => .seq t .fz ds
  | .obj .own c ns ds => .obj .fz c ns ds
  | .deep .own ds => .seq false .fz (frzs ds)
  | d => d
def frzs : List D → List D
  | [] => []
  | d :: ds => d.frz :: frzs ds
end
mutual
/-- a look at it -/
def D.look : D → D
  | .seq t .own ds => .seq t .tmp ds
  | .obj .own c ns ds => .obj .tmp c ns ds
  | .deep .own ds => .deep .tmp (looks ds)
  | d => d
def looks : List D → List D
  | [] => []
  | d :: ds => d.look :: looks ds
end
/-- shared already (or no object) -/
def D.isFz : D → Bool
  | .non => true
  | .bl _ => true
  | .int _ => true
  | .str _ => true
  | .fn _ => true
  | .ty _ => true
  | .seq _ .fz _ => true
  | .obj .fz _ _ _ => true
  | _ => false
/-- lent to a callee -/
def D.lend : D → D
  | .seq false .scr ds => .seq false .scr ds
  | .seq false _ ds => .seq false .bor ds
  | d => d
def D.canLend : D → Bool
  | .seq false _ _ => true
  | d => d.isFz

theorem D.isFz_stb {d : D} (h : d.isFz = true) : d.stb = true := by
  cases d with
  | seq t k ds => cases k <;> first | rfl | cases h
  | obj k c ns ds => cases k <;> first | rfl | cases h
  | deep k ds => cases h
  | _ => first | rfl | cases h
theorem D.isFz_frz {d : D} (h : d.isFz = true) : d.frz = d := by
  cases d with
  | seq t k ds => cases k <;> first | rfl | cases h
  | obj k c ns ds => cases k <;> first | rfl | cases h
  | deep k ds => cases h
  | _ => first | rfl | cases h
theorem D.isFz_look {d : D} (h : d.isFz = true) : d.look = d := by
  cases d with
  | seq t k ds => cases k <;> first | rfl | cases h
  | obj k c ns ds => cases k <;> first | rfl | cases h
  | deep k ds => cases h
  | _ => first | rfl | cases h
theorem D.isFz_can {d : D} (h : d.isFz = true) : d.canFz = true := by
  cases d with
  | seq t k ds => cases k <;> first | rfl | cases h
  | obj k c ns ds => cases k <;> first | rfl | cases h
  | deep k ds => cases h
  | _ => first | rfl | cases h
mutual
theorem D.canFz_stb : ∀ {d : D}, d.canFz = true → d.stb = true
  | .seq t k ds, h => by cases k <;> first | rfl | cases h
  | .obj k c ns ds, h => by cases k <;> first | rfl | cases h
  | .deep k ds, h => by
    cases k with
    | own => exact canFzs_stb (ds := ds) h
    | _ => cases h
  | .unset, _ => rfl
  | .non, _ => rfl
  | .bl _, _ => rfl
  | .int _, _ => rfl
  | .str _, _ => rfl
  | .fn _, _ => rfl
  | .ty _, _ => rfl
theorem canFzs_stb : ∀ {ds : List D}, canFzs ds = true → stbs ds = true
  | [], _ => rfl
  | d :: ds, h => by
    have h' := Bool.and_eq_true_iff.mp (show (d.canFz && canFzs ds) = true from h)
    show (d.stb && stbs ds) = true
    rw [D.canFz_stb h'.1, canFzs_stb h'.2]
    rfl
end
mutual
theorem D.frz_isFz : ∀ {d : D}, d.canFz = true → d.frz.isFz = true
  | .seq t k ds, h => by cases k <;> first | rfl | cases h
  | .obj k c ns ds, h => by cases k <;> first | rfl | cases h
  | .deep k ds, h => by cases k <;> first | rfl | cases h
  | .unset, h => by cases h
  | .non, _ => rfl
  | .bl _, _ => rfl
  | .int _, _ => rfl
  | .str _, _ => rfl
  | .fn _, _ => rfl
  | .ty _, _ => rfl
end

/-! ### shared data stays -/
mutual
theorem RepF.sub {A C : Hp} (s : Sub A C) : ∀ {d : D} {v : V}, RepF K A d v → RepF K C d v
  | .seq t k ds, v, h => by
    cases k with
    | fz =>
      obtain ⟨a, vs, e, q, r⟩ := h
      exact ⟨a, vs, e, q.sub s, RepFs.sub s r⟩
    | _ => exact h
  | .obj k c ns ds, v, h => by
    cases k with
    | fz =>
      obtain ⟨a, dx, fvs, e, q, n, r⟩ := h
      exact ⟨a, dx, fvs, e, s _ _ q, n, RepFs.sub s r⟩
    | _ => exact h
  | .deep _ _, _, h => h
  | .unset, _, h => h
  | .non, _, h => h
  | .bl _, _, h => h
  | .int _, _, h => h
  | .str _, _, h => h
  | .fn _, _, h => h
  | .ty _, _, h => h
theorem RepFs.sub {A C : Hp} (s : Sub A C) : ∀ {ds : List D} {vs : List V}, RepFs K A ds vs → RepFs K C ds vs
  | [], [], h => h
  | [], _ :: _, h => h
  | _ :: _, [], h => h
  | d :: ds, v :: vs, h => ⟨RepF.sub s h.1, RepFs.sub s h.2⟩
end
theorem RepF.isFz {A : Hp} {d : D} {v : V} (h : RepF K A d v) : d.isFz = true := by
  cases d with
  | seq t k ds => cases k <;> first | rfl | exact h.elim
  | obj k c ns ds => cases k <;> first | rfl | exact h.elim
  | deep k ds => exact h.elim
  | unset => exact h.elim
  | _ => rfl
theorem RepFs.len {A : Hp} : ∀ {ds : List D} {vs : List V}, RepFs K A ds vs → ds.length = vs.length
  | [], [], _ => rfl
  | [], _ :: _, h => h.elim
  | _ :: _, [], h => h.elim
  | _ :: ds, _ :: vs, h => congrArg Nat.succ (RepFs.len (ds := ds) h.2)
theorem RepFs.get {A : Hp} : ∀ {ds : List D} {vs : List V} {i : Nat} {d : D}, RepFs K A ds vs → ds[i]? = some d → ∃ v, vs[i]? = some v ∧ RepF K A d v
  | [], [], _, _, _, e => by simp at e
  | [], _ :: _, _, _, h, _ => h.elim
  | _ :: _, [], _, _, h, _ => h.elim
  | d :: ds, v :: vs, 0, d', h, e => by
    have e' : d = d' := by simpa using e
    subst e'
    exact ⟨v, rfl, h.1⟩
  | d :: ds, v :: vs, i + 1, d', h, e => by
    obtain ⟨w, h1, h2⟩ := RepFs.get (ds := ds) (vs := vs) (i := i) (d := d') h.2 (by simpa using e)
    exact ⟨w, by simpa using h1, h2⟩
theorem RepFs.getV {A : Hp} : ∀ {ds : List D} {vs : List V} {i : Nat} {v : V}, RepFs K A ds vs → vs[i]? = some v → ∃ d, ds[i]? = some d ∧ RepF K A d v
  | [], [], _, _, _, e => by simp at e
  | [], _ :: _, _, _, h, _ => h.elim
  | _ :: _, [], _, _, h, _ => h.elim
  | d :: ds, v :: vs, 0, v', h, e => by
    have e' : v = v' := by simpa using e
    subst e'
    exact ⟨d, rfl, h.1⟩
  | d :: ds, v :: vs, i + 1, v', h, e => by
    obtain ⟨w, h1, h2⟩ := RepFs.getV (ds := ds) (vs := vs) (i := i) (v := v') h.2 (by simpa using e)
    exact ⟨w, by simpa using h1, h2⟩
theorem RepFs.app {A : Hp} : ∀ {ds es : List D} {vs ws : List V}, RepFs K A ds vs → RepFs K A es ws → RepFs K A (ds ++ es) (vs ++ ws)
  | [], _, [], _, _, h => h
  | [], _, _ :: _, _, h, _ => h.elim
  | _ :: _, _, [], _, h, _ => h.elim
  | d :: ds, _, v :: vs, _, h, g => ⟨h.1, RepFs.app (ds := ds) h.2 g⟩
theorem RepFs.set {A : Hp} {d : D} {v : V} (r : RepF K A d v) : ∀ {ds : List D} {vs : List V} (i : Nat), RepFs K A ds vs → RepFs K A (ds.set i d) (vs.set i v)
  | [], [], _, h => h
  | [], _ :: _, _, h => h.elim
  | _ :: _, [], _, h => h.elim
  | _ :: ds, _ :: vs, 0, h => ⟨r, h.2⟩
  | _ :: ds, _ :: vs, i + 1, h => ⟨h.1, RepFs.set r (ds := ds) i h.2⟩
theorem RepFs.take {A : Hp} : ∀ {ds : List D} {vs : List V} (n : Nat), RepFs K A ds vs → RepFs K A (ds.take n) (vs.take n)
  | _, _, 0, _ => trivial
  | [], [], _ + 1, h => h
  | [], _ :: _, _ + 1, h => h.elim
  | _ :: _, [], _ + 1, h => h.elim
  | d :: ds, v :: vs, n + 1, h => ⟨h.1, RepFs.take (ds := ds) n h.2⟩
theorem RepFs.drop {A : Hp} : ∀ {ds : List D} {vs : List V} (n : Nat), RepFs K A ds vs → RepFs K A (ds.drop n) (vs.drop n)
  | _, _, 0, h => h
  | [], [], _ + 1, _ => trivial
  | [], _ :: _, _ + 1, h => h.elim
  | _ :: _, [], _ + 1, h => h.elim
  | d :: ds, v :: vs, n + 1, h => RepFs.drop (ds := ds) n h.2
theorem RepFs.cat {A : Hp} {ds : List D} {vs : List V} {d : D} {v : V} (h : RepFs K A ds vs) (r : RepF K A d v) : RepFs K A (ds ++ [d]) (vs ++ [v]) := h.app ⟨r, trivial⟩
theorem RepFs.allFz {A : Hp} : ∀ {ds : List D} {vs : List V}, RepFs K A ds vs → ∀ d ∈ ds, d.isFz = true
  | [], _, _, d, h => by cases h
  | _ :: _, [], h, _, _ => h.elim
  | e :: ds, v :: vs, h, d, m => by
    rcases List.mem_cons.mp m with q | q
    · subst q
      exact RepF.isFz h.1
    · exact RepFs.allFz (ds := ds) h.2 d q
theorem RepFs.ints {A : Hp} : ∀ {ns : List Int} {vs : List V}, RepFs K A (ns.map D.int) vs → vs = ns.map V.int
  | [], [], _ => rfl
  | [], _ :: _, h => h.elim
  | _ :: _, [], h => h.elim
  | n :: ns, v :: vs, h => by
    have e : v = V.int n := h.1
    rw [e, RepFs.ints (ns := ns) h.2]
    rfl
theorem RepFs.bls {A : Hp} : ∀ {ns : List Bool} {vs : List V}, RepFs K A (ns.map D.bl) vs → vs = ns.map V.bl
  | [], [], _ => rfl
  | [], _ :: _, h => h.elim
  | _ :: _, [], h => h.elim
  | n :: ns, v :: vs, h => by
    have e : v = V.bl n := h.1
    rw [e, RepFs.bls (ns := ns) h.2]
    rfl
theorem RepFs.strs {A : Hp} : ∀ {ns : List Str} {vs : List V}, RepFs K A (ns.map D.str) vs → vs = ns.map V.str
  | [], [], _ => rfl
  | [], _ :: _, h => h.elim
  | _ :: _, [], h => h.elim
  | n :: ns, v :: vs, h => by
    have e : v = V.str n := h.1
    rw [e, RepFs.strs (ns := ns) h.2]
    rfl
theorem RepFs.of_ints {A : Hp} : ∀ (ns : List Int), RepFs K A (ns.map D.int) (ns.map V.int)
  | [] => trivial
  | _ :: ns => ⟨rfl, RepFs.of_ints ns⟩

/-! ### data at hand stays -/
mutual
theorem Rep.keep {B B' Fr Fr' H H' : Hp} (sB : Sub B B') (sF : Sub Fr Fr') : ∀ {d : D} {v : V} {F : List Addr}, Rep K B Fr H d v F → (∀ a ∈ F, ∀ o, H a = some o → H' a = some o) → (d.stb = true ∨ Sub H H') → Rep K B' Fr' H' d v F
  | .seq t k ds, v, F, h, k1, k2 => by
    cases k with
    | fz => exact ⟨h.1, RepF.sub sF (d := .seq t .fz ds) h.2⟩
    | own =>
      obtain ⟨a, vs, e, eF, q, r⟩ := h
      exact ⟨a, vs, e, eF, ⟨k1 a (by rw [eF]; exact List.mem_cons_self) _ q.1, q.2⟩, RepFs.sub sF r⟩
    | bor =>
      obtain ⟨eF, a, vs, e, q, r⟩ := h
      exact ⟨eF, a, vs, e, q.elim (fun z => .inl (z.sub sB)) (fun z => .inr (z.sub sF)), RepFs.sub sF r⟩
    | tmp =>
      obtain ⟨eF, a, vs, e, q, r⟩ := h
      rcases k2 with z | z
      · cases z
      · exact ⟨eF, a, vs, e, q.sub z, RepFs.sub sF r⟩
    | scr =>
      obtain ⟨eF, et, a, vs, e, q, r⟩ := h
      exact ⟨eF, et, a, vs, e, q.elim (fun z => .inl (sqL_sub sB z)) (fun z => .inr (sqL_sub sF z)), RepFs.sub sF r⟩
  | .obj k c ns ds, v, F, h, k1, k2 => by
    cases k with
    | fz => exact ⟨h.1, RepF.sub sF (d := .obj .fz c ns ds) h.2⟩
    | own =>
      obtain ⟨a, dx, fvs, e, eF, q, n, r⟩ := h
      exact ⟨a, dx, fvs, e, eF, k1 a (by rw [eF]; exact List.mem_cons_self) _ q, n, RepFs.sub sF r⟩
    | bor => exact h
    | scr => exact h
    | tmp =>
      obtain ⟨eF, a, dx, fvs, e, q, n, r⟩ := h
      rcases k2 with z | z
      · cases z
      · exact ⟨eF, a, dx, fvs, e, z _ _ q, n, RepFs.sub sF r⟩
  | .deep k ds, v, F, h, k1, k2 => by
    cases k with
    | own =>
      obtain ⟨a, vs, G, e, eF, q, r⟩ := h
      refine ⟨a, vs, G, e, eF, k1 a (by rw [eF]; exact List.mem_cons_self) _ q, Reps.keep sB sF r (fun b hb => k1 b (by rw [eF]; exact List.mem_cons_of_mem _ hb)) k2⟩
    | tmp =>
      obtain ⟨eF, a, vs, e, q, r⟩ := h
      rcases k2 with z | z
      · cases z
      · exact ⟨eF, a, vs, e, z _ _ q, Reps.keep sB sF r (fun b hb => absurd hb (by simp)) (.inr z)⟩
    | fz => exact h
    | bor => exact h
    | scr => exact h
  | .unset, _, _, h, _, _ => h
  | .non, _, _, h, _, _ => h
  | .bl _, _, _, h, _, _ => h
  | .int _, _, _, h, _, _ => h
  | .str _, _, _, h, _, _ => h
  | .fn _, _, _, h, _, _ => h
  | .ty _, _, _, h, _, _ => h
theorem Reps.keep {B B' Fr Fr' H H' : Hp} (sB : Sub B B') (sF : Sub Fr Fr') : ∀ {ds : List D} {vs : List V} {F : List Addr}, Reps K B Fr H ds vs F → (∀ a ∈ F, ∀ o, H a = some o → H' a = some o) → (stbs ds = true ∨ Sub H H') → Reps K B' Fr' H' ds vs F
  | [], [], _, h, _, _ => h
  | [], _ :: _, _, h, _, _ => h
  | _ :: _, [], _, h, _, _ => h
  | d :: ds, v :: vs, F, h, k1, k2 => by
    obtain ⟨F1, F2, e, r1, r2⟩ := h
    refine ⟨F1, F2, e, Rep.keep sB sF r1 (fun a ha => k1 a (by rw [e]; exact List.mem_append_left _ ha)) (k2.imp (fun z => (Bool.and_eq_true_iff.mp (show (d.stb && stbs ds) = true from z)).1) id), Reps.keep sB sF r2 (fun a ha => k1 a (by rw [e]; exact List.mem_append_right _ ha)) (k2.imp (fun z => (Bool.and_eq_true_iff.mp (show (d.stb && stbs ds) = true from z)).2) id)⟩
end
/-- shared data has no owned addresses -/
theorem Rep.fz {B Fr H : Hp} {d : D} {v : V} {F : List Addr} (h : Rep K B Fr H d v F) (z : d.isFz = true) : F = [] ∧ RepF K Fr d v := by
  cases d with
  | seq t k ds => cases k <;> first | exact h | cases z
  | obj k c ns ds => cases k <;> first | exact h | cases z
  | deep k ds => cases z
  | unset => cases z
  | _ => exact h
theorem RepF.rep {B Fr H : Hp} {d : D} {v : V} (h : RepF K Fr d v) : Rep K B Fr H d v [] := by
  cases d with
  | seq t k ds => cases k <;> first | exact ⟨rfl, h⟩ | exact h.elim
  | obj k c ns ds => cases k <;> first | exact ⟨rfl, h⟩ | exact h.elim
  | deep k ds => exact h.elim
  | unset => exact h.elim
  | _ => exact ⟨rfl, h⟩
mutual
/-- its owned addresses are tracked -/
theorem Rep.live {B Fr H : Hp} : ∀ {d : D} {v : V} {F : List Addr}, Rep K B Fr H d v F → ∀ a ∈ F, ∃ o, H a = some o
  | .seq t k ds, v, F, h => by
    cases k with
    | own =>
      obtain ⟨a, vs, e, eF, q, r⟩ := h
      intro b hb
      rw [eF] at hb
      have : b = a := by simpa using hb
      subst this
      exact ⟨_, q.1⟩
    | fz => intro b hb; rw [h.1] at hb; cases hb
    | bor => intro b hb; rw [h.1] at hb; cases hb
    | tmp => intro b hb; rw [h.1] at hb; cases hb
    | scr => intro b hb; rw [h.1] at hb; cases hb
  | .obj k c ns ds, v, F, h => by
    cases k with
    | own =>
      obtain ⟨a, dx, fvs, e, eF, q, n, r⟩ := h
      intro b hb
      rw [eF] at hb
      have : b = a := by simpa using hb
      subst this
      exact ⟨_, q⟩
    | fz => intro b hb; rw [h.1] at hb; cases hb
    | bor => exact False.elim h
    | scr => exact False.elim h
    | tmp => intro b hb; rw [h.1] at hb; cases hb
  | .deep k ds, v, F, h => by
    cases k with
    | own =>
      obtain ⟨a, vs, G, e, eF, q, r⟩ := h
      intro b hb
      rw [eF] at hb
      rcases List.mem_cons.mp hb with z | z
      · subst z
        exact ⟨_, q⟩
      · exact Reps.live r b z
    | tmp => intro b hb; rw [h.1] at hb; cases hb
    | fz => exact False.elim h
    | bor => exact False.elim h
    | scr => exact False.elim h
  | .unset, _, _, h => False.elim h
  | .non, _, _, h => fun b hb => by rw [h.1] at hb; cases hb
  | .bl _, _, _, h => fun b hb => by rw [h.1] at hb; cases hb
  | .int _, _, _, h => fun b hb => by rw [h.1] at hb; cases hb
  | .str _, _, _, h => fun b hb => by rw [h.1] at hb; cases hb
  | .fn _, _, _, h => fun b hb => by rw [h.1] at hb; cases hb
  | .ty _, _, _, h => fun b hb => by rw [h.1] at hb; cases hb
theorem Reps.live {B Fr H : Hp} : ∀ {ds : List D} {vs : List V} {F : List Addr}, Reps K B Fr H ds vs F → ∀ a ∈ F, ∃ o, H a = some o
  | [], [], _, h => fun b hb => by rw [show _ = _ from h] at hb; cases hb
  | [], _ :: _, _, h => False.elim h
  | _ :: _, [], _, h => False.elim h
  | d :: ds, v :: vs, F, h => by
    obtain ⟨F1, F2, e, r1, r2⟩ := h
    intro b hb
    rw [e] at hb
    rcases List.mem_append.mp hb with z | z
    · exact Rep.live r1 b z
    · exact Reps.live r2 b z
end
mutual
/-- a look at owned data -/
theorem Rep.look {B Fr H : Hp} : ∀ {d : D} {v : V} {F : List Addr}, Rep K B Fr H d v F → Rep K B Fr H d.look v []
  | .seq t k ds, v, F, h => by
    cases k with
    | own =>
      obtain ⟨a, vs, e, eF, q, r⟩ := h
      obtain ⟨q, rfl⟩ := q
      exact ⟨rfl, a, vs, e, q, r⟩
    | fz => exact ⟨rfl, h.2⟩
    | bor => exact ⟨rfl, h.2⟩
    | tmp => exact ⟨rfl, h.2⟩
    | scr => exact ⟨rfl, h.2⟩
  | .obj k c ns ds, v, F, h => by
    cases k with
    | own =>
      obtain ⟨a, dx, fvs, e, eF, q, n, r⟩ := h
      exact ⟨rfl, a, dx, fvs, e, q, n, r⟩
    | fz => exact ⟨rfl, h.2⟩
    | bor => exact False.elim h
    | scr => exact False.elim h
    | tmp => exact ⟨rfl, h.2⟩
  | .deep k ds, v, F, h => by
    cases k with
    | own =>
      obtain ⟨a, vs, G, e, eF, q, r⟩ := h
      exact ⟨rfl, a, vs, e, q, Reps.look r⟩
    | tmp => exact ⟨rfl, h.2⟩
    | fz => exact False.elim h
    | bor => exact False.elim h
    | scr => exact False.elim h
  | .unset, _, _, h => False.elim h
  | .non, _, _, h => ⟨rfl, h.2⟩
  | .bl _, _, _, h => ⟨rfl, h.2⟩
  | .int _, _, _, h => ⟨rfl, h.2⟩
  | .str _, _, _, h => ⟨rfl, h.2⟩
  | .fn _, _, _, h => ⟨rfl, h.2⟩
  | .ty _, _, _, h => ⟨rfl, h.2⟩
theorem Reps.look {B Fr H : Hp} : ∀ {ds : List D} {vs : List V} {F : List Addr}, Reps K B Fr H ds vs F → Reps K B Fr H (looks ds) vs []
  | [], [], _, h => rfl
  | [], _ :: _, _, h => False.elim h
  | _ :: _, [], _, h => False.elim h
  | d :: ds, v :: vs, F, h => by
    obtain ⟨F1, F2, e, r1, r2⟩ := h
    exact ⟨[], [], rfl, Rep.look r1, Reps.look r2⟩
end
/-- Fr with what H holds at F -/
def plus (Fr H : Hp) (F : List Addr) : Hp := fun a => if a ∈ F then H a else Fr a
theorem plus_in {Fr H : Hp} {F : List Addr} {a : Addr} (h : a ∈ F) : plus Fr H F a = H a := if_pos h
theorem plus_out {Fr H : Hp} {F : List Addr} {a : Addr} (h : a ∉ F) : plus Fr H F a = Fr a := if_neg h
theorem sub_plus {Fr H : Hp} {F : List Addr} (s : Sub Fr H) : Sub Fr (plus Fr H F) := fun a o h => by
  by_cases m : a ∈ F
  · rw [plus_in m]; exact s _ _ h
  · rw [plus_out m]; exact h
theorem plus_sub {Fr H : Hp} {F : List Addr} (s : Sub Fr H) : Sub (plus Fr H F) H := fun a o h => by
  by_cases m : a ∈ F
  · rw [plus_in m] at h; exact h
  · rw [plus_out m] at h; exact s _ _ h
mutual
/-- owned data becomes shared -/
theorem Rep.frz {B Fr H : Hp} {G : List Addr} (s : Sub Fr H) : ∀ {d : D} {v : V} {F : List Addr}, Rep K B Fr H d v F → d.canFz = true → (∀ a ∈ F, a ∈ G) → RepF K (plus Fr H G) d.frz v
  | .seq t k ds, v, F, h, c, m => by
    cases k with
    | own =>
      obtain ⟨a, vs, e, eF, q, r⟩ := h
      obtain ⟨q, rfl⟩ := q
      refine ⟨a, vs, e, ?_, RepFs.sub (sub_plus s) r⟩
      show plus Fr H G a = _
      rw [plus_in (m a (by rw [eF]; exact List.mem_cons_self))]
      exact q
    | fz => exact RepF.sub (sub_plus s) (d := .seq t .fz ds) h.2
    | bor => cases c
    | tmp => cases c
    | scr => cases c
  | .obj k c' ns ds, v, F, h, c, m => by
    cases k with
    | own =>
      obtain ⟨a, dx, fvs, e, eF, q, n, r⟩ := h
      refine ⟨a, dx, fvs, e, ?_, n, RepFs.sub (sub_plus s) r⟩
      rw [plus_in (m a (by rw [eF]; exact List.mem_cons_self))]
      exact q
    | fz => exact RepF.sub (sub_plus s) (d := .obj .fz c' ns ds) h.2
    | bor => cases c
    | tmp => cases c
    | scr => cases c
  | .deep k ds, v, F, h, c, m => by
    cases k with
    | own =>
      obtain ⟨a, vs, G', e, eF, q, r⟩ := h
      refine ⟨a, vs, e, ?_, Reps.frz s r c (fun b hb => m b (by rw [eF]; exact List.mem_cons_of_mem _ hb))⟩
      show plus Fr H G a = _
      rw [plus_in (m a (by rw [eF]; exact List.mem_cons_self))]
      exact q
    | tmp => cases c
    | fz => cases c
    | bor => cases c
    | scr => cases c
  | .unset, _, _, h, _, _ => False.elim h
  | .non, _, _, h, _, _ => h.2
  | .bl _, _, _, h, _, _ => h.2
  | .int _, _, _, h, _, _ => h.2
  | .str _, _, _, h, _, _ => h.2
  | .fn _, _, _, h, _, _ => h.2
  | .ty _, _, _, h, _, _ => h.2
theorem Reps.frz {B Fr H : Hp} {G : List Addr} (s : Sub Fr H) : ∀ {ds : List D} {vs : List V} {F : List Addr}, Reps K B Fr H ds vs F → canFzs ds = true → (∀ a ∈ F, a ∈ G) → RepFs K (plus Fr H G) (frzs ds) vs
  | [], [], _, _, _, _ => trivial
  | [], _ :: _, _, h, _, _ => False.elim h
  | _ :: _, [], _, h, _, _ => False.elim h
  | d :: ds, v :: vs, F, h, c, m => by
    obtain ⟨F1, F2, e, r1, r2⟩ := h
    have c' := Bool.and_eq_true_iff.mp (show (d.canFz && canFzs ds) = true from c)
    exact ⟨Rep.frz s r1 c'.1 (fun a ha => m a (by rw [e]; exact List.mem_append_left _ ha)), Reps.frz s r2 c'.2 (fun a ha => m a (by rw [e]; exact List.mem_append_right _ ha))⟩
end
end Ev

/-! C2: what is known of a state: names and values at hand, each with its data; owned parts lie apart. -/
namespace Ev
open PySem PySem.Spec PyProof.Rows L2
variable {K : PySem.W.Frag} {L B Fr H : Hp}

def RepS (K : PySem.W.Frag) (L Fr H : Hp) (d : D) (o : Option V) (F : List Addr) : Prop := (d = .unset ∧ F = []) ∨ ∃ v, o = some v ∧ Rep K L Fr H d v F
def RepO (K : PySem.W.Frag) (L Fr H : Hp) : List D → List (Option V) → List Addr → Prop
  | [], [], F => F = []
  | d :: ds, o :: os, F => ∃ F1 F2, F = F1 ++ F2 ∧ RepS K L Fr H d o F1 ∧ RepO K L Fr H ds os F2
  | _, _, _ => False

theorem RepS.keep {L L' Fr Fr' H H' : Hp} (sB : Sub L L') (sF : Sub Fr Fr') {d : D} {o : Option V} {F : List Addr} (h : RepS K L Fr H d o F) (k1 : ∀ a ∈ F, ∀ o, H a = some o → H' a = some o) (k2 : d.stb = true ∨ Sub H H') : RepS K L' Fr' H' d o F := by
  rcases h with h | ⟨v, e, r⟩
  · exact .inl h
  · exact .inr ⟨v, e, r.keep sB sF k1 k2⟩
theorem RepO.keep {L L' Fr Fr' H H' : Hp} (sB : Sub L L') (sF : Sub Fr Fr') : ∀ {ds : List D} {os : List (Option V)} {F : List Addr}, RepO K L Fr H ds os F → (∀ a ∈ F, ∀ o, H a = some o → H' a = some o) → (stbs ds = true ∨ Sub H H') → RepO K L' Fr' H' ds os F
  | [], [], _, h, _, _ => h
  | [], _ :: _, _, h, _, _ => h
  | _ :: _, [], _, h, _, _ => h
  | d :: ds, o :: os, F, h, k1, k2 => by
    obtain ⟨F1, F2, e, r1, r2⟩ := h
    exact ⟨F1, F2, e, r1.keep sB sF (fun a ha => k1 a (by rw [e]; exact List.mem_append_left _ ha)) (k2.imp (fun z => (Bool.and_eq_true_iff.mp (show (d.stb && stbs ds) = true from z)).1) id), RepO.keep sB sF r2 (fun a ha => k1 a (by rw [e]; exact List.mem_append_right _ ha)) (k2.imp (fun z => (Bool.and_eq_true_iff.mp (show (d.stb && stbs ds) = true from z)).2) id)⟩
theorem RepS.live {d : D} {o : Option V} {F : List Addr} (h : RepS K L Fr H d o F) : ∀ a ∈ F, ∃ o, H a = some o := by
  rcases h with ⟨_, e⟩ | ⟨v, e, r⟩
  · intro a ha; rw [e] at ha; cases ha
  · exact r.live
theorem RepO.live : ∀ {ds : List D} {os : List (Option V)} {F : List Addr}, RepO K L Fr H ds os F → ∀ a ∈ F, ∃ o, H a = some o
  | [], [], _, h => fun b hb => by rw [show _ = _ from h] at hb; cases hb
  | [], _ :: _, _, h => False.elim h
  | _ :: _, [], _, h => False.elim h
  | d :: ds, v :: vs, F, h => by
    obtain ⟨F1, F2, e, r1, r2⟩ := h
    intro b hb
    rw [e] at hb
    rcases List.mem_append.mp hb with z | z
    · exact r1.live b z
    · exact RepO.live r2 b z
theorem RepO.len : ∀ {ds : List D} {os : List (Option V)} {F : List Addr}, RepO K L Fr H ds os F → ds.length = os.length
  | [], [], _, _ => rfl
  | [], _ :: _, _, h => False.elim h
  | _ :: _, [], _, h => False.elim h
  | _ :: ds, _ :: os, _, ⟨_, _, _, _, r⟩ => congrArg Nat.succ (RepO.len r)
/-- one entry, the others -/
theorem RepO.focus : ∀ {ds : List D} {os : List (Option V)} {F : List Addr} (i : Nat) {d : D} {o : Option V}, RepO K L Fr H ds os F → ds[i]? = some d → os[i]? = some o →
    ∃ F1 F2, F.Perm (F1 ++ F2) ∧ RepS K L Fr H d o F1 ∧ ∀ d' o' G, RepS K L Fr H d' o' G → ∃ F', F'.Perm (G ++ F2) ∧ RepO K L Fr H (ds.set i d') (os.set i o') F'
  | [], _, _, _, _, _, _, h, _ => by simp at h
  | _ :: _, [], _, _, _, _, h, _, _ => False.elim h
  | d :: ds, o :: os, F, 0, d', o', h, e1, e2 => by
    obtain ⟨F1, F2, e, r1, r2⟩ := h
    have e1' : d = d' := by simpa using e1
    have e2' : o = o' := by simpa using e2
    subst e1' e2' e
    exact ⟨F1, F2, .refl _, r1, fun d' o' G r => ⟨G ++ F2, .refl _, G, F2, rfl, r, r2⟩⟩
  | d :: ds, o :: os, F, i + 1, d', o', h, e1, e2 => by
    obtain ⟨F1, F2, e, r1, r2⟩ := h
    obtain ⟨G1, G2, p, q1, q2⟩ := RepO.focus i r2 (by simpa using e1) (by simpa using e2)
    subst e
    refine ⟨G1, F1 ++ G2, ?_, q1, fun d' o' G r => ?_⟩
    · exact (List.Perm.append_left F1 p).trans (by rw [← List.append_assoc, ← List.append_assoc]; exact List.Perm.append_right _ List.perm_append_comm)
    · obtain ⟨F', p', r'⟩ := q2 d' o' G r
      refine ⟨F1 ++ F', ?_, F1, F', rfl, r1, r'⟩
      exact (List.Perm.append_left F1 p').trans (by rw [← List.append_assoc, ← List.append_assoc]; exact List.Perm.append_right _ List.perm_append_comm)

/-- L lent by the caller, B what is not to be touched (L within), Fr shared for good -/
structure Ok (K : PySem.W.Frag) (L B Fr H : Hp) (os : List (Option V)) (ds : List D) : Prop where
  fr : Sub Fr H
  br : Sub B H
  lb : Sub L B
  dj : ∀ a, Fr a = none ∨ B a = none
  rep : ∃ F, RepO K L Fr H ds os F ∧ F.Nodup ∧ ∀ a ∈ F, Fr a = none ∧ B a = none

theorem Ok.len {os : List (Option V)} {ds : List D} (x : Ok K L B Fr H os ds) : ds.length = os.length := let ⟨_, r, _⟩ := x.rep; r.len
theorem Ok.pop {o : Option V} {os : List (Option V)} {d : D} {ds : List D} (x : Ok K L B Fr H (o :: os) (d :: ds)) : Ok K L B Fr H os ds := by
  obtain ⟨F, ⟨F1, F2, e, r1, r2⟩, nd, k⟩ := x.rep
  subst e
  exact ⟨x.fr, x.br, x.lb, x.dj, F2, r2, (List.nodup_append.mp nd).2.1, fun a ha => k a (List.mem_append_right _ ha)⟩
theorem Ok.drop2 {o o' : Option V} {os : List (Option V)} {d d' : D} {ds : List D} (x : Ok K L B Fr H (o :: o' :: os) (d :: d' :: ds)) : Ok K L B Fr H (o :: os) (d :: ds) := by
  obtain ⟨F, ⟨F1, F2, e, r1, G1, G2, e2, q1, q2⟩, nd, k⟩ := x.rep
  subst e e2
  have nd1 := List.nodup_append.mp nd
  have nd2 := List.nodup_append.mp nd1.2.1
  refine ⟨x.fr, x.br, x.lb, x.dj, F1 ++ G2, ⟨F1, G2, rfl, r1, q2⟩, List.nodup_append.mpr ⟨nd1.1, nd2.2.1, fun a ha b hb => nd1.2.2 a ha b (List.mem_append_right _ hb)⟩, fun a ha => k a ?_⟩
  rcases List.mem_append.mp ha with z | z
  · exact List.mem_append_left _ z
  · exact List.mem_append_right _ (List.mem_append_right _ z)
theorem Ok.pushF {os : List (Option V)} {ds : List D} {d : D} {v : V} (x : Ok K L B Fr H os ds) (r : RepF K Fr d v) : Ok K L B Fr H (some v :: os) (d :: ds) := by
  obtain ⟨F, r2, nd, k⟩ := x.rep
  exact ⟨x.fr, x.br, x.lb, x.dj, F, ⟨[], F, rfl, .inr ⟨v, rfl, r.rep⟩, r2⟩, nd, k⟩
theorem Ok.push0 {os : List (Option V)} {ds : List D} {d : D} {v : V} (x : Ok K L B Fr H os ds) (r : Rep K L Fr H d v []) : Ok K L B Fr H (some v :: os) (d :: ds) := by
  obtain ⟨F, r2, nd, k⟩ := x.rep
  exact ⟨x.fr, x.br, x.lb, x.dj, F, ⟨[], F, rfl, .inr ⟨v, rfl, r⟩, r2⟩, nd, k⟩
theorem Ok.top {os : List (Option V)} {ds : List D} {d : D} {v : V} (x : Ok K L B Fr H (some v :: os) (d :: ds)) (h : d ≠ .unset) : ∃ F, Rep K L Fr H d v F := by
  obtain ⟨F, ⟨F1, F2, e, r1, r2⟩, nd, k⟩ := x.rep
  rcases r1 with ⟨z, _⟩ | ⟨w, ew, r⟩
  · exact absurd z h
  · cases ew
    exact ⟨F1, r⟩
theorem Ok.topF {os : List (Option V)} {ds : List D} {d : D} {v : V} (x : Ok K L B Fr H (some v :: os) (d :: ds)) (h : d.isFz = true) : RepF K Fr d v := by
  obtain ⟨F, r⟩ := x.top (by rintro rfl; cases h)
  exact (r.fz h).2
theorem getElem_os {os : List (Option V)} {ds : List D} {i : Nat} {d : D} (h : ds.length = os.length) (e : ds[i]? = some d) : ∃ o, os[i]? = some o := by
  have hi : i < ds.length := (List.getElem?_eq_some_iff.mp e).1
  exact ⟨os[i]'(by omega), List.getElem?_eq_getElem _⟩
/-- an entry is read -/
theorem Ok.lookAt {os : List (Option V)} {ds : List D} {i : Nat} {d : D} (x : Ok K L B Fr H os ds) (e : ds[i]? = some d) (h : d ≠ .unset) : ∃ v, os[i]? = some (some v) ∧ Ok K L B Fr H (some v :: os) (d.look :: ds) := by
  obtain ⟨o, eo⟩ := getElem_os x.len e
  obtain ⟨F, r, nd, k⟩ := x.rep
  obtain ⟨F1, F2, p, q, _⟩ := r.focus i e eo
  rcases q with ⟨z, _⟩ | ⟨v, ev, q⟩
  · exact absurd z h
  · subst ev
    exact ⟨v, eo, x.push0 q.look⟩
theorem perm_nodup {F G : List Addr} (p : F.Perm G) (h : F.Nodup) : G.Nodup := p.nodup_iff.mp h
/-- an entry is moved out -/
theorem Ok.out {os : List (Option V)} {ds : List D} {i : Nat} {d : D} (x : Ok K L B Fr H os ds) (e : ds[i]? = some d) (h : d ≠ .unset) : ∃ v, os[i]? = some (some v) ∧ Ok K L B Fr H (some v :: os) (d :: ds.set i .unset) := by
  obtain ⟨o, eo⟩ := getElem_os x.len e
  obtain ⟨F, r, nd, k⟩ := x.rep
  obtain ⟨F1, F2, p, q, s⟩ := r.focus i e eo
  rcases q with ⟨z, _⟩ | ⟨v, ev, q⟩
  · exact absurd z h
  · subst ev
    obtain ⟨F', p', r'⟩ := s .unset (some v) [] (.inl ⟨rfl, rfl⟩)
    have eo' : os.set i (some v) = os := by
      obtain ⟨hi, e'⟩ := List.getElem?_eq_some_iff.mp eo
      rw [← e']
      exact List.set_getElem_self hi
    rw [eo'] at r'
    have pp : F.Perm (F1 ++ F') := p.trans (List.Perm.append_left F1 p'.symm)
    refine ⟨v, eo, x.fr, x.br, x.lb, x.dj, F1 ++ F', ⟨F1, F', rfl, .inr ⟨v, rfl, q⟩, r'⟩, perm_nodup pp nd, fun a ha => k a (pp.mem_iff.mpr ha)⟩
/-- a value is stored -/
theorem Ok.into {os : List (Option V)} {ds : List D} {i : Nat} {d : D} {v : V} (x : Ok K L B Fr H (some v :: os) (d :: ds)) (hi : i < ds.length) : Ok K L B Fr H (os.set i (some v)) (ds.set i d) := by
  obtain ⟨F, ⟨F1, F2, e, r1, r2⟩, nd, k⟩ := x.rep
  subst e
  have hl := r2.len
  obtain ⟨G1, G2, p, q, s⟩ := r2.focus i (d := ds[i]) (o := os[i]'(by omega)) (List.getElem?_eq_getElem _) (List.getElem?_eq_getElem _)
  obtain ⟨F', p', r'⟩ := s d (some v) F1 r1
  have pp : (F1 ++ F2).Perm (G1 ++ F') := (List.Perm.append_left F1 p).trans (by
    refine List.Perm.trans ?_ (List.Perm.append_left G1 p'.symm)
    rw [← List.append_assoc, ← List.append_assoc]
    exact List.Perm.append_right _ List.perm_append_comm)
  have nd' := perm_nodup pp nd
  exact ⟨x.fr, x.br, x.lb, x.dj, F', r', (List.nodup_append.mp nd').2.1, fun a ha => k a (pp.mem_iff.mpr (List.mem_append_right _ ha))⟩
/-- the entry stands already -/
theorem set_same {os : List (Option V)} {i : Nat} {o : Option V} (h : os[i]? = some o) : os.set i o = os := by
  obtain ⟨hi, e'⟩ := List.getElem?_eq_some_iff.mp h
  rw [← e']
  exact List.set_getElem_self hi
theorem Ok.back {os : List (Option V)} {ds : List D} {i : Nat} {d : D} {v : V} (x : Ok K L B Fr H (some v :: os) (d :: ds)) (h : os[i]? = some (some v)) : Ok K L B Fr H os (ds.set i d) := by
  have hl := x.len
  have hi : i < os.length := (List.getElem?_eq_some_iff.mp h).1
  have y := x.into (i := i) (by simp only [List.length_cons] at hl; omega)
  rwa [set_same h] at y
/-- the top entry becomes shared -/
theorem Ok.pull {os : List (Option V)} {ds : List D} {d : D} {v : V} (x : Ok K L B Fr H (some v :: os) (d :: ds)) (c : d.canFz = true) : ∃ Fr', Sub Fr Fr' ∧ RepF K Fr' d.frz v ∧ Ok K L B Fr' H os ds := by
  obtain ⟨F, ⟨F1, F2, e, r1, r2⟩, nd, k⟩ := x.rep
  subst e
  rcases r1 with ⟨z, _⟩ | ⟨w, ew, r⟩
  · subst z; cases c
  · cases ew
    have nd' := List.nodup_append.mp nd
    refine ⟨plus Fr H F1, sub_plus x.fr, r.frz x.fr c (fun _ h => h), plus_sub x.fr, x.br, x.lb, fun a => ?_, F2, r2.keep (Sub.refl _) (sub_plus x.fr) (fun _ _ _ q => q) (.inr (Sub.refl _)), nd'.2.1, fun a ha => ⟨?_, (k a (List.mem_append_right _ ha)).2⟩⟩
    · by_cases m : a ∈ F1
      · exact .inr (k a (List.mem_append_left _ m)).2
      · rw [plus_out m]
        exact x.dj a
    · rw [plus_out fun m => nd'.2.2 a m a ha rfl]
      exact (k a (List.mem_append_right _ ha)).1
/-- more is shared, or H grows -/
theorem Ok.grow {os : List (Option V)} {ds : List D} {H' : Hp} (x : Ok K L B Fr H os ds) (s : Sub H H') : Ok K L B Fr H' os ds := by
  obtain ⟨F, r, nd, k⟩ := x.rep
  exact ⟨x.fr.trans s, x.br.trans s, x.lb, x.dj, F, r.keep (Sub.refl _) (Sub.refl _) (fun a _ o q => s a o q) (.inr s), nd, k⟩
theorem sub_upd {p : Addr} {o : HO} (h : H p = none) : Sub H (upd H p o) := fun a u e => by
  rw [upd_ne (ne_of_none e h)]
  exact e
theorem none_sub {A : Hp} (s : Sub A H) {p : Addr} (h : H p = none) : A p = none := by
  cases e : A p with
  | none => rfl
  | some o => rw [s _ _ e] at h; cases h
/-- a new object, shared -/
theorem Ok.newF {os : List (Option V)} {ds : List D} {p : Addr} {o : HO} (x : Ok K L B Fr H os ds) (h : H p = none) : Sub Fr (upd Fr p o) ∧ Ok K L B (upd Fr p o) (upd H p o) os ds := by
  have hf := none_sub x.fr h
  have hb := none_sub x.br h
  obtain ⟨F, r, nd, k⟩ := x.rep
  refine ⟨sub_upd hf, ⟨fun a u e => ?_, x.br.trans (sub_upd h), x.lb, fun a => ?_, F, r.keep (Sub.refl _) (sub_upd hf) (fun a _ o q => sub_upd h a o q) (.inr (sub_upd h)), nd, fun a ha => ⟨?_, (k a ha).2⟩⟩⟩
  · by_cases z : a = p
    · subst z; rw [upd_same] at e ⊢; exact e
    · rw [upd_ne z] at e ⊢; exact x.fr _ _ e
  · by_cases z : a = p
    · subst z; exact .inr hb
    · rw [upd_ne z]; exact x.dj a
  · obtain ⟨u, e⟩ := r.live a ha
    rw [upd_ne (ne_of_none e h)]
    exact (k a ha).1
/-- a new list (or instance), owned -/
theorem Ok.newO {os : List (Option V)} {ds : List D} {p : Addr} {o : HO} {d : D} (x : Ok K L B Fr H os ds) (h : H p = none) (r : Rep K L Fr (upd H p o) d (.ref p) [p]) : Ok K L B Fr (upd H p o) (some (.ref p) :: os) (d :: ds) := by
  have y := x.grow (sub_upd (o := o) h)
  obtain ⟨F, r2, nd, k⟩ := x.rep
  refine ⟨y.fr, y.br, x.lb, x.dj, [p] ++ F, ⟨[p], F, rfl, .inr ⟨_, rfl, r⟩, r2.keep (Sub.refl _) (Sub.refl _) (fun a _ o q => sub_upd h a o q) (.inr (sub_upd h))⟩, ?_, fun a ha => ?_⟩
  · refine List.nodup_append.mpr ⟨(by simp), nd, fun a ha b hb e => ?_⟩
    have : a = p := by simpa using ha
    subst this e
    obtain ⟨u, q⟩ := r2.live a hb
    rw [h] at q; cases q
  · rcases List.mem_append.mp ha with z | z
    · have : a = p := by simpa using z
      subst this
      exact ⟨none_sub x.fr h, none_sub x.br h⟩
    · exact k a z
/-- the owned list on top is changed -/
theorem Ok.change {os : List (Option V)} {ds es es' : List D} {p : Addr} {vs' : List V} (x : Ok K L B Fr H (some (.ref p) :: os) (D.own es :: ds)) (st : stbs ds = true) (r : RepFs K Fr es' vs') : Ok K L B Fr (upd H p (.lst vs')) (some (.ref p) :: os) (D.own es' :: ds) := by
  obtain ⟨F, ⟨F1, F2, e, r1, r2⟩, nd, k⟩ := x.rep
  subst e
  rcases r1 with ⟨z, _⟩ | ⟨w, ew, r1⟩
  · cases z
  · cases ew
    obtain ⟨a, vs, ea, eF, q, _⟩ := r1
    cases ea
    subst eF
    have kp := k p (List.mem_append_left _ List.mem_cons_self)
    have nd' := List.nodup_append.mp nd
    have np : p ∉ F2 := fun m => nd'.2.2 p List.mem_cons_self p m rfl
    have sf : Sub Fr (upd H p (.lst vs')) := fun a o e => by
      rw [upd_ne (fun z => by subst z; rw [kp.1] at e; cases e)]; exact x.fr _ _ e
    have sb : Sub B (upd H p (.lst vs')) := fun a o e => by
      rw [upd_ne (fun z => by subst z; rw [kp.2] at e; cases e)]; exact x.br _ _ e
    refine ⟨sf, sb, x.lb, x.dj, [p] ++ F2, ⟨[p], F2, rfl, .inr ⟨_, rfl, p, vs', rfl, rfl, ⟨upd_same, rfl⟩, r⟩, r2.keep (Sub.refl _) (Sub.refl _) (fun a ha o q => ?_) (.inl st)⟩, nd, k⟩
    rw [upd_ne (fun z : a = p => np (by rw [← z]; exact ha))]
    exact q
/-- what the owned list on top is -/
theorem Ok.ownAt {os : List (Option V)} {ds es : List D} {t : Bool} {v : V} (x : Ok K L B Fr H (some v :: os) (.seq t .own es :: ds)) : t = false ∧ ∃ p vs, v = .ref p ∧ H p = some (.lst vs) ∧ RepFs K Fr es vs := by
  obtain ⟨F, r⟩ := x.top (by intro z; cases z)
  obtain ⟨a, vs, e, eF, q, r⟩ := r
  exact ⟨q.2, a, vs, e, q.1, r⟩
/-- an entry on top is set aside -/
theorem Ok.hide {o : Option V} {os : List (Option V)} {d : D} {ds : List D} (x : Ok K L B Fr H (o :: os) (d :: ds)) : ∃ B', Sub B B' ∧ Ok K L B' Fr H os ds ∧
    ∀ {Fr' H' : Hp} {os' : List (Option V)} {ds' : List D}, Sub Fr Fr' → (d.stb = true ∨ Sub H H') → Ok K L B' Fr' H' os' ds' → Ok K L B Fr' H' (o :: os') (d :: ds') := by
  obtain ⟨F, ⟨F1, F2, e, r1, r2⟩, nd, k⟩ := x.rep
  subst e
  have nd' := List.nodup_append.mp nd
  have sB : Sub B (plus B H F1) := sub_plus x.br
  refine ⟨plus B H F1, sB, ⟨x.fr, plus_sub x.br, x.lb.trans sB, fun a => ?_, F2, r2, nd'.2.1, fun a ha => ⟨(k a (List.mem_append_right _ ha)).1, ?_⟩⟩, ?_⟩
  · by_cases m : a ∈ F1
    · exact .inl (k a (List.mem_append_left _ m)).1
    · rw [plus_out m]; exact x.dj a
  · rw [plus_out fun m => nd'.2.2 a m a ha rfl]
    exact (k a (List.mem_append_right _ ha)).2
  · intro Fr' H' os' ds' sF st y
    obtain ⟨G, q, ndG, kG⟩ := y.rep
    have inB : ∀ a ∈ F1, ∃ u, plus B H F1 a = some u ∧ H a = some u := fun a ha => by
      obtain ⟨u, hu⟩ := r1.live a ha
      exact ⟨u, by rw [plus_in ha]; exact hu, hu⟩
    have fr0 : ∀ a ∈ F1, Fr' a = none := fun a ha => by
      obtain ⟨u, hu, _⟩ := inB a ha
      rcases y.dj a with z | z
      · exact z
      · rw [hu] at z; cases z
    have k1 : ∀ a ∈ F1, ∀ o, H a = some o → H' a = some o := fun a ha u hu => y.br a u (by rw [plus_in ha]; exact hu)
    refine ⟨y.fr, fun a u e => y.br a u (sB a u e), x.lb, fun a => ?_, F1 ++ G, ⟨F1, G, rfl, r1.keep (Sub.refl _) sF k1 st, q⟩, ?_, fun a ha => ?_⟩
    · rcases y.dj a with z | z
      · exact .inl z
      · by_cases m : a ∈ F1
        · exact .inl (fr0 a m)
        · rw [plus_out m] at z; exact .inr z
    · refine List.nodup_append.mpr ⟨nd'.1, ndG, fun a ha b hb e => ?_⟩
      subst e
      obtain ⟨u, hu, _⟩ := inB a ha
      rw [(kG a hb).2] at hu
      cases hu
    · rcases List.mem_append.mp ha with z | z
      · exact ⟨fr0 a z, (k a (List.mem_append_left _ z)).2⟩
      · refine ⟨(kG a z).1, ?_⟩
        cases q2 : B a with
        | none => rfl
        | some u =>
          have q3 := (kG a z).2
          rw [sB _ _ q2] at q3
          cases q3
end Ev

/-! C3: what code computes, on plain data; judgements. -/
namespace Ev
open PySem PySem.Spec L2
open PyProof.Rows hiding St

structure Exn where
  cls : Str
  ns : List Str
  ds : List D
/-- an end: a result, an error with the names' data at that time, or no statement -/
inductive Out (α : Type) where
  | ok (a : α)
  | exc (e : Exn) (r : List D)
  | stuck
def Out.bind {α β : Type} (x : Out α) (f : α → Out β) : Out β := match x with
  | .ok a => f a
  | .exc e r => .exc e r
  | .stuck => .stuck
@[simp] theorem Out.bind_ok {α β : Type} (a : α) (f : α → Out β) : (Out.ok a).bind f = f a := rfl
@[simp] theorem Out.bind_exc {α β : Type} (e : Exn) (r : List D) (f : α → Out β) : (Out.exc e r).bind f = .exc e r := rfl
@[simp] theorem Out.bind_stuck {α β : Type} (f : α → Out β) : Out.stuck.bind f = .stuck := rfl
/-- a result without names -/
def give (x : Option D) (ρ : List D) : Out (D × List D) := match x with
  | some d => .ok (d, ρ)
  | none => .stuck
@[simp] theorem give_some (d : D) (ρ : List D) : give (some d) ρ = .ok (d, ρ) := rfl
@[simp] theorem give_none (ρ : List D) : give none ρ = .stuck := rfl

/-- an expression: pu: it leaves all as it is (but for new objects) -/
structure Ex where
  pu : Bool
  f : List D → Out (D × List D)
def pus : List Ex → Bool
  | [] => true
  | x :: xs => x.pu && pus xs
/-- several, from the left -/
def evs : List Ex → List D → Out (List D × List D)
  | [], ρ => .ok ([], ρ)
  | x :: xs, ρ => (x.f ρ).bind fun r => if (r.1.stb || pus xs) = true then (evs xs r.2).bind fun q => .ok (r.1 :: q.1, q.2) else .stuck
inductive Fl where
  | next
  | ret (d : D)
  | brk
  | cont
abbrev Blk := List D → Out (Fl × List D)

section
variable (K : PySem.W.Frag) (L : Hp)
def ExnAt (Fr : Hp) (cls : Value) (dx : Option Addr) (e : Exn) : Prop := cls = .ref (He.ga K e.cls) ∧
  ((e.ns = [] ∧ e.ds = []) ∨ ∃ d fvs, dx = some d ∧ Fr d = some (.xd fvs) ∧ fvs.map (·.1) = e.ns ∧ RepFs K Fr e.ds (fvs.map (·.2)))
/-- what an error asks -/
def Err (W : WX) (B Fr : Hp) (σ : St) (e : Exn) (ρ : List D) : Prop := ∀ cls dx H' Fr', Sub Fr Fr' → stbs ρ = true → Ok K L B Fr' H' σ ρ → ExnAt K Fr' cls dx e → W cls dx σ H'
def tE (W : WX) (x : Ex) : TE := fun σ H Q => ∃ B Fr ρ, Ok K L B Fr H σ ρ ∧ stbs ρ = true ∧ match x.f ρ with
  | .ok r => ∀ v H' Fr', Sub Fr Fr' → (x.pu = true → Sub H H') → stbs r.2 = true → Ok K L B Fr' H' (some v :: σ) (r.1 :: r.2) → Q v H'
  | .exc e r => Err K L W B Fr σ e r
  | .stuck => False
def tAs (W : WX) (xs : List Ex) : TA := fun σ H Q => ∃ B Fr ρ, Ok K L B Fr H σ ρ ∧ stbs ρ = true ∧ match evs xs ρ with
  | .ok r => ∀ vs H' Fr', vs.length = r.1.length → Sub Fr Fr' → (pus xs = true → Sub H H') → stbs r.2 = true → Ok K L B Fr' H' (vs.map some ++ σ) (r.1 ++ r.2) → Q vs H'
  | .exc e r => Err K L W B Fr σ e r
  | .stuck => False
def truth : D → Option Bool
  | .non => some false
  | .bl b => some b
  | .int i => some (i != 0)
  | .str x => some ((x.length : Int) != 0)
  | .seq _ _ ds => some (!ds.isEmpty)
  | _ => none
def tT (W : WX) (x : Ex) : TT := fun σ H Q => ∃ B Fr ρ, Ok K L B Fr H σ ρ ∧ stbs ρ = true ∧ match x.f ρ with
  | .ok r => ∃ b, truth r.1 = some b ∧ ∀ H' Fr', Sub Fr Fr' → (x.pu = true → Sub H H') → stbs r.2 = true → Ok K L B Fr' H' σ r.2 → Q b H'
  | .exc e r => Err K L W B Fr σ e r
  | .stuck => False
/-- the slots that keep their values -/
def Agree (fx : List Nat) (σ σ' : St) : Prop := ∀ i ∈ fx, σ'[i]? = σ[i]?
def ErrS (fx : List Nat) (W : WX) (B Fr : Hp) (σ : St) (e : Exn) (ρ : List D) : Prop := ∀ cls dx σ' H' Fr', Sub Fr Fr' → Agree fx σ σ' → stbs ρ = true → Ok K L B Fr' H' σ' ρ → ExnAt K Fr' cls dx e → W cls dx σ' H'
def tS (fx : List Nat) (W : WX) (b : Blk) : TS := fun D σ H => ∃ B Fr ρ, Ok K L B Fr H σ ρ ∧ stbs ρ = true ∧ match b ρ with
  | .ok (.next, r) => ∀ σ' H' Fr', Sub Fr Fr' → Agree fx σ σ' → stbs r = true → Ok K L B Fr' H' σ' r → D.nx σ' H'
  | .ok (.ret d, r) => ∀ v σ' H' Fr', Sub Fr Fr' → Agree fx σ σ' → stbs r = true → Ok K L B Fr' H' (some v :: σ') (d :: r) → D.rt v H'
  | .ok (.brk, r) => ∀ σ' H' Fr', Sub Fr Fr' → Agree fx σ σ' → stbs r = true → Ok K L B Fr' H' σ' r → D.bk σ' H'
  | .ok (.cont, r) => ∀ σ' H' Fr', Sub Fr Fr' → Agree fx σ σ' → stbs r = true → Ok K L B Fr' H' σ' r → D.ct σ' H'
  | .exc e r => ErrS K L fx W B Fr σ e r
  | .stuck => False
end
def Pure (x : Ex) : Prop := x.pu = true → ∀ ρ r, x.f ρ = .ok r → r.2 = ρ
structure SE (X : Cx) (L : Hp) (W : WX) (e : Expr) (x : Ex) : Prop where
  run : PE X e (tE X.K L W x)
  pu : Pure x
structure SA (X : Cx) (L : Hp) (W : WX) (es : List Expr) (xs : List Ex) : Prop where
  run : PA X es (tAs X.K L W xs)
  pu : ∀ x ∈ xs, Pure x
structure ST (X : Cx) (L : Hp) (W : WX) (e : Expr) (x : Ex) : Prop where
  run : PT X e (tT X.K L W x)
  pu : Pure x
structure SW (X : Cx) (L : Hp) (W : WX) (e : Expr) (x : Ex) : Prop where
  run : PW X e (tT X.K L W x)
  pu : Pure x
structure SS (X : Cx) (L : Hp) (fx : List Nat) (W : WX) (s : Stmt) (b : Blk) : Prop where
  run : PS X s (tS X.K L fx W b)
structure SB (X : Cx) (L : Hp) (fx : List Nat) (W : WX) (s : List Stmt) (b : Blk) : Prop where
  run : PSs X s (tS X.K L fx W b)

/-! ### weakening -/
theorem _root_.L2.PE.imp {X : Cx} {e : Expr} {t u : TE} (h : PE X e t) (k : ∀ σ H Q, u σ H Q → t σ H Q) : PE X e u := ⟨fun pins s σ H Q I w => h.run pins s σ H Q I (k σ H Q w)⟩
theorem _root_.L2.PT.imp {X : Cx} {e : Expr} {t u : TT} (h : PT X e t) (k : ∀ σ H Q, u σ H Q → t σ H Q) : PT X e u := ⟨fun pins s σ H Q I w => h.run pins s σ H Q I (k σ H Q w)⟩
theorem _root_.L2.PW.imp {X : Cx} {e : Expr} {t u : TT} (h : PW X e t) (k : ∀ σ H Q, u σ H Q → t σ H Q) : PW X e u := ⟨fun wh pins s σ H Q I w => h.run wh pins s σ H Q I (k σ H Q w)⟩
theorem _root_.L2.PA.imp {X : Cx} {es : List Expr} {t u : TA} (h : PA X es t) (k : ∀ σ H Q, u σ H Q → t σ H Q) : PA X es u := ⟨fun pos pins s σ H Q I w => h.run pos pins s σ H Q I (k σ H Q w)⟩
theorem _root_.L2.PS.imp {X : Cx} {e : Stmt} {t u : TS} (h : PS X e t) (k : ∀ D σ H, u D σ H → t D σ H) : PS X e u := ⟨fun pins s σ H D I w => h.run pins s σ H D I (k D σ H w)⟩
theorem _root_.L2.PSs.imp {X : Cx} {e : List Stmt} {t u : TS} (h : PSs X e t) (k : ∀ D σ H, u D σ H → t D σ H) : PSs X e u := ⟨fun pins s σ H D I w => h.run pins s σ H D I (k D σ H w)⟩

section
variable {K : PySem.W.Frag} {L : Hp} {W : WX} {fx : List Nat}
theorem tE.mono {x : Ex} {σ : St} {H : Hp} {Q Q' : VK} (h : tE K L W x σ H Q) (k : ∀ v H, Q v H → Q' v H) : tE K L W x σ H Q' := by
  obtain ⟨B, Fr, ρ, ok, st, h⟩ := h
  refine ⟨B, Fr, ρ, ok, st, ?_⟩
  cases e : x.f ρ with
  | ok r => rw [e] at h; exact fun v H' Fr' a b c d => k _ _ (h v H' Fr' a b c d)
  | exc ex r => rw [e] at h; exact h
  | stuck => rw [e] at h; exact h
theorem Ok.lessB {B B' Fr H : Hp} {os : List (Option V)} {ds : List D} (x : Ok K L B' Fr H os ds) (s : Sub B B') (l : Sub L B) : Ok K L B Fr H os ds := by
  have nn : ∀ a, B' a = none → B a = none := fun a h => none_sub s h
  obtain ⟨F, r, nd, k⟩ := x.rep
  exact ⟨x.fr, s.trans x.br, l, fun a => (x.dj a).imp id (nn a), F, r, nd, fun a ha => ⟨(k a ha).1, nn a (k a ha).2⟩⟩
theorem Err.more {B B' Fr Fr1 : Hp} {σ : St} {e : Exn} {ρ : List D} (h : Err K L W B Fr σ e ρ) (s : Sub B B') (l : Sub L B) (sf : Sub Fr Fr1) : Err K L W B' Fr1 σ e ρ :=
  fun cls dx H' Fr' a b c d => h cls dx H' Fr' (sf.trans a) b (c.lessB s l) d

/-- the first of several -/
theorem tAs_cons {x : Ex} {xs : List Ex} {σ : St} {H : Hp} {Q : List V → Hp → Prop} (h : tAs K L W (x :: xs) σ H Q) : tE K L W x σ H fun v H1 => tAs K L W xs σ H1 fun vs H2 => Q (v :: vs) H2 := by
  obtain ⟨B, Fr, ρ, ok, st, h⟩ := h
  refine ⟨B, Fr, ρ, ok, st, ?_⟩
  unfold evs at h
  cases e : x.f ρ with
  | exc ex r => rw [e] at h; exact h
  | stuck => rw [e] at h; exact h
  | ok r =>
    rw [e, Out.bind_ok] at h
    by_cases c : (r.1.stb || pus xs) = true
    · rw [if_pos c] at h
      intro v H1 Fr1 sf pu st1 ok1
      obtain ⟨B', sB, ok2, back⟩ := ok1.hide
      refine ⟨B', Fr1, r.2, ok2, st1, ?_⟩
      cases e2 : evs xs r.2 with
      | exc ex r' => rw [e2] at h; exact Err.more h sB ok.lb sf
      | stuck => rw [e2] at h; exact h
      | ok q =>
        rw [e2, Out.bind_ok] at h
        intro vs H2 Fr2 hl sf2 pu2 st2 ok3
        refine h (v :: vs) H2 Fr2 (by simp [hl]) (sf.trans sf2) (fun z => ?_) st2 ?_
        · have z' := Bool.and_eq_true_iff.mp (show (x.pu && pus xs) = true from z)
          exact (pu z'.1).trans (pu2 z'.2)
        · refine back sf2 ?_ ok3
          rcases Bool.or_eq_true_iff.mp c with z | z
          · exact .inl z
          · exact .inr (pu2 z)
    · rw [if_neg c] at h
      exact h.elim
theorem tAs_nil {σ : St} {H : Hp} {Q : List V → Hp → Prop} (h : tAs K L W [] σ H Q) : Q [] H := by
  obtain ⟨B, Fr, ρ, ok, st, h⟩ := h
  exact h [] H Fr rfl (Sub.refl _) (fun _ => Sub.refl _) st ok
theorem evs_pure : ∀ {xs : List Ex}, (∀ x ∈ xs, Pure x) → pus xs = true → ∀ ρ r, evs xs ρ = .ok r → r.2 = ρ
  | [], _, _, ρ, r, e => by
    have e' : (Out.ok (([] : List D), ρ)) = .ok r := e
    injection e' with e'
    rw [← e']
  | x :: xs, hp, h, ρ, r, e => by
    have h' := Bool.and_eq_true_iff.mp (show (x.pu && pus xs) = true from h)
    unfold evs at e
    cases e1 : x.f ρ with
    | exc ex r => rw [e1] at e; cases e
    | stuck => rw [e1] at e; cases e
    | ok q =>
      rw [e1, Out.bind_ok] at e
      have q2 := hp x List.mem_cons_self h'.1 ρ q e1
      split at e
      · cases e2 : evs xs q.2 with
        | exc ex r => rw [e2] at e; cases e
        | stuck => rw [e2] at e; cases e
        | ok z =>
          rw [e2, Out.bind_ok] at e
          injection e with e
          rw [← e]
          show z.2 = ρ
          rw [evs_pure (fun y hy => hp y (List.mem_cons_of_mem _ hy)) h'.2 _ _ e2, q2]
      · cases e
end
section
variable {X : Cx} {L : Hp} {W : WX} {e : Expr} {es : List Expr} {x : Ex} {xs : List Ex}
theorem sa_nil : SA X L W [] [] := ⟨pa_nil.imp fun _ _ _ h => tAs_nil h, fun _ h => by cases h⟩
theorem sa_cons (h : SE X L W e x) (t : SA X L W es xs) (hs : starEach (e :: es) X.env = (false, eval e X.env) :: starEach es X.env := by rfl) : SA X L W (e :: es) (x :: xs) :=
  ⟨(pa_cons h.run t.run hs).imp fun _ _ _ q => tAs_cons q, fun y hy => by
    rcases List.mem_cons.mp hy with z | z
    · rw [z]; exact h.pu
    · exact t.pu y z⟩
end

/-! ### an operation by values -/
def eOp (op : List D → Option D) (xs : List Ex) : Ex := ⟨pus xs, fun ρ => (evs xs ρ).bind fun r => give (op r.1) r.2⟩
theorem eOp_pure {op : List D → Option D} {xs : List Ex} (h : ∀ x ∈ xs, Pure x) : Pure (eOp op xs) := fun pu ρ r e => by
  have e' : (evs xs ρ).bind (fun r => give (op r.1) r.2) = .ok r := e
  cases e1 : evs xs ρ with
  | exc ex r => rw [e1] at e'; cases e'
  | stuck => rw [e1] at e'; cases e'
  | ok q =>
    rw [e1, Out.bind_ok] at e'
    have q2 := evs_pure h pu ρ q e1
    cases e2 : op q.1 with
    | some d => rw [e2] at e'; injection e' with e'; rw [← e']; exact q2
    | none => rw [e2] at e'; cases e'
/-- op says what r asks -/
def OpS (K : PySem.W.Frag) (L : Hp) (op : List D → Option D) (r : List V → Hp → VK → Prop) : Prop :=
  ∀ (B Fr H : Hp) (σ : St) (ρ ds : List D) (vs : List V) (Q : VK) (d : D), Ok K L B Fr H (vs.map some ++ σ) (ds ++ ρ) → vs.length = ds.length → op ds = some d →
    (∀ v H' Fr', Sub Fr Fr' → Sub H H' → Ok K L B Fr' H' (some v :: σ) (d :: ρ) → Q v H') → r vs H Q
section
variable {K : PySem.W.Frag} {L : Hp} {W : WX}
theorem eOp_tAs {op : List D → Option D} {r : List V → Hp → VK → Prop} {xs : List Ex} {σ : St} {H : Hp} {Q : VK} (o : OpS K L op r) (h : tE K L W (eOp op xs) σ H Q) : tAs K L W xs σ H fun vs H1 => r vs H1 Q := by
  obtain ⟨B, Fr, ρ, ok, st, h⟩ := h
  refine ⟨B, Fr, ρ, ok, st, ?_⟩
  have h' : (match (evs xs ρ).bind (fun r => give (op r.1) r.2) with
    | .ok r => ∀ v H' Fr', Sub Fr Fr' → (pus xs = true → Sub H H') → stbs r.2 = true → Ok K L B Fr' H' (some v :: σ) (r.1 :: r.2) → Q v H'
    | .exc e r => Err K L W B Fr σ e r
    | .stuck => False) := h
  cases e : evs xs ρ with
  | exc ex r => rw [e] at h'; exact h'
  | stuck => rw [e] at h'; exact h'
  | ok q =>
    rw [e, Out.bind_ok] at h'
    intro vs H1 Fr1 hl sf pu st1 ok1
    cases e2 : op q.1 with
    | some d =>
      rw [e2] at h'
      exact o B Fr1 H1 σ q.2 q.1 vs Q d ok1 hl e2 fun v H' Fr' sf' sh ok' => h' v H' Fr' (sf.trans sf') (fun p => (pu p).trans sh) st1 ok'
    | none => rw [e2] at h'; exact h'.elim
/-- .. of two, three places -/
theorem eOp_two {op : List D → Option D} {r : List V → Hp → VK → Prop} {x y : Ex} {σ : St} {H : Hp} {Q : VK} (o : OpS K L op r) (h : tE K L W (eOp op [x, y]) σ H Q) : tE K L W x σ H fun v H1 => tE K L W y σ H1 fun w H2 => r [v, w] H2 Q :=
  (tAs_cons (eOp_tAs o h)).mono fun _ _ q => (tAs_cons q).mono fun _ _ q => tAs_nil q
theorem eOp_one {op : List D → Option D} {r : List V → Hp → VK → Prop} {x : Ex} {σ : St} {H : Hp} {Q : VK} (o : OpS K L op r) (h : tE K L W (eOp op [x]) σ H Q) : tE K L W x σ H fun v H1 => r [v] H1 Q :=
  (tAs_cons (eOp_tAs o h)).mono fun _ _ q => tAs_nil q
theorem OpS.imp {op : List D → Option D} {r r' : List V → Hp → VK → Prop} (h : OpS K L op r) (k : ∀ vs H Q, r vs H Q → r' vs H Q) : OpS K L op r' := fun B Fr H σ ρ ds vs Q d ok hl e q => k _ _ _ (h B Fr H σ ρ ds vs Q d ok hl e q)
end
section
variable {X : Cx} {L : Hp} {W : WX} {a b c : Expr} {es : List Expr} {x y z : Ex} {xs : List Ex} {op : List D → Option D} {pos : Pos}
theorem pure2 (h1 : Pure x) (h2 : Pure y) : ∀ w ∈ [x, y], Pure w := fun w hw => by
  rcases List.mem_cons.mp hw with e | hw
  · rw [e]; exact h1
  · rcases List.mem_cons.mp hw with e | hw
    · rw [e]; exact h2
    · cases hw
theorem pure1 (h1 : Pure x) : ∀ w ∈ [x], Pure w := fun w hw => by
  rcases List.mem_cons.mp hw with e | hw
  · rw [e]; exact h1
  · cases hw
def R2v (r : R2) : List V → Hp → VK → Prop := fun vs H Q => ∃ v w, vs = [v, w] ∧ r v w H Q
def R1v (r : V → Hp → VK → Prop) : List V → Hp → VK → Prop := fun vs H Q => ∃ v, vs = [v] ∧ r v H Q
/-- a op b -/
theorem se_bin {o : Operator} {r : R2} (hr : OpR X (binaryOp o) r) (os : OpS X.K L op (R2v r)) (ha : SE X L W a x) (hb : SE X L W b y) : SE X L W (.BinOp a o b pos) (eOp op [x, y]) :=
  ⟨(pe_op hr ha.run hb.run).imp fun _ _ _ h => (eOp_two os h).mono fun _ _ h => h.mono fun _ _ ⟨_, _, e, q⟩ => by cases e; exact q, eOp_pure (pure2 ha.pu hb.pu)⟩
theorem se_cmp {o : CmpOp} {r : R2} (hr : OpR X (compareOp o) r) (os : OpS X.K L op (R2v r)) (ha : SE X L W a x) (hb : SE X L W b y) (hm : behindInMarks o b = false) : SE X L W (.Compare a [o] [b] pos) (eOp op [x, y]) :=
  ⟨(pe_cmpR hr ha.run hb.run hm).imp fun _ _ _ h => (eOp_two os h).mono fun _ _ h => h.mono fun _ _ ⟨_, _, e, q⟩ => by cases e; exact q, eOp_pure (pure2 ha.pu hb.pu)⟩
theorem se_un {o : UnaryOp} {r : V → Hp → VK → Prop} (hr : UnR X (unaryOp o) r) (os : OpS X.K L op (R1v r)) (ha : SE X L W a x) : SE X L W (.UnaryOp o a pos) (eOp op [x]) :=
  ⟨(pe_un hr ha.run).imp fun _ _ _ h => (eOp_one os h).mono fun _ _ ⟨_, e, q⟩ => by cases e; exact q, eOp_pure (pure1 ha.pu)⟩
/-- a built-in function, a built-in type called -/
theorem se_callB {f : Str} {p : Pos} {id : String} {r : List V → Hp → VK → Prop} (hr : CallR X (.builtin id) r) (os : OpS X.K L op r) (hg : Gl X f) (hm : X.mg f = none) (hv : bootBuiltins f = some (.builtin id)) (ha : SA X L W (a :: es) xs)
    (hn : f ≠ "__name__" := by decide) (hdb : (f == ("__debug__" : Str)) = false := by decide) (he : starEach (a :: es) X.env = (false, eval a X.env) :: starEach es X.env := by rfl) (hpl : (backTo pos (starEach es X.env)).any (·.1) = false := by rfl) :
    SE X L W (.Call (.Name f p) (a :: es) [] pos) (eOp op xs) :=
  ⟨(pe_callB hr hg hm hv ha.run hn hdb he hpl).imp fun _ _ _ h => eOp_tAs os h, eOp_pure ha.pu⟩
theorem se_callTy {f : Str} {p : Pos} {T : String} {r : List V → Hp → VK → Prop} (hr : CallR X (.type T) r) (os : OpS X.K L op r) (hg : Gl X f) (hm : X.mg f = none) (hv : bootBuiltins f = some (.type T)) (ha : SA X L W (a :: es) xs)
    (hn : f ≠ "__name__" := by decide) (hdb : (f == ("__debug__" : Str)) = false := by decide) (he : starEach (a :: es) X.env = (false, eval a X.env) :: starEach es X.env := by rfl) (hpl : (backTo pos (starEach es X.env)).any (·.1) = false := by rfl) :
    SE X L W (.Call (.Name f p) (a :: es) [] pos) (eOp op xs) :=
  ⟨(pe_callTy hr hg hm hv ha.run hn hdb he hpl).imp fun _ _ _ h => eOp_tAs os h, eOp_pure ha.pu⟩
end
end Ev

/-! C4: names, constants, statements, loops. -/
namespace Ev
open PySem PySem.Spec L2
open PyProof.Rows hiding St

/-! ### names and constants -/
def getD (ρ : List D) (i : Nat) : Out D := match ρ[i]? with
  | some .unset => .stuck
  | some d => .ok d
  | none => .stuck
/-- a look at the name in slot i -/
def eV (i : Nat) : Ex := ⟨true, fun ρ => (getD ρ i).bind fun d => .ok (d.look, ρ)⟩
/-- the name's value is moved out (it is not used again) -/
def eMv (i : Nat) : Ex := ⟨false, fun ρ => (getD ρ i).bind fun d => .ok (d, ρ.set i .unset)⟩
/-- the name's value becomes shared -/
def eFz (i : Nat) : Ex := ⟨false, fun ρ => (getD ρ i).bind fun d => if d.canFz = true then .ok (d.frz, ρ.set i d.frz) else .stuck⟩
def eC (d : D) : Ex := ⟨true, fun ρ => .ok (d, ρ)⟩
theorem getD_ok {ρ : List D} {i : Nat} {d : D} (h : getD ρ i = .ok d) : ρ[i]? = some d ∧ d ≠ .unset := by
  unfold getD at h
  split at h
  · cases h
  · rename_i d' hne e
    injection h with h
    subst h
    exact ⟨e, fun z => hne z⟩
  · cases h
theorem getD_exc {ρ : List D} {i : Nat} {e : Exn} {r : List D} (h : getD ρ i = .exc e r) : False := by
  unfold getD at h
  split at h <;> cases h
theorem stbs_get : ∀ {ds : List D} {i : Nat} {d : D}, stbs ds = true → ds[i]? = some d → d.stb = true
  | [], _, _, _, e => by simp at e
  | x :: xs, 0, d, h, e => by
    have e' : x = d := by simpa using e
    subst e'
    exact (Bool.and_eq_true_iff.mp (show (x.stb && stbs xs) = true from h)).1
  | x :: xs, i + 1, d, h, e => stbs_get (i := i) (Bool.and_eq_true_iff.mp (show (x.stb && stbs xs) = true from h)).2 (by simpa using e)
theorem stbs_set {d : D} (hd : d.stb = true) : ∀ {ds : List D} (i : Nat), stbs ds = true → stbs (ds.set i d) = true
  | [], _, h => h
  | x :: xs, 0, h => by
    have h' := Bool.and_eq_true_iff.mp (show (x.stb && stbs xs) = true from h)
    show (d.stb && stbs xs) = true
    rw [hd, h'.2]; rfl
  | x :: xs, i + 1, h => by
    have h' := Bool.and_eq_true_iff.mp (show (x.stb && stbs xs) = true from h)
    show (x.stb && stbs (xs.set i d)) = true
    rw [h'.1, stbs_set hd i h'.2]; rfl
theorem slot_len {K : PySem.W.Frag} {L B Fr H : Hp} {σ : St} {ρ : List D} (ok : Ok K L B Fr H σ ρ) : ρ.length = σ.length := ok.len

section
variable {X : Cx} {L : Hp} {W : WX} {x : Str} {pos : Pos}
theorem se_var (i : Nat) (hN : X.N[i]? = some x := by rfl) (hv : Vis X.env.scope x := by first | exact Or.inl rfl | exact Or.inr (Or.inl rfl) | exact Or.inr (Or.inr rfl)) (hd : (x == ("__debug__" : Str)) = false := by decide)
    (hcd : (x == ("__classdict__" : Str)) = false := by decide) : SE X L W (.Name x pos) (eV i) := by
  refine ⟨(pe_var hN hv hd hcd).imp fun σ H Q ⟨B, Fr, ρ, ok, st, h⟩ => ?_, fun _ ρ r e => ?_⟩
  · unfold eV at h
    dsimp only at h
    cases e : getD ρ i with
    | ok d =>
      rw [e] at h
      obtain ⟨e1, e2⟩ := getD_ok e
      obtain ⟨v, ev, ok'⟩ := ok.lookAt e1 e2
      exact ⟨v, ev, h v H Fr (Sub.refl _) (fun _ => Sub.refl _) st ok'⟩
    | exc ex r => exact (getD_exc e).elim
    | stuck => rw [e] at h; exact h.elim
  · unfold eV at e
    dsimp only at e
    cases e1 : getD ρ i with
    | ok d => rw [e1] at e; injection e with e; rw [← e]
    | exc ex r => rw [e1] at e; cases e
    | stuck => rw [e1] at e; cases e
theorem se_mv (i : Nat) (hN : X.N[i]? = some x := by rfl) (hv : Vis X.env.scope x := by first | exact Or.inl rfl | exact Or.inr (Or.inl rfl) | exact Or.inr (Or.inr rfl)) (hd : (x == ("__debug__" : Str)) = false := by decide)
    (hcd : (x == ("__classdict__" : Str)) = false := by decide) : SE X L W (.Name x pos) (eMv i) := by
  refine ⟨(pe_var hN hv hd hcd).imp fun σ H Q ⟨B, Fr, ρ, ok, st, h⟩ => ?_, fun z => nomatch z⟩
  unfold eMv at h
  dsimp only at h
  cases e : getD ρ i with
  | ok d =>
    rw [e] at h
    obtain ⟨e1, e2⟩ := getD_ok e
    obtain ⟨v, ev, ok'⟩ := ok.out e1 e2
    exact ⟨v, ev, h v H Fr (Sub.refl _) (fun _ => Sub.refl _) (stbs_set rfl i st) ok'⟩
  | exc ex r => exact (getD_exc e).elim
  | stuck => rw [e] at h; exact h.elim
theorem se_fz (i : Nat) (hN : X.N[i]? = some x := by rfl) (hv : Vis X.env.scope x := by first | exact Or.inl rfl | exact Or.inr (Or.inl rfl) | exact Or.inr (Or.inr rfl)) (hd : (x == ("__debug__" : Str)) = false := by decide)
    (hcd : (x == ("__classdict__" : Str)) = false := by decide) : SE X L W (.Name x pos) (eFz i) := by
  refine ⟨(pe_var hN hv hd hcd).imp fun σ H Q ⟨B, Fr, ρ, ok, st, h⟩ => ?_, fun z => nomatch z⟩
  unfold eFz at h
  dsimp only at h
  cases e : getD ρ i with
  | ok d =>
    rw [e, Out.bind_ok] at h
    obtain ⟨e1, e2⟩ := getD_ok e
    by_cases c : d.canFz = true
    · rw [if_pos c] at h
      obtain ⟨v, ev, ok'⟩ := ok.out e1 e2
      obtain ⟨Fr', sf, r, ok2⟩ := ok'.pull c
      have hi : i < ρ.length := (List.getElem?_eq_some_iff.mp e1).1
      have ok3 := (ok2.pushF r).back ev
      rw [List.set_set] at ok3
      exact ⟨v, ev, h v H Fr' sf (fun _ => Sub.refl _) (stbs_set (D.isFz_stb (D.frz_isFz c)) i st) (ok3.pushF r)⟩
    · rw [if_neg c] at h
      exact h.elim
  | exc ex r => exact (getD_exc e).elim
  | stuck => rw [e] at h; exact h.elim
theorem se_const {e : Expr} {d : D} {v : V} (h : PE X e (tC v)) (r : ∀ Fr, RepF X.K Fr d v) : SE X L W e (eC d) := by
  refine ⟨h.imp fun σ H Q ⟨B, Fr, ρ, ok, st, h⟩ => ?_, fun _ ρ r e => ?_⟩
  · exact h v H Fr (Sub.refl _) (fun _ => Sub.refl _) st (ok.pushF (r Fr))
  · have e' : (Out.ok (d, ρ)) = .ok r := e
    injection e' with e'
    rw [← e']
theorem se_int {i : Int} {j} : SE X L W (.Constant (.int i) j pos) (eC (.int i)) := se_const pe_int fun _ => rfl
theorem se_bl {b : Bool} {j} : SE X L W (.Constant (.bool b) j pos) (eC (.bl b)) := se_const pe_bl fun _ => rfl
theorem se_non {j} : SE X L W (.Constant .none j pos) (eC .non) := se_const pe_non fun _ => rfl
theorem se_str {z : Str} {j} : SE X L W (.Constant (.str z) j pos) (eC (.str z)) := se_const pe_str fun _ => rfl
/-- a module's int -/
theorem se_globI {i : Int} (hg : Gl X x) (hm : ∃ t, X.mg x = some (.int i t)) (hd : (x == ("__debug__" : Str)) = false := by decide) : SE X L W (.Name x pos) (eC (.int i)) := by
  obtain ⟨t, hm⟩ := hm
  exact se_const (v := .int i) (pe_glob hg hm ⟨t, rfl⟩ hd) fun _ => rfl
end

/-! ### tests -/
def eAnd (x y : Ex) : Ex := ⟨x.pu && y.pu, fun ρ => (x.f ρ).bind fun r => match truth r.1 with
  | some true => y.f r.2
  | some false => .ok (.bl false, r.2)
  | none => .stuck⟩
def eOr (x y : Ex) : Ex := ⟨x.pu && y.pu, fun ρ => (x.f ρ).bind fun r => match truth r.1 with
  | some false => y.f r.2
  | some true => .ok (.bl true, r.2)
  | none => .stuck⟩
def oNot : List D → Option D
  | [d] => (truth d).map fun b => .bl !b
  | _ => none
def eNot (x : Ex) : Ex := eOp oNot [x]
def eIf (c x y : Ex) : Ex := ⟨c.pu && (x.pu && y.pu), fun ρ => (c.f ρ).bind fun r => match truth r.1 with
  | some true => x.f r.2
  | some false => y.f r.2
  | none => .stuck⟩
theorem pure_and {x y : Ex} (h1 : Pure x) (h2 : Pure y) : Pure (eAnd x y) := fun pu ρ r e => by
  have p := Bool.and_eq_true_iff.mp (show (x.pu && y.pu) = true from pu)
  unfold eAnd at e
  dsimp only at e
  cases e1 : x.f ρ with
  | exc ex r => rw [e1] at e; cases e
  | stuck => rw [e1] at e; cases e
  | ok q =>
    rw [e1, Out.bind_ok] at e
    have q2 := h1 p.1 ρ q e1
    split at e
    · rw [h2 p.2 _ _ e, q2]
    · injection e with e; rw [← e]; exact q2
    · cases e
theorem pure_or {x y : Ex} (h1 : Pure x) (h2 : Pure y) : Pure (eOr x y) := fun pu ρ r e => by
  have p := Bool.and_eq_true_iff.mp (show (x.pu && y.pu) = true from pu)
  unfold eOr at e
  dsimp only at e
  cases e1 : x.f ρ with
  | exc ex r => rw [e1] at e; cases e
  | stuck => rw [e1] at e; cases e
  | ok q =>
    rw [e1, Out.bind_ok] at e
    have q2 := h1 p.1 ρ q e1
    split at e
    · rw [h2 p.2 _ _ e, q2]
    · injection e with e; rw [← e]; exact q2
    · cases e
theorem pure_if {c x y : Ex} (h0 : Pure c) (h1 : Pure x) (h2 : Pure y) : Pure (eIf c x y) := fun pu ρ r e => by
  have p := Bool.and_eq_true_iff.mp (show (c.pu && (x.pu && y.pu)) = true from pu)
  have p2 := Bool.and_eq_true_iff.mp p.2
  unfold eIf at e
  dsimp only at e
  cases e1 : c.f ρ with
  | exc ex r => rw [e1] at e; cases e
  | stuck => rw [e1] at e; cases e
  | ok q =>
    rw [e1, Out.bind_ok] at e
    have q2 := h0 p.1 ρ q e1
    split at e
    · rw [h1 p2.1 _ _ e, q2]
    · rw [h2 p2.2 _ _ e, q2]
    · cases e
section
variable {K : PySem.W.Frag} {L : Hp} {W : WX}
theorem tT_and {x y : Ex} {σ : St} {H : Hp} {Q : Bool → Hp → Prop} (h : tT K L W (eAnd x y) σ H Q) : tAnd (tT K L W x) (tT K L W y) σ H Q := by
  obtain ⟨B, Fr, ρ, ok, st, h⟩ := h
  refine ⟨B, Fr, ρ, ok, st, ?_⟩
  unfold eAnd at h
  dsimp only at h
  cases e : x.f ρ with
  | exc ex r => rw [e] at h; exact h
  | stuck => rw [e] at h; exact h
  | ok r =>
    rw [e, Out.bind_ok] at h
    cases e1 : truth r.1 with
    | none => rw [e1] at h; exact h.elim
    | some b =>
      refine ⟨b, e1, fun H' Fr' sf pu st' ok' => ?_⟩
      rw [e1] at h
      cases b with
      | false =>
        obtain ⟨b, eb, h⟩ := h
        cases eb
        exact h H' Fr' sf (fun z => pu (Bool.and_eq_true_iff.mp z).1) st' ok'
      | true =>
        refine ⟨B, Fr', r.2, ok', st', ?_⟩
        dsimp only at h
        cases e2 : y.f r.2 with
        | exc ex r' => rw [e2] at h; exact Err.more h (Sub.refl _) ok.lb sf
        | stuck => rw [e2] at h; exact h
        | ok q =>
          rw [e2] at h
          obtain ⟨c, ec, h⟩ := h
          exact ⟨c, ec, fun H2 Fr2 sf2 pu2 st2 ok2 => h H2 Fr2 (sf.trans sf2) (fun z => (pu (Bool.and_eq_true_iff.mp z).1).trans (pu2 (Bool.and_eq_true_iff.mp z).2)) st2 ok2⟩
theorem tT_or {x y : Ex} {σ : St} {H : Hp} {Q : Bool → Hp → Prop} (h : tT K L W (eOr x y) σ H Q) : tOr (tT K L W x) (tT K L W y) σ H Q := by
  obtain ⟨B, Fr, ρ, ok, st, h⟩ := h
  refine ⟨B, Fr, ρ, ok, st, ?_⟩
  unfold eOr at h
  dsimp only at h
  cases e : x.f ρ with
  | exc ex r => rw [e] at h; exact h
  | stuck => rw [e] at h; exact h
  | ok r =>
    rw [e, Out.bind_ok] at h
    cases e1 : truth r.1 with
    | none => rw [e1] at h; exact h.elim
    | some b =>
      refine ⟨b, e1, fun H' Fr' sf pu st' ok' => ?_⟩
      rw [e1] at h
      cases b with
      | true =>
        obtain ⟨b, eb, h⟩ := h
        cases eb
        exact h H' Fr' sf (fun z => pu (Bool.and_eq_true_iff.mp z).1) st' ok'
      | false =>
        refine ⟨B, Fr', r.2, ok', st', ?_⟩
        dsimp only at h
        cases e2 : y.f r.2 with
        | exc ex r' => rw [e2] at h; exact Err.more h (Sub.refl _) ok.lb sf
        | stuck => rw [e2] at h; exact h
        | ok q =>
          rw [e2] at h
          obtain ⟨c, ec, h⟩ := h
          exact ⟨c, ec, fun H2 Fr2 sf2 pu2 st2 ok2 => h H2 Fr2 (sf.trans sf2) (fun z => (pu (Bool.and_eq_true_iff.mp z).1).trans (pu2 (Bool.and_eq_true_iff.mp z).2)) st2 ok2⟩
theorem tT_not {x : Ex} {σ : St} {H : Hp} {Q : Bool → Hp → Prop} (h : tT K L W (eNot x) σ H Q) : tNot (tT K L W x) σ H Q := by
  obtain ⟨B, Fr, ρ, ok, st, h⟩ := h
  refine ⟨B, Fr, ρ, ok, st, ?_⟩
  unfold eNot eOp evs evs at h
  dsimp only at h
  cases e : x.f ρ with
  | exc ex r => rw [e] at h; exact h
  | stuck => rw [e] at h; exact h
  | ok r =>
    rw [e, Out.bind_ok] at h
    have c : (r.1.stb || pus []) = true := by show (r.1.stb || true) = true; simp
    rw [if_pos c, Out.bind_ok, Out.bind_ok] at h
    dsimp only [oNot] at h
    cases e1 : truth r.1 with
    | none => rw [e1] at h; exact h.elim
    | some b =>
      rw [e1] at h
      obtain ⟨b', eb, h⟩ := h
      cases eb
      exact ⟨b, e1, fun H' Fr' sf pu st' ok' => h H' Fr' sf (fun z => pu (Bool.and_eq_true_iff.mp (show (x.pu && true) = true from z)).1) st' ok'⟩
/-- the truth of what is at hand -/
theorem tru_of {B Fr H : Hp} {σ : St} {ρ : List D} {d : D} {v : V} {k : Bool} (ok : Ok K L B Fr H (some v :: σ) (d :: ρ)) (e : truth d = some k) (hz : ∀ x, d = .str x → x.length ≤ sizeLine) : TruV K v H k := by
  have hd : d ≠ .unset := by rintro rfl; cases e
  obtain ⟨F, r⟩ := ok.top hd
  have seqs : ∀ (t : Bool) (ds : List D) (a : Addr) (vs : List V), SqG K t H a vs → ds.length = vs.length → k = !ds.isEmpty → v = .ref a → TruV K v H k := fun t ds a vs q hl hk hv => by
    subst hv
    have he : ds.isEmpty = vs.isEmpty := by cases ds <;> cases vs <;> first | rfl | cases hl
    rw [he] at hk
    cases t with
    | true => exact .inr (.inl ⟨vs, q, hk⟩)
    | false => exact .inl ⟨vs, q, hk⟩
  cases d with
  | unset => cases e
  | non => obtain ⟨_, rfl⟩ := r; exact (Option.some.inj e).symm
  | bl b => obtain ⟨_, rfl⟩ := r; exact (Option.some.inj e).symm
  | int i => obtain ⟨_, rfl⟩ := r; exact (Option.some.inj e).symm
  | str x => obtain ⟨_, rfl⟩ := r; exact ⟨hz x rfl, (Option.some.inj e).symm⟩
  | fn x => cases e
  | ty x => cases e
  | obj _ _ _ _ => cases e
  | deep _ _ => cases e
  | seq t m ds =>
    have hk : k = !ds.isEmpty := (Option.some.inj e).symm
    cases m with
    | fz =>
      obtain ⟨_, a, vs, hv, q, rs⟩ := r
      exact seqs t ds a vs (q.sub ok.fr).g rs.len hk hv
    | own =>
      obtain ⟨a, vs, hv, _, q, rs⟩ := r
      obtain ⟨q, rfl⟩ := q
      exact seqs false ds a vs (.inl (.inl q)) rs.len hk hv
    | bor =>
      obtain ⟨_, a, vs, hv, q, rs⟩ := r
      exact seqs t ds a vs (q.elim (fun z => z.sub (ok.lb.trans ok.br)) (fun z => z.sub ok.fr)).g rs.len hk hv
    | tmp =>
      obtain ⟨_, a, vs, hv, q, rs⟩ := r
      exact seqs t ds a vs q.g rs.len hk hv
    | scr =>
      obtain ⟨_, et, a, vs, hv, q, rs⟩ := r
      subst et
      exact seqs false ds a vs (q.elim (fun z => sqL_sub (ok.lb.trans ok.br) z) (fun z => sqL_sub ok.fr z)) rs.len hk hv
/-- .. of a value, as a test -/
def tru1 (x : Ex) : Ex := ⟨x.pu, fun ρ => (x.f ρ).bind fun r => match r.1 with
  | .str z => if z.length ≤ sizeLine then .ok r else .stuck
  | _ => .ok r⟩
theorem tT_tE {x : Ex} {σ : St} {H : Hp} {Q : Bool → Hp → Prop} (h : tT K L W (tru1 x) σ H Q) : tE K L W x σ H fun v H' => ∃ k, TruV K v H' k ∧ Q k H' := by
  obtain ⟨B, Fr, ρ, ok, st, h⟩ := h
  refine ⟨B, Fr, ρ, ok, st, ?_⟩
  unfold tru1 at h
  dsimp only at h
  cases e : x.f ρ with
  | exc ex r => rw [e] at h; exact h
  | stuck => rw [e] at h; exact h
  | ok r =>
    rw [e, Out.bind_ok] at h
    obtain ⟨d, ρ'⟩ := r
    have go : (match (Out.ok (d, ρ') : Out (D × List D)) with
      | .ok r => ∃ b, truth r.1 = some b ∧ ∀ H' Fr', Sub Fr Fr' → (x.pu = true → Sub H H') → stbs r.2 = true → Ok K L B Fr' H' σ r.2 → Q b H'
      | .exc e r => Err K L W B Fr σ e r
      | .stuck => False) → (∀ z, d = .str z → z.length ≤ sizeLine) → ∀ v H' Fr', Sub Fr Fr' → (x.pu = true → Sub H H') → stbs ρ' = true → Ok K L B Fr' H' (some v :: σ) (d :: ρ') → ∃ k, TruV K v H' k ∧ Q k H' := by
      rintro ⟨b, eb, h⟩ hz v H' Fr' sf pu st' ok'
      exact ⟨b, tru_of ok' eb hz, h H' Fr' sf pu st' ok'.pop⟩
    dsimp only at h
    cases d with
    | str z =>
      dsimp only at h
      by_cases hz : z.length ≤ sizeLine
      · rw [if_pos hz] at h
        exact go h (fun w q => by cases q; exact hz)
      · rw [if_neg hz] at h
        exact h.elim
    | _ => exact go h (fun w q => by cases q)
/-- .. of what is True or False -/
theorem tT_bl {x : Ex} {σ : St} {H : Hp} {Q : Bool → Hp → Prop} (hb : ∀ ρ r, x.f ρ = .ok r → ∃ b, r.1 = .bl b) (h : tT K L W x σ H Q) : tE K L W x σ H fun v H' => ∃ k, v = .bl k ∧ Q k H' := by
  obtain ⟨B, Fr, ρ, ok, st, h⟩ := h
  refine ⟨B, Fr, ρ, ok, st, ?_⟩
  cases e : x.f ρ with
  | exc ex r => rw [e] at h; exact h
  | stuck => rw [e] at h; exact h
  | ok r =>
    rw [e] at h
    obtain ⟨b, eb⟩ := hb ρ r e
    obtain ⟨d, ρ'⟩ := r
    dsimp only at eb
    subst eb
    obtain ⟨b', eb', h⟩ := h
    cases eb'
    intro v H' Fr' sf pu st' ok'
    exact ⟨b, ok'.topF rfl, h H' Fr' sf pu st' ok'.pop⟩
end
section
variable {X : Cx} {L : Hp} {W : WX} {a b c : Expr} {rest : List Expr} {x y z : Ex} {pos : Pos}
theorem sw_and1 (h : ST X L W a x) : SW X L W (.BoolOp .And [a] pos) x := ⟨pw_and1 h.run, h.pu⟩
theorem sw_or1 (h : ST X L W a x) : SW X L W (.BoolOp .Or [a] pos) x := ⟨pw_or1 h.run, h.pu⟩
theorem sw_and (h : ST X L W a x) (t : SW X L W (.BoolOp .And (b :: rest) pos) y) : SW X L W (.BoolOp .And (a :: b :: rest) pos) (eAnd x y) := ⟨(pw_and h.run t.run).imp fun _ _ _ q => tT_and q, pure_and h.pu t.pu⟩
theorem sw_or (h : ST X L W a x) (t : SW X L W (.BoolOp .Or (b :: rest) pos) y) : SW X L W (.BoolOp .Or (a :: b :: rest) pos) (eOr x y) := ⟨(pw_or h.run t.run).imp fun _ _ _ q => tT_or q, pure_or h.pu t.pu⟩
theorem SW.st {e : Expr} (h : SW X L W e x) : ST X L W e x := ⟨h.run.pt, h.pu⟩
theorem st_not (h : ST X L W a x) : ST X L W (.UnaryOp .Not a pos) (eNot x) := ⟨(pt_not h.run).imp fun _ _ _ q => tT_not q, eOp_pure (pure1 h.pu)⟩
theorem pure_tru1 (h : Pure x) : Pure (tru1 x) := fun pu ρ r e => by
  unfold tru1 at e
  dsimp only at e
  cases e1 : x.f ρ with
  | exc ex r => rw [e1] at e; cases e
  | stuck => rw [e1] at e; cases e
  | ok q =>
    rw [e1, Out.bind_ok] at e
    have q2 := h pu ρ q e1
    split at e
    · split at e
      · injection e with e; rw [← e]; exact q2
      · cases e
    · injection e with e; rw [← e]; exact q2
/-- any value as a test (a name, a call, a subscript, a field) -/
theorem st_val {e : Expr} (h : SE X L W e x) (he : ∀ whole, isTrue e X.env whole = (do let v ← whole; standAt e.pos; holding [v] (truthy v)) := by intro _; rfl) : ST X L W e (tru1 x) :=
  ⟨(pt_truth h.run he).imp fun _ _ _ q => tT_tE q, pure_tru1 h.pu⟩
/-- a comparison as a test -/
theorem st_cmp {o : CmpOp} {r : R2} {op : List D → Option D} (hr : OpR X (compareOp o) r) (os : OpS X.K L op (R2v r)) (hb' : ∀ ds d, op ds = some d → ∃ b, d = .bl b) (ha : SE X L W a x) (hb : SE X L W b y) (hm : behindInMarks o b = false) : ST X L W (.Compare a [o] [b] pos) (eOp op [x, y]) := by
  refine ⟨(pt_cmpR hr ha.run hb.run hm).imp fun σ H Q h => ?_, eOp_pure (pure2 ha.pu hb.pu)⟩
  have h2 := tT_bl (fun ρ r e => by
    have e' : (evs [x, y] ρ).bind (fun r => give (op r.1) r.2) = .ok r := e
    cases e1 : evs [x, y] ρ with
    | exc ex r => rw [e1] at e'; cases e'
    | stuck => rw [e1] at e'; cases e'
    | ok q =>
      rw [e1, Out.bind_ok] at e'
      cases e2 : op q.1 with
      | some d => rw [e2] at e'; injection e' with e'; rw [← e']; exact hb' _ _ e2
      | none => rw [e2] at e'; cases e') h
  exact (eOp_two os h2).mono fun _ _ h => h.mono fun _ _ ⟨_, _, e, q⟩ => by cases e; exact q
/-- x if c else y -/
theorem se_if (hc : ST X L W c z) (ha : SE X L W a x) (hb : SE X L W b y) : SE X L W (.IfExp c a b pos) (eIf z x y) := by
  refine ⟨(pe_ifExp hc.run ha.run hb.run).imp fun σ H Q ⟨B, Fr, ρ, ok, st, h⟩ => ⟨B, Fr, ρ, ok, st, ?_⟩, pure_if hc.pu ha.pu hb.pu⟩
  unfold eIf at h
  dsimp only at h
  cases e : z.f ρ with
  | exc ex r => rw [e] at h; exact h
  | stuck => rw [e] at h; exact h
  | ok r =>
    rw [e, Out.bind_ok] at h
    cases e1 : truth r.1 with
    | none => rw [e1] at h; exact h.elim
    | some t =>
      refine ⟨t, e1, fun H' Fr' sf pu st' ok' => ?_⟩
      rw [e1] at h
      cases t with
      | true =>
        show tE X.K L W x σ H' Q
        refine ⟨B, Fr', r.2, ok', st', ?_⟩
        dsimp only at h
        cases e2 : x.f r.2 with
        | exc ex r' => rw [e2] at h; exact Err.more h (Sub.refl _) ok.lb sf
        | stuck => rw [e2] at h; exact h
        | ok q =>
          rw [e2] at h
          exact fun v H2 Fr2 sf2 pu2 st2 ok2 => h v H2 Fr2 (sf.trans sf2) (fun z => (pu (Bool.and_eq_true_iff.mp z).1).trans (pu2 (Bool.and_eq_true_iff.mp (Bool.and_eq_true_iff.mp z).2).1)) st2 ok2
      | false =>
        show tE X.K L W y σ H' Q
        refine ⟨B, Fr', r.2, ok', st', ?_⟩
        dsimp only at h
        cases e2 : y.f r.2 with
        | exc ex r' => rw [e2] at h; exact Err.more h (Sub.refl _) ok.lb sf
        | stuck => rw [e2] at h; exact h
        | ok q =>
          rw [e2] at h
          exact fun v H2 Fr2 sf2 pu2 st2 ok2 => h v H2 Fr2 (sf.trans sf2) (fun z => (pu (Bool.and_eq_true_iff.mp z).1).trans (pu2 (Bool.and_eq_true_iff.mp (Bool.and_eq_true_iff.mp z).2).2)) st2 ok2
end
end Ev

/-! C5: statements, targets, loops. -/
namespace Ev
open PySem PySem.Spec L2
open PyProof.Rows hiding St

theorem Agree.refl {fx : List Nat} (σ : St) : Agree fx σ σ := fun _ _ => rfl
theorem Agree.trans {fx : List Nat} {σ σ' σ'' : St} (a : Agree fx σ σ') (b : Agree fx σ' σ'') : Agree fx σ σ'' := fun i h => (b i h).trans (a i h)
theorem Agree.set {fx : List Nat} {σ : St} {i : Nat} {o : Option V} (h : i ∉ fx) : Agree fx σ (σ.set i o) := fun j hj => List.getElem?_set_ne (fun e : i = j => h (by rw [e]; exact hj))
theorem Ok.into' {K : PySem.W.Frag} {L B Fr H : Hp} {os : List (Option V)} {ds : List D} {i : Nat} {d : D} {v : V} (x : Ok K L B Fr H (some v :: os) (d :: ds)) : Ok K L B Fr H (os.set i (some v)) (ds.set i d) := by
  by_cases hi : i < ds.length
  · exact x.into hi
  · have hl := x.len
    simp only [List.length_cons] at hl
    rw [List.set_eq_of_length_le (by omega), List.set_eq_of_length_le (by omega)]
    exact x.pop

/-! ### blocks -/
def sNil : Blk := fun ρ => .ok (.next, ρ)
def sSeq (b c : Blk) : Blk := fun ρ => (b ρ).bind fun r => match r.1 with
  | .next => c r.2
  | f => .ok (f, r.2)
def sSet (i : Nat) (x : Ex) : Blk := fun ρ => (x.f ρ).bind fun r => if r.1.stb = true then .ok (.next, r.2.set i r.1) else .stuck
def sRet (x : Ex) : Blk := fun ρ => (x.f ρ).bind fun r => .ok (.ret r.1, r.2)
def sRetN : Blk := fun ρ => .ok (.ret .non, ρ)
def sExpr (x : Ex) : Blk := fun ρ => (x.f ρ).bind fun r => .ok (.next, r.2)
def sIf (c : Ex) (a b : Blk) : Blk := fun ρ => (c.f ρ).bind fun r => match truth r.1 with
  | some true => a r.2
  | some false => b r.2
  | none => .stuck
def sBrk : Blk := fun ρ => .ok (.brk, ρ)
def sCont : Blk := fun ρ => .ok (.cont, ρ)
def sNever : Blk := fun _ => .stuck

section
variable {K : PySem.W.Frag} {L : Hp} {W : WX} {fx : List Nat}
theorem ErrS.more {B B' Fr Fr1 : Hp} {σ σ1 : St} {e : Exn} {ρ : List D} (h : ErrS K L fx W B Fr σ e ρ) (s : Sub B B') (l : Sub L B) (sf : Sub Fr Fr1) (a : Agree fx σ σ1) : ErrS K L fx W B' Fr1 σ1 e ρ :=
  fun cls dx σ' H' Fr' s1 a1 b c d => h cls dx σ' H' Fr' (sf.trans s1) (a.trans a1) b (c.lessB s l) d
theorem ErrS.err {B Fr : Hp} {σ : St} {e : Exn} {ρ : List D} (h : ErrS K L fx W B Fr σ e ρ) : Err K L W B Fr σ e ρ := fun cls dx H' Fr' a b c d => h cls dx σ H' Fr' a (Agree.refl _) b c d

/-- what a block's end asks -/
def PostS (K : PySem.W.Frag) (L : Hp) (fx : List Nat) (W : WX) (B Fr : Hp) (Z : Ends) (σ : St) (o : Out (Fl × List D)) : Prop := match o with
  | .ok (.next, r) => ∀ σ' H' Fr', Sub Fr Fr' → Agree fx σ σ' → stbs r = true → Ok K L B Fr' H' σ' r → Z.nx σ' H'
  | .ok (.ret d, r) => ∀ v σ' H' Fr', Sub Fr Fr' → Agree fx σ σ' → stbs r = true → Ok K L B Fr' H' (some v :: σ') (d :: r) → Z.rt v H'
  | .ok (.brk, r) => ∀ σ' H' Fr', Sub Fr Fr' → Agree fx σ σ' → stbs r = true → Ok K L B Fr' H' σ' r → Z.bk σ' H'
  | .ok (.cont, r) => ∀ σ' H' Fr', Sub Fr Fr' → Agree fx σ σ' → stbs r = true → Ok K L B Fr' H' σ' r → Z.ct σ' H'
  | .exc e r => ErrS K L fx W B Fr σ e r
  | .stuck => False
theorem tS_iff {b : Blk} {D : Ends} {σ : St} {H : Hp} : tS K L fx W b D σ H ↔ ∃ B Fr ρ, Ok K L B Fr H σ ρ ∧ stbs ρ = true ∧ PostS K L fx W B Fr D σ (b ρ) := Iff.rfl
theorem PostS.more {B B' Fr Fr1 : Hp} {D : Ends} {σ σ1 : St} {o : Out (Fl × List Ev.D)} (h : PostS K L fx W B Fr D σ o) (s : Sub B B') (l : Sub L B) (sf : Sub Fr Fr1) (a : Agree fx σ σ1) : PostS K L fx W B' Fr1 D σ1 o := by
  cases o with
  | exc e r => exact ErrS.more h s l sf a
  | stuck => exact h
  | ok r =>
    obtain ⟨f, r⟩ := r
    cases f with
    | next => exact fun σ' H' Fr' a1 a2 a3 a4 => h σ' H' Fr' (sf.trans a1) (a.trans a2) a3 (a4.lessB s l)
    | ret d => exact fun v σ' H' Fr' a1 a2 a3 a4 => h v σ' H' Fr' (sf.trans a1) (a.trans a2) a3 (a4.lessB s l)
    | brk => exact fun σ' H' Fr' a1 a2 a3 a4 => h σ' H' Fr' (sf.trans a1) (a.trans a2) a3 (a4.lessB s l)
    | cont => exact fun σ' H' Fr' a1 a2 a3 a4 => h σ' H' Fr' (sf.trans a1) (a.trans a2) a3 (a4.lessB s l)
/-- from an expression's end on -/
theorem tE_of {x : Ex} {k : Ev.D × List Ev.D → Out (Fl × List Ev.D)} {B Fr H : Hp} {σ : St} {ρ : List Ev.D} {D : Ends} {Q : VK} (ok : Ok K L B Fr H σ ρ) (st : stbs ρ = true) (h : PostS K L fx W B Fr D σ ((x.f ρ).bind k))
    (go : ∀ (r : Ev.D × List Ev.D) (v : V) (H' Fr' : Hp), Sub Fr Fr' → stbs r.2 = true → Ok K L B Fr' H' (some v :: σ) (r.1 :: r.2) → PostS K L fx W B Fr' D σ (k r) → Q v H') : tE K L W x σ H Q := by
  refine ⟨B, Fr, ρ, ok, st, ?_⟩
  cases e : x.f ρ with
  | exc ex r => rw [e] at h; exact ErrS.err h
  | stuck => rw [e] at h; exact h
  | ok r =>
    rw [e, Out.bind_ok] at h
    exact fun v H' Fr' sf pu st' ok' => go r v H' Fr' sf st' ok' (PostS.more h (Sub.refl _) ok.lb sf (Agree.refl _))
end

section
variable {X : Cx} {L : Hp} {W : WX} {fx : List Nat} {e c : Expr} {st : Stmt} {rest sa' sb' : List Stmt} {x : Ex} {b b1 b2 : Blk} {pos : Pos}
theorem sb_nil : SB X L fx W [] sNil := ⟨pss_nil.imp fun D σ H ⟨B, Fr, ρ, ok, st, h⟩ => h σ H Fr (Sub.refl _) (Agree.refl _) st ok⟩
theorem sb_cons (h : SS X L fx W st b1) (t : SB X L fx W rest b2) : SB X L fx W (st :: rest) (sSeq b1 b2) := by
  refine ⟨(pss_cons h.run t.run).imp fun D σ H ⟨B, Fr, ρ, ok, st, h⟩ => ⟨B, Fr, ρ, ok, st, ?_⟩⟩
  have h : PostS X.K L fx W B Fr D σ ((b1 ρ).bind fun r => match r.1 with | .next => b2 r.2 | f => .ok (f, r.2)) := h
  show PostS X.K L fx W B Fr { D with nx := tS X.K L fx W b2 D } σ (b1 ρ)
  cases e : b1 ρ with
  | exc ex r => rw [e] at h; exact h
  | stuck => rw [e] at h; exact h
  | ok r =>
    rw [e, Out.bind_ok] at h
    obtain ⟨f, r⟩ := r
    cases f with
    | next => exact fun σ' H' Fr' a1 a2 a3 a4 => ⟨B, Fr', r, a4, a3, PostS.more h (Sub.refl _) ok.lb a1 a2⟩
    | ret d => exact h
    | brk => exact h
    | cont => exact h
theorem sb_one (h : SS X L fx W st b) : SB X L fx W [st] b := ⟨pss_one h.run⟩
theorem ss_expr (h : SE X L W e x) (hs : swapsWith e none pos.line X.env = pure false := by rfl) : SS X L fx W (.Expr e pos) (sExpr x) :=
  ⟨(ps_expr h.run hs).imp fun D σ H ⟨B, Fr, ρ, ok, st, h⟩ => tE_of ok st h fun r v H' Fr' sf st' ok' p => p σ H' Fr' (Sub.refl _) (Agree.refl _) st' ok'.pop⟩
theorem ss_doc {z : Str} {j pos'} : SS X L fx W (.Expr (.Constant (.str z) j pos) pos') sNil := ⟨ps_doc.imp fun D σ H ⟨B, Fr, ρ, ok, st, h⟩ => h σ H Fr (Sub.refl _) (Agree.refl _) st ok⟩
theorem ss_pass : SS X L fx W (.Pass pos) sNil := ⟨ps_pass.imp fun D σ H ⟨B, Fr, ρ, ok, st, h⟩ => h σ H Fr (Sub.refl _) (Agree.refl _) st ok⟩
theorem ss_brk : SS X L fx W (.Break pos) sBrk := ⟨ps_break.imp fun D σ H ⟨B, Fr, ρ, ok, st, h⟩ => h σ H Fr (Sub.refl _) (Agree.refl _) st ok⟩
theorem ss_cont : SS X L fx W (.Continue pos) sCont := ⟨ps_continue.imp fun D σ H ⟨B, Fr, ρ, ok, st, h⟩ => h σ H Fr (Sub.refl _) (Agree.refl _) st ok⟩
theorem ss_never : SS X L fx W st sNever := ⟨ps_never.imp fun _ _ _ ⟨_, _, _, _, _, h⟩ => h.elim⟩
theorem sb_never : SB X L fx W rest sNever := ⟨pss_never.imp fun _ _ _ ⟨_, _, _, _, _, h⟩ => h.elim⟩
theorem ss_ret (h : SE X L W e x) : SS X L fx W (.Return (some e) pos) (sRet x) :=
  ⟨(ps_ret h.run).imp fun D σ H ⟨B, Fr, ρ, ok, st, h⟩ => tE_of ok st h fun r v H' Fr' sf st' ok' p => p v σ H' Fr' (Sub.refl _) (Agree.refl _) st' ok'⟩
theorem ss_retN : SS X L fx W (.Return none pos) sRetN := ⟨ps_retN.imp fun D σ H ⟨B, Fr, ρ, ok, st, h⟩ => h .non σ H Fr (Sub.refl _) (Agree.refl _) st (ok.pushF rfl)⟩
theorem set_end {K : PySem.W.Frag} {B Fr Fr' H' : Hp} {D : Ends} {σ : St} {i : Nat} (hfx : i ∉ fx) {r : Ev.D × List Ev.D} {v : V} (sf : Sub Fr Fr') (st' : stbs r.2 = true) (ok' : Ok K L B Fr' H' (some v :: σ) (r.1 :: r.2))
    (p : PostS K L fx W B Fr' D σ (if r.1.stb = true then .ok (.next, r.2.set i r.1) else .stuck)) : D.nx (σ.set i (some v)) H' := by
  by_cases c : r.1.stb = true
  · rw [if_pos c] at p
    exact p _ H' Fr' (Sub.refl _) (Agree.set hfx) (stbs_set c i st') ok'.into'
  · rw [if_neg c] at p
    exact p.elim
theorem ss_set (i : Nat) {y : Str} {pos' : Pos} (hN : X.N.Nodup) (h : SE X L W e x) (hi : X.N[i]? = some y := by rfl) (hx : Loc X.env.scope y := by first | exact Or.inl rfl | exact Or.inr rfl) (hfx : i ∉ fx := by decide)
    (hs : swapsWith e (some (.Name y pos')) pos.line X.env = pure false := by rfl) (hf : X.fn y = true ∨ X.env.scope.names.lookup y = some .local := by first | exact .inl rfl | exact .inr rfl) : SS X L fx W (.Assign [.Name y pos'] e pos) (sSet i x) :=
  ⟨(ps_set hN hi hx h.run hs hf).imp fun D σ H ⟨B, Fr, ρ, ok, st, h⟩ => tE_of ok st h fun r v H' Fr' sf st' ok' p => set_end hfx sf st' ok' p⟩
theorem ss_if (hc : ST X L W c x) (ha : SB X L fx W sa' b1) (hb : SB X L fx W sb' b2) : SS X L fx W (.If c sa' sb' pos) (sIf x b1 b2) := by
  refine ⟨(ps_if hc.run ha.run hb.run).imp fun D σ H ⟨B, Fr, ρ, ok, st, h⟩ => ⟨B, Fr, ρ, ok, st, ?_⟩⟩
  have h : PostS X.K L fx W B Fr D σ ((x.f ρ).bind fun r => match truth r.1 with | some true => b1 r.2 | some false => b2 r.2 | none => .stuck) := h
  cases e : x.f ρ with
  | exc ex r => rw [e] at h; exact ErrS.err h
  | stuck => rw [e] at h; exact h
  | ok r =>
    rw [e, Out.bind_ok] at h
    cases e1 : truth r.1 with
    | none => rw [e1] at h; exact h.elim
    | some t =>
      refine ⟨t, e1, fun H' Fr' sf pu st' ok' => ?_⟩
      rw [e1] at h
      cases t with
      | true => exact ⟨B, Fr', r.2, ok', st', PostS.more h (Sub.refl _) ok.lb sf (Agree.refl _)⟩
      | false => exact ⟨B, Fr', r.2, ok', st', PostS.more h (Sub.refl _) ok.lb sf (Agree.refl _)⟩
end

/-! ### targets -/
abbrev Tg := D → List D → Option (List D)
def gN (i : Nat) : Tg := fun d ρ => if d.stb = true then some (ρ.set i d) else none
def gAll : List Tg → List D → List D → Option (List D)
  | [], [], ρ => some ρ
  | g :: gs, d :: ds, ρ => (g d ρ).bind fun ρ' => gAll gs ds ρ'
  | _, _, _ => none
def D.items : D → Option (List D)
  | .seq _ .tmp _ => none
  | .seq _ _ ds => some ds
  | _ => none
def gT (gs : List Tg) : Tg := fun d ρ => match d with
  | .seq _ _ ds => gAll gs ds ρ
  | _ => none
def tG (K : PySem.W.Frag) (L : Hp) (fx : List Nat) (g : Tg) : TG := fun v σ H Q => ∃ B Fr d ρ, Ok K L B Fr H (some v :: σ) (d :: ρ) ∧ stbs ρ = true ∧ match g d ρ with
  | some ρ' => ∀ σ' H' Fr', Sub Fr Fr' → Sub H H' → Agree fx σ σ' → stbs ρ' = true → Ok K L B Fr' H' σ' ρ' → Q σ' H'
  | none => False
def tGs (K : PySem.W.Frag) (L : Hp) (fx : List Nat) (gs : List Tg) : TGs := fun vs σ H Q => ∃ B Fr ds ρ, Ok K L B Fr H σ ρ ∧ RepFs K Fr ds vs ∧ stbs ρ = true ∧ match gAll gs ds ρ with
  | some ρ' => ∀ σ' H' Fr', Sub Fr Fr' → Sub H H' → Agree fx σ σ' → stbs ρ' = true → Ok K L B Fr' H' σ' ρ' → Q σ' H'
  | none => False
structure SG (X : Cx) (L : Hp) (fx : List Nat) (e : Expr) (g : Tg) : Prop where
  run : PG X e (tG X.K L fx g)
structure SGs (X : Cx) (L : Hp) (fx : List Nat) (es : List Expr) (gs : List Tg) : Prop where
  run : PGs X es (tGs X.K L fx gs)
theorem _root_.L2.PG.imp {X : Cx} {e : Expr} {t u : TG} (h : PG X e t) (k : ∀ v σ H Q, u v σ H Q → t v σ H Q) : PG X e u := ⟨fun pins s σ H v w Q I r z => h.run pins s σ H v w Q I r (k v σ H Q z)⟩
theorem _root_.L2.PGs.imp {X : Cx} {e : List Expr} {t u : TGs} (h : PGs X e t) (k : ∀ v σ H Q, u v σ H Q → t v σ H Q) : PGs X e u := ⟨fun pins s σ H v w Q I r z => h.run pins s σ H v w Q I r (k v σ H Q z)⟩
section
variable {X : Cx} {L : Hp} {fx : List Nat} {e : Expr} {es : List Expr} {g : Tg} {gs : List Tg} {pos : Pos}
theorem sg_name (i : Nat) {y : Str} (hN : X.N.Nodup) (hi : X.N[i]? = some y := by rfl) (hx : Loc X.env.scope y := by first | exact Or.inl rfl | exact Or.inr rfl) (hfx : i ∉ fx := by decide)
    (hf : X.fn y = true ∨ X.env.scope.names.lookup y = some .local := by first | exact .inl rfl | exact .inr rfl) : SG X L fx (.Name y pos) (gN i) := by
  refine ⟨(pg_name hN hi hx hf).imp fun v σ H Q ⟨B, Fr, d, ρ, ok, st, h⟩ => ?_⟩
  unfold gN at h
  by_cases c : d.stb = true
  · rw [if_pos c] at h
    exact h _ H Fr (Sub.refl _) (Sub.refl _) (Agree.set hfx) (stbs_set c i st) ok.into'
  · rw [if_neg c] at h
    exact h.elim
theorem sgs_nil : SGs X L fx [] [] := ⟨pgs_nil.imp fun vs σ H Q ⟨B, Fr, ds, ρ, ok, r, st, h⟩ => by
  cases ds with
  | nil =>
    cases vs with
    | nil => exact ⟨rfl, h σ H Fr (Sub.refl _) (Sub.refl _) (Agree.refl _) st ok⟩
    | cons v vs => exact r.elim
  | cons d ds => exact h.elim⟩
theorem sgs_cons (h1 : SG X L fx e g) (h2 : SGs X L fx es gs) (hs : (assignEach (e :: es) X.env).map (·.2) = assign e X.env :: (assignEach es X.env).map (·.2) := by rfl) : SGs X L fx (e :: es) (g :: gs) := by
  refine ⟨(pgs_cons h1.run h2.run hs).imp fun vs σ H Q ⟨B, Fr, ds, ρ, ok, r, st, h⟩ => ?_⟩
  cases ds with
  | nil => exact h.elim
  | cons d ds =>
    cases vs with
    | nil => exact r.elim
    | cons v vs =>
      have h : (match (g d ρ).bind fun ρ' => gAll gs ds ρ' with
        | some ρ' => ∀ σ' H' Fr', Sub Fr Fr' → Sub H H' → Agree fx σ σ' → stbs ρ' = true → Ok X.K L B Fr' H' σ' ρ' → Q σ' H'
        | none => False) := h
      refine ⟨v, vs, rfl, B, Fr, d, ρ, ok.pushF r.1, st, ?_⟩
      cases e : g d ρ with
      | none => rw [e] at h; exact h
      | some ρ1 =>
        rw [e, Option.bind_some] at h
        intro σ1 H1 Fr1 sf sh ag st1 ok1
        refine ⟨B, Fr1, ds, ρ1, ok1, RepFs.sub sf r.2, st1, ?_⟩
        cases e2 : gAll gs ds ρ1 with
        | none => rw [e2] at h; exact h
        | some ρ2 =>
          rw [e2] at h
          exact fun σ' H' Fr' a1 a2 a3 a4 a5 => h σ' H' Fr' (sf.trans a1) (sh.trans a2) (ag.trans a3) a4 a5
theorem gAll_len : ∀ {gs : List Tg} {ds : List D} {ρ ρ' : List D}, gAll gs ds ρ = some ρ' → ds.length = gs.length
  | [], [], _, _, _ => rfl
  | [], _ :: _, _, _, h => by cases h
  | _ :: _, [], _, _, h => by cases h
  | g :: gs, d :: ds, ρ, ρ', h => by
    have h : (g d ρ).bind (fun ρ' => gAll gs ds ρ') = some ρ' := h
    cases e : g d ρ with
    | none => rw [e] at h; cases h
    | some ρ1 =>
      rw [e, Option.bind_some] at h
      exact congrArg Nat.succ (gAll_len (gs := gs) (ds := ds) h)
/-- a list or a tuple at hand, by its items -/
theorem Ok.seqAt {K : PySem.W.Frag} {B Fr H : Hp} {os : List (Option V)} {ds es : List D} {t : Bool} {k : Md} {v : V} (x : Ok K L B Fr H (some v :: os) (.seq t k es :: ds)) : ∃ a vs, v = .ref a ∧ SqG K t H a vs ∧ RepFs K Fr es vs := by
  obtain ⟨F, r⟩ := x.top (by intro z; cases z)
  cases k with
  | fz => obtain ⟨_, a, vs, e, q, r⟩ := r; exact ⟨a, vs, e, (q.sub x.fr).g, r⟩
  | own => obtain ⟨a, vs, e, _, ⟨q, rfl⟩, r⟩ := r; exact ⟨a, vs, e, .inl (.inl q), r⟩
  | bor => obtain ⟨_, a, vs, e, q, r⟩ := r; exact ⟨a, vs, e, (q.elim (fun z => z.sub (x.lb.trans x.br)) (fun z => z.sub x.fr)).g, r⟩
  | tmp => obtain ⟨_, a, vs, e, q, r⟩ := r; exact ⟨a, vs, e, q.g, r⟩
  | scr => obtain ⟨_, et, a, vs, e, q, r⟩ := r; subst et; exact ⟨a, vs, e, q.elim (fun z => sqL_sub (x.lb.trans x.br) z) (fun z => sqL_sub x.fr z), r⟩
/-- .. of any kind but the script -/
theorem Ok.seqRd {K : PySem.W.Frag} {L B Fr H : Hp} {os : List (Option V)} {ds es : List D} {t : Bool} {k : Md} {v : V} (x : Ok K L B Fr H (some v :: os) (.seq t k es :: ds)) (hk : k ≠ .scr) : ∃ a vs, v = .ref a ∧ SqM K t H a vs ∧ RepFs K Fr es vs := by
  obtain ⟨F, r⟩ := x.top (by intro z; cases z)
  cases k with
  | fz => obtain ⟨_, a, vs, e, q, r⟩ := r; exact ⟨a, vs, e, (q.sub x.fr).m, r⟩
  | own => obtain ⟨a, vs, e, _, ⟨q, rfl⟩, r⟩ := r; exact ⟨a, vs, e, q, r⟩
  | bor => obtain ⟨_, a, vs, e, q, r⟩ := r; exact ⟨a, vs, e, (q.elim (fun z => z.sub (x.lb.trans x.br)) (fun z => z.sub x.fr)).m, r⟩
  | tmp => obtain ⟨_, a, vs, e, q, r⟩ := r; exact ⟨a, vs, e, q, r⟩
  | scr => exact absurd rfl hk
theorem sg_tup {k : Nat} (hc : X.calm = true) (h : SGs X L fx es gs) (hst : (assignEach es X.env).findIdx? (·.1) = none := by rfl) (hl : (assignEach es X.env).length = gs.length := by rfl) : SG X L fx (.Tuple es k pos) (gT gs) := by
  refine ⟨⟨fun pins s σ H v u Q I r hw => ?_⟩⟩
  obtain ⟨B, Fr, d, ρ, ok, st, h2⟩ := hw
  cases d with
  | seq t m ds =>
    have h2 : (match gAll gs ds ρ with
      | some ρ' => ∀ σ' H' Fr', Sub Fr Fr' → Sub H H' → Agree fx σ σ' → stbs ρ' = true → Ok X.K L B Fr' H' σ' ρ' → Q σ' H'
      | none => False) := h2
    obtain ⟨a, vs, ev, q, rs⟩ := ok.seqAt
    have hlen : vs.length = (assignEach es X.env).length := by
      rw [hl, ← rs.len]
      cases e : gAll gs ds ρ with
      | none => rw [e] at h2; exact h2.elim
      | some ρ' => exact gAll_len e
    have w : tGs X.K L fx gs vs σ H Q := ⟨B, Fr, ds, ρ, ok.pop, rs, st, h2⟩
    cases t with
    | true => exact (pg_tup hc h.run rfl hst).run pins s σ H v u Q I r ⟨a, vs, ev, q, hlen, w⟩
    | false => exact (L2.pg_lst hc h.run rfl hst).run pins s σ H v u Q I r ⟨a, vs, ev, q, hlen, w⟩
  | _ => exact h2.elim
end

/-! ### loops -/
/-- what is walked -/
structure Its where
  pu : Bool
  tm : Bool
  f : List D → Out (List D × List D)
/-- S: what is asked of the heap at each turn -/
structure Walks (K : PySem.W.Frag) (L B Fr : Hp) (S : Hp → Prop) (J : It) (ds : List D) : Prop where
  go : ∀ (i : Nat) (B' Fr' H : Hp) (os : List (Option V)) (es : List D) (d : D), Sub B B' → Sub Fr Fr' → S H → Ok K L B' Fr' H os es → ds[i]? = some d → J.go i H ∧ ∀ x H', J.yld i H x H' → ∃ Fr2, Sub Fr' Fr2 ∧ Sub H H' ∧ Ok K L B' Fr2 H' (some x :: os) (d :: es)
  stop : ∀ (i : Nat) (B' Fr' H : Hp) (os : List (Option V)) (es : List D), Sub B B' → Sub Fr Fr' → S H → Ok K L B' Fr' H os es → ds.length ≤ i → J.stop i H
def tI (K : PySem.W.Frag) (L : Hp) (W : WX) (x : Its) : TI := fun σ H R => ∃ B Fr ρ, Ok K L B Fr H σ ρ ∧ stbs ρ = true ∧ match x.f ρ with
  | .ok r => ∀ J H' Fr' B', Sub B B' → Sub Fr Fr' → (x.pu = true → Sub H H') → stbs r.2 = true → Ok K L B' Fr' H' σ r.2 → Walks K L B' Fr' (fun H2 => x.tm = true → Sub H' H2) J r.1 → R J H'
  | .exc e r => Err K L W B Fr σ e r
  | .stuck => False
def PureI (x : Its) : Prop := x.pu = true → ∀ ρ r, x.f ρ = .ok r → r.2 = ρ
structure SI (X : Cx) (L : Hp) (W : WX) (tg iter : Expr) (x : Its) : Prop where
  run : PI X tg iter (tI X.K L W x)
  pu : PureI x
def forL (g : Tg) (b : Blk) : List D → List D → Out (Fl × List D)
  | [], ρ => .ok (.next, ρ)
  | d :: ds, ρ => match g d ρ with
    | none => .stuck
    | some ρ1 => (b ρ1).bind fun r => match r.1 with
      | .next => forL g b ds r.2
      | .cont => forL g b ds r.2
      | .brk => .ok (.next, r.2)
      | .ret v => .ok (.ret v, r.2)
def sFor (it : Its) (g : Tg) (b : Blk) : Blk := fun ρ => (it.f ρ).bind fun r => forL g b r.1 r.2
theorem Walks.more {K : PySem.W.Frag} {L B B' Fr Fr' : Hp} {S : Hp → Prop} {J : It} {ds : List D} (w : Walks K L B Fr S J ds) (sB : Sub B B') (sF : Sub Fr Fr') : Walks K L B' Fr' S J ds :=
  ⟨fun i B2 Fr2 H os es d a b => w.go i B2 Fr2 H os es d (sB.trans a) (sF.trans b), fun i B2 Fr2 H os es a b => w.stop i B2 Fr2 H os es (sB.trans a) (sF.trans b)⟩
section
variable {X : Cx} {L : Hp} {W : WX} {fx : List Nat} {tg iter : Expr} {body : List Stmt} {it : Its} {g : Tg} {b : Blk} {pos : Pos}
theorem ss_for (hp : PassesOwn (model X.prog X.w) X.A X.env X.xe) (hc : X.calm = true) (hi : SI X L W tg iter it) (hg : SG X L fx tg g) (hb : SB X L fx W body b) (ht : it.tm = false := by rfl) (hs : ∀ x, foldedSetIterable iter X.env x = pure x := by intro _; rfl) :
    SS X L fx W (.For tg iter body [] pos) (sFor it g b) := by
  refine ⟨(ps_for hp hc hi.run hg.run hb.run hs).imp fun D σ H ⟨B, Fr, ρ, ok, st, h⟩ => ⟨B, Fr, ρ, ok, st, ?_⟩⟩
  have h : PostS X.K L fx W B Fr D σ ((it.f ρ).bind fun r => forL g b r.1 r.2) := h
  cases e : it.f ρ with
  | exc ex r => rw [e] at h; exact ErrS.err h
  | stuck => rw [e] at h; exact h
  | ok r =>
    rw [e, Out.bind_ok] at h
    obtain ⟨ds, ρ0⟩ := r
    dsimp only at h ⊢
    intro J H0 Fr0 B0 sB sF pu st0 ok0 wk
    have h : PostS X.K L fx W B0 Fr0 D σ (forL g b ds ρ0) := PostS.more h sB ok.lb sF (Agree.refl _)
    refine ⟨fun i m σ1 H1 => m = ds.length - i ∧ i ≤ ds.length ∧ ∃ Fr1 ρ1, Sub Fr0 Fr1 ∧ Agree fx σ σ1 ∧ stbs ρ1 = true ∧ Ok X.K L B0 Fr1 H1 σ1 ρ1 ∧ forL g b (ds.drop i) ρ1 = forL g b ds ρ0, ⟨ds.length, by simp, Nat.zero_le _, Fr0, ρ0, Sub.refl _, Agree.refl _, st0, ok0, rfl⟩, ?_⟩
    rintro i m σ1 H1 ⟨rfl, hi, Fr1, ρ1, sF1, ag1, st1, ok1, e1⟩
    rw [← e1] at h
    have h : PostS X.K L fx W B0 Fr1 D σ1 (forL g b (ds.drop i) ρ1) := PostS.more h (Sub.refl _) ok0.lb sF1 ag1
    by_cases hlt : i < ds.length
    · have ed : ds[i]? = some ds[i] := List.getElem?_eq_getElem hlt
      have edr : ds.drop i = ds[i] :: ds.drop (i + 1) := List.drop_eq_getElem_cons hlt
      obtain ⟨go, yl⟩ := wk.go i B0 Fr1 H1 σ1 ρ1 ds[i] (Sub.refl _) sF1 (fun z => by rw [ht] at z; cases z) ok1 ed
      rw [edr] at h e1
      unfold forL at h
      conv at e1 => lhs; unfold forL
      refine .inr ⟨go, fun σ' H' => ∃ Fr1 ρ1, Sub Fr0 Fr1 ∧ Agree fx σ σ' ∧ stbs ρ1 = true ∧ Ok X.K L B0 Fr1 H' σ' ρ1 ∧ forL g b (ds.drop (i + 1)) ρ1 = forL g b ds ρ0, fun σ' H' n => ⟨ds.length - (i + 1), by omega, rfl, hlt, n⟩, fun x H2 y => ?_⟩
      obtain ⟨Fr2, sF2, sH, ok2⟩ := yl x H2 y
      refine ⟨B0, Fr2, ds[i], ρ1, ok2, st1, ?_⟩
      cases e2 : g ds[i] ρ1 with
      | none => rw [e2] at h; exact h
      | some ρ2 =>
        rw [e2] at h e1
        dsimp only at h e1
        intro σ3 H3 Fr3 sF3 sH3 ag3 st3 ok3
        refine ⟨B0, Fr3, ρ2, ok3, st3, ?_⟩
        show PostS X.K L fx W B0 Fr3 _ σ3 (b ρ2)
        have h := PostS.more h (Sub.refl _) ok0.lb (sF2.trans sF3) ag3
        cases e3 : b ρ2 with
        | exc ex q => rw [e3] at h; exact h
        | stuck => rw [e3] at h; exact h
        | ok r =>
          rw [e3, Out.bind_ok] at h e1
          obtain ⟨f, ρ3⟩ := r
          cases f with
          | next => exact fun σ' H' Fr' a1 a2 a3 a4 => ⟨Fr', ρ3, (sF1.trans sF2).trans (sF3.trans a1), ag1.trans (ag3.trans a2), a3, a4, e1⟩
          | cont => exact fun σ' H' Fr' a1 a2 a3 a4 => ⟨Fr', ρ3, (sF1.trans sF2).trans (sF3.trans a1), ag1.trans (ag3.trans a2), a3, a4, e1⟩
          | brk => exact h
          | ret d => exact h
    · have ei : i = ds.length := by omega
      subst ei
      rw [List.drop_length] at h
      exact .inl ⟨wk.stop _ B0 Fr1 H1 σ1 ρ1 (Sub.refl _) sF1 (fun z => by rw [ht] at z; cases z) ok1 (Nat.le_refl _), h σ1 H1 Fr1 (Sub.refl _) (Agree.refl _) st1 ok1⟩
end
/-! ### while -/
def whN (c : Ex) (b : Blk) : Nat → List D → Out (Fl × List D)
  | 0, _ => .stuck
  | n + 1, ρ => (c.f ρ).bind fun r => match truth r.1 with
    | some false => .ok (.next, r.2)
    | some true => (b r.2).bind fun q => match q.1 with
      | .next => whN c b n q.2
      | .cont => whN c b n q.2
      | .brk => .ok (.next, q.2)
      | .ret v => .ok (.ret v, q.2)
    | none => .stuck
theorem whN_more {c : Ex} {b : Blk} : ∀ {n : Nat} {ρ : List D} {o : Out (Fl × List D)}, whN c b n ρ = o → o ≠ .stuck → ∀ m, n ≤ m → whN c b m ρ = o
  | 0, ρ, o, h, hn, m, hm => absurd (show (Out.stuck : Out (Fl × List D)) = o from h).symm hn
  | n + 1, ρ, o, h, hn, 0, hm => absurd hm (by omega)
  | n + 1, ρ, o, h, hn, m + 1, hm => by
    unfold whN at h ⊢
    cases e : c.f ρ with
    | exc ex r => rw [e] at h; exact h
    | stuck => rw [e] at h; exact h
    | ok r =>
      rw [e, Out.bind_ok] at h
      rw [Out.bind_ok]
      cases e1 : truth r.1 with
      | none => rw [e1] at h; exact h
      | some t =>
        rw [e1] at h
        cases t with
        | false => exact h
        | true =>
          dsimp only at h ⊢
          cases e2 : b r.2 with
          | exc ex r => rw [e2] at h; exact h
          | stuck => rw [e2] at h; exact h
          | ok q =>
            rw [e2, Out.bind_ok] at h
            rw [Out.bind_ok]
            obtain ⟨f, q⟩ := q
            cases f with
            | next => exact whN_more h hn m (by omega)
            | cont => exact whN_more h hn m (by omega)
            | brk => exact h
            | ret v => exact h
open Classical in
noncomputable def sWhile (c : Ex) (b : Blk) : Blk := fun ρ => if h : ∃ n, whN c b n ρ ≠ .stuck then whN c b h.choose ρ else .stuck
theorem sWhile_eq {c : Ex} {b : Blk} {n : Nat} {ρ : List D} {o : Out (Fl × List D)} (h : whN c b n ρ = o) (hn : o ≠ .stuck) : sWhile c b ρ = o := by
  have hx : ∃ n, whN c b n ρ ≠ .stuck := ⟨n, by rw [h]; exact hn⟩
  unfold sWhile
  rw [dif_pos hx]
  have h1 := whN_more h hn (max n hx.choose) (Nat.le_max_left _ _)
  have h2 := whN_more rfl hx.choose_spec (max n hx.choose) (Nat.le_max_right _ _)
  rw [← h2, h1]
theorem sWhile_run {c : Ex} {b : Blk} {ρ : List D} (h : sWhile c b ρ ≠ .stuck) : ∃ n, whN c b n ρ = sWhile c b ρ := by
  by_cases hx : ∃ n, whN c b n ρ ≠ .stuck
  · refine ⟨hx.choose, ?_⟩
    unfold sWhile
    rw [dif_pos hx]
  · exact absurd (by unfold sWhile; rw [dif_neg hx]) h
section
variable {X : Cx} {L : Hp} {W : WX} {fx : List Nat} {c : Expr} {body : List Stmt} {x : Ex} {b : Blk} {pos : Pos}
theorem ss_while (hp : PassesOwn (model X.prog X.w) X.A X.env X.xe) (hc : ST X L W c x) (hb : SB X L fx W body b) : SS X L fx W (.While c body [] pos) (sWhile x b) := by
  refine ⟨(ps_while hp hc.run hb.run).imp fun D σ H ⟨B, Fr, ρ, ok, st, h⟩ => ?_⟩
  have h : PostS X.K L fx W B Fr D σ (sWhile x b ρ) := h
  have hns : sWhile x b ρ ≠ .stuck := fun z => by rw [z] at h; exact h
  obtain ⟨n0, e0⟩ := sWhile_run hns
  refine ⟨fun m σ1 H1 => ∃ Fr1 ρ1, Sub Fr Fr1 ∧ Agree fx σ σ1 ∧ stbs ρ1 = true ∧ Ok X.K L B Fr1 H1 σ1 ρ1 ∧ whN x b m ρ1 = sWhile x b ρ, ⟨n0, Fr, ρ, Sub.refl _, Agree.refl _, st, ok, e0⟩, ?_⟩
  rintro m σ1 H1 ⟨Fr1, ρ1, sF1, ag1, st1, ok1, e1⟩
  cases m with
  | zero => exact absurd e1.symm hns
  | succ m =>
    rw [← e1] at h
    have h : PostS X.K L fx W B Fr1 D σ1 (whN x b (m + 1) ρ1) := PostS.more h (Sub.refl _) ok.lb sF1 ag1
    refine ⟨B, Fr1, ρ1, ok1, st1, ?_⟩
    unfold whN at h e1
    cases e : x.f ρ1 with
    | exc ex r => rw [e] at h; exact ErrS.err h
    | stuck => rw [e] at h; exact h
    | ok r =>
      rw [e, Out.bind_ok] at h e1
      cases et : truth r.1 with
      | none => rw [et] at h; exact h.elim
      | some t =>
        rw [et] at h e1
        refine ⟨t, et, fun H2 Fr2 sF2 pu st2 ok2 => ?_⟩
        cases t with
        | false =>
          dsimp only at h
          exact h σ1 H2 Fr2 sF2 (Agree.refl _) st2 ok2
        | true =>
          dsimp only at h e1
          rw [if_pos rfl]
          refine ⟨fun σ' H' => ∃ Fr1 ρ1, Sub Fr Fr1 ∧ Agree fx σ σ' ∧ stbs ρ1 = true ∧ Ok X.K L B Fr1 H' σ' ρ1 ∧ whN x b m ρ1 = sWhile x b ρ, fun σ' H' z => ⟨m, by omega, z⟩, B, Fr2, r.2, ok2, st2, ?_⟩
          show PostS X.K L fx W B Fr2 _ σ1 (b r.2)
          have h := PostS.more h (Sub.refl _) ok.lb sF2 (Agree.refl _)
          cases e3 : b r.2 with
          | exc ex q => rw [e3] at h; exact h
          | stuck => rw [e3] at h; exact h
          | ok q =>
            rw [e3, Out.bind_ok] at h e1
            obtain ⟨f, ρ3⟩ := q
            cases f with
            | next => exact fun σ' H' Fr' a1 a2 a3 a4 => ⟨Fr', ρ3, (sF1.trans sF2).trans a1, ag1.trans a2, a3, a4, e1⟩
            | cont => exact fun σ' H' Fr' a1 a2 a3 a4 => ⟨Fr', ρ3, (sF1.trans sF2).trans a1, ag1.trans a2, a3, a4, e1⟩
            | brk => exact h
            | ret d => exact h
end
end Ev

/-! C6: operations by values. -/
namespace Ev
open PySem PySem.Spec L2
open PyProof.Rows hiding St

/-! ### what is at hand, one, two, three values -/
section
variable {K : PySem.W.Frag} {L B Fr H : Hp} {σ : List (Option V)} {ρ : List D} {vs : List V} {d d1 d2 d3 : D}
theorem ok1 (ok : Ok K L B Fr H (vs.map some ++ σ) ([d] ++ ρ)) (hl : vs.length = [d].length) : ∃ v, vs = [v] ∧ Ok K L B Fr H (some v :: σ) (d :: ρ) := by
  match vs, hl with
  | [v], _ => exact ⟨v, rfl, ok⟩
theorem ok2 (ok : Ok K L B Fr H (vs.map some ++ σ) ([d1, d2] ++ ρ)) (hl : vs.length = [d1, d2].length) : ∃ v w, vs = [v, w] ∧ Ok K L B Fr H (some v :: some w :: σ) (d1 :: d2 :: ρ) := by
  match vs, hl with
  | [v, w], _ => exact ⟨v, w, rfl, ok⟩
theorem ok3 (ok : Ok K L B Fr H (vs.map some ++ σ) ([d1, d2, d3] ++ ρ)) (hl : vs.length = [d1, d2, d3].length) : ∃ v w z, vs = [v, w, z] ∧ Ok K L B Fr H (some v :: some w :: some z :: σ) (d1 :: d2 :: d3 :: ρ) := by
  match vs, hl with
  | [v, w, z], _ => exact ⟨v, w, z, rfl, ok⟩
/-- all of them become shared -/
theorem Ok.pulls : ∀ {ds : List D} {vs : List V} {Fr : Hp}, Ok K L B Fr H (vs.map some ++ σ) (ds ++ ρ) → vs.length = ds.length → ds.all D.canFz = true → ∃ Fr', Sub Fr Fr' ∧ RepFs K Fr' (ds.map D.frz) vs ∧ Ok K L B Fr' H σ ρ
  | [], [], Fr, ok, _, _ => ⟨Fr, Sub.refl _, trivial, ok⟩
  | [], _ :: _, _, _, h, _ => by cases h
  | _ :: _, [], _, _, h, _ => by cases h
  | d :: ds, v :: vs, Fr, ok, hl, c => by
    rw [List.all_cons, Bool.and_eq_true] at c
    obtain ⟨Fr1, s1, r1, ok1⟩ := Ok.pull (os := vs.map some ++ σ) (ds := ds ++ ρ) ok c.1
    obtain ⟨Fr2, s2, r2, ok2⟩ := Ok.pulls ok1 (by simpa using hl) c.2
    exact ⟨Fr2, s1.trans s2, ⟨RepF.sub s2 r1, r2⟩, ok2⟩
/-- a new list, owned -/
theorem Ok.newL {ds : List D} {p : Addr} (x : Ok K L B Fr H σ ρ) (h : H p = none) (r : RepFs K Fr ds vs) : Ok K L B Fr (upd H p (.lst vs)) (some (.ref p) :: σ) (D.own ds :: ρ) := x.newO h ⟨p, vs, rfl, rfl, ⟨upd_same, rfl⟩, r⟩
/-- a new tuple -/
theorem Ok.newT {ds : List D} {p : Addr} {ob : Obj} (x : Ok K L B Fr H σ ρ) (hd : ob.dict = none) (h : H p = none) (r : RepFs K Fr ds vs) :
    Sub Fr (upd Fr p (.frz ob (.tup vs))) ∧ Ok K L B (upd Fr p (.frz ob (.tup vs))) (upd H p (.frz ob (.tup vs))) (some (.ref p) :: σ) (D.tup ds :: ρ) := by
  obtain ⟨s, y⟩ := x.newF (o := .frz ob (.tup vs)) h
  exact ⟨s, y.pushF ⟨p, vs, rfl, .inl ⟨ob, upd_same, hd⟩, RepFs.sub s r⟩⟩
end
/-- what a new tuple asks -/
def NewT (vs : List V) (H : Hp) (Q : VK) : Prop := ∀ (p : Addr) (ob : Obj), ob.dict = none → H p = none → Q (.ref p) (upd H p (.frz ob (.tup vs)))
section
variable {X : Cx} {pins : List (Addr × Obj)} {σ : St} {H : Hp} {s : Shared} {vs : List V} {its : List Value} {Q : VK}
theorem inv_tup {t' : Nat} (I : Inv X pins σ H s) (r : Vals vs its) (hz : vs.length ≤ sizeLine) (q : NewT vs H Q) : EP X pins σ Q (.ref s.heap.objs.size) { s with heap := s.heap.push { cls := .type "tuple", data := .seq its.toArray }, toks := t' } := by
  have hf : H s.heap.objs.size = none := I.hok.fresh (Nat.le_refl _)
  refine ⟨.ref s.heap.objs.size, _, I.laid (t' := t') (o := .frz { cls := .type "tuple", data := .seq its.toArray } (.tup vs)) (fun b u e => Heap.get?_push_of_some _ e) (Nat.le_refl _) ?_, rfl, q _ _ rfl hf⟩
  exact ⟨Heap.get?_push_size _ rfl, hz, its, r, ⟨_, Heap.get?_push_size _ rfl, rfl, _, rfl⟩⟩
/-- a tuple written out -/
theorem pe_tupX {es : List Expr} {t : TA} {k : Nat} {pos : Pos} (h : PA X es t) : PE X (.Tuple es k pos) (fun σ H Q => t σ H fun xs H1 => xs.length ≤ sizeLine ∧ NewT xs H1 Q) := by
  refine ⟨fun pins s σ H Q I hq => ?_⟩
  exact wpAny_Tuple_spliced (thn (h.run pos pins s σ H _ I hq) fun us s1 ⟨xs, H1, I1, r, z, q⟩ => ⟨by rw [← r.length]; exact z, inv_tup (t' := s1.toks) I1 r z q⟩)
/-- tuple(x) -/
theorem cr_tuple : CallR X (.type "tuple") (fun xs H Q => ∃ p ys, xs = [.ref p] ∧ ((SqL X.K H p ys ∧ NewT ys H Q) ∨ (SqT X.K H p ys ∧ Q (.ref p) H))) := by
  intro pins s σ H xs us Q I r h
  obtain ⟨p, ys, rfl, ⟨hq, q⟩ | ⟨hq, q⟩⟩ := h
  · obtain ⟨u, rfl, rfl⟩ := vals1 r
    obtain ⟨its, r', pl, hz⟩ := I.list hq
    have e := r'.length
    exact call_tuple_list pl.isList (fun h' kp => inv_tup (t' := s.toks) (I.kept (t' := s.toks) kp) r' hz q) (by rw [List.size_toArray]; omega)
  · exact call_tupleT pins s σ H _ us Q I r ⟨p, ys, rfl, hq, q⟩
/-- t + u -/
def rCatX (K : PySem.W.Frag) : R2 := fun x y H Q => ∃ a b xs ys, x = .ref a ∧ y = .ref b ∧ SqT K H a xs ∧ SqT K H b ys ∧ xs.length + ys.length ≤ sizeLine ∧
  (xs = [] → Q (.ref b) H) ∧ (xs ≠ [] → ys = [] → Q (.ref a) H) ∧ (xs ≠ [] → ys ≠ [] → NewT (xs ++ ys) H Q)
theorem op_catX : OpR X (binaryOp .Add) (rCatX X.K) := by
  intro pins s σ H x y v u Q I rx ry h
  obtain ⟨a, b, xs, ys, ex, ey, ha, hb, hz, q0, q1, q2⟩ := h
  by_cases c : xs ≠ [] ∧ ys ≠ []
  · subst ex ey
    cases rx
    cases ry
    obtain ⟨its, r1, p1, _⟩ := I.tuple ha
    obtain ⟨its2, r2, p2, _⟩ := I.tuple hb
    refine HT.cat_tup p1 p2 (fun z => c.1 (r1.nil_iff.mp z)) (fun z => absurd (r2.nil_iff.mp z) c.2) (fun _ => ?_) (by rw [← r1.length, ← r2.length]; exact hz)
    exact inv_tup (t' := s.toks) I (r1.append r2) (by rw [List.length_append]; exact hz) (q2 c.1 c.2)
  · exact op_catA pins s σ H x y v u Q I rx ry ⟨a, b, xs, ys, ex, ey, ha, hb, hz, q0, q1, fun h1 h2 => absurd ⟨h1, h2⟩ c⟩
/-- t[lo:hi] -/
def rSlX (K : PySem.W.Frag) : V → Option Int → Option Int → Hp → VK → Prop := fun x lo hi H Q => ∃ a xs, x = .ref a ∧ SqT K H a xs ∧
  (HT.sIx xs.length 0 lo = 0 ∧ HT.sIx xs.length xs.length hi = xs.length → Q (.ref a) H) ∧ (¬ (HT.sIx xs.length 0 lo = 0 ∧ HT.sIx xs.length xs.length hi = xs.length) → NewT (cutV xs lo hi) H Q)
theorem sl_tupX : SlR X (rSlX X.K) := by
  intro pins s σ H x v vl vu lo hi sl Q I rx hs pl pu h
  obtain ⟨a, xs, ex, hx, q1, q2⟩ := h
  by_cases c : HT.sIx xs.length 0 lo = 0 ∧ HT.sIx xs.length xs.length hi = xs.length
  · exact sl_tupA pins s σ H x v vl vu lo hi sl Q I rx hs pl pu ⟨a, xs, ex, hx, q1, fun h => absurd c h⟩
  · subst ex
    cases rx
    obtain ⟨its, r, ht, hz⟩ := I.tuple hx
    have e : its.toArray.size = xs.length := by rw [List.size_toArray]; exact r.length.symm
    refine ⟨"tuple", _, PyProof.Rows.slot_tuple_getitem.lookup, ht.typeIs, HT.getItem_tuple_cut ht hs pl pu (by rw [e]; exact c) ?_ (by rw [e]; exact hz)⟩
    rw [e]
    exact inv_tup (t' := s.toks) I ((r.drop _).take _) (Nat.le_trans (cutV_length xs lo hi) hz) (q2 c)
end

/-! ### operations: what they are on data, and that they are so -/
/-- items of a list or a tuple -/
def D.its? : D → Option (List D)
  | .seq _ _ ds => some ds
  | _ => none
def ints? : List D → Option (List Int)
  | [] => some []
  | .int i :: ds => (ints? ds).map (i :: ·)
  | _ => none
theorem ints?_map (ns : List Int) : ints? (ns.map D.int) = some ns := by
  induction ns with
  | nil => rfl
  | cons n ns ih => show (ints? (ns.map D.int)).map _ = _; rw [ih]; rfl
theorem ints?_eq : ∀ {ds : List D} {ns : List Int}, ints? ds = some ns → ds = ns.map D.int
  | [], ns, h => by
    have h : some [] = some ns := h
    cases h
    rfl
  | .int i :: ds, ns, h => by
    have h : (ints? ds).map (i :: ·) = some ns := h
    cases e : ints? ds with
    | none => rw [e] at h; cases h
    | some ms =>
      rw [e] at h
      cases h
      rw [ints?_eq e]
      rfl
  | .unset :: _, _, h => by cases h
  | .non :: _, _, h => by cases h
  | .bl _ :: _, _, h => by cases h
  | .str _ :: _, _, h => by cases h
  | .seq _ _ _ :: _, _, h => by cases h
  | .obj _ _ _ _ :: _, _, h => by cases h
  | .deep _ _ :: _, _, h => by cases h
  | .fn _ :: _, _, h => by cases h
  | .ty _ :: _, _, h => by cases h
section
variable {K : PySem.W.Frag} {L : Hp} {W : WX}
/-- two ints -/
def o2 (C : Int → Int → Bool) (g : Int → Int → D) : List D → Option D
  | [.int i, .int j] => if C i j = true then some (g i j) else none
  | _ => none
theorem if_some {c : Prop} [Decidable c] {x d : D} (h : (if c then some x else none) = some d) : c ∧ x = d := by
  by_cases z : c
  · rw [if_pos z] at h
    exact ⟨z, Option.some.inj h⟩
  · rw [if_neg z] at h
    cases h
theorem o2_ok {C : Int → Int → Bool} {g : Int → Int → D} {gv : Int → Int → V} {r : R2} (hg : ∀ i j Fr, RepF K Fr (g i j) (gv i j)) (hr : ∀ i j H Q, C i j = true → Q (gv i j) H → r (.int i) (.int j) H Q) : OpS K L (o2 C g) (R2v r) := by
  intro B Fr H σ ρ ds vs Q d ok hl e q
  unfold o2 at e
  split at e
  · obtain ⟨v, w, rfl, ok⟩ := ok2 ok hl
    have e1 := ok.topF rfl
    have e2 := ok.pop.topF rfl
    obtain ⟨c, rfl⟩ := if_some e
    refine ⟨_, _, rfl, ?_⟩
    rw [show v = _ from e1, show w = _ from e2]
    exact hr _ _ H Q c (q _ H Fr (Sub.refl _) (Sub.refl _) (ok.pop.pop.pushF (hg _ _ Fr)))
  · cases e
def oSub : List D → Option D := o2 (fun _ _ => true) fun i j => .int (i - j)
def small (i : Int) : Bool := decide (i.natAbs < 2 ^ 64)
def wide (i : Int) : Bool := decide (i.natAbs < 2 ^ 4096)
def mulOk (i j : Int) : Bool := small i || small j || (wide i && wide j)
def divOk (j : Int) : Bool := decide (0 < j) && wide j
def oFdiv : List D → Option D := o2 (fun _ j => divOk j) fun i j => .int (i / j)
def oMod : List D → Option D := o2 (fun _ j => decide (0 < j)) fun i j => .int (i % j)
def powOk (i j : Int) : Bool := decide (0 ≤ j) && decide (j ≤ 1000000) && small i
def oPow : List D → Option D := o2 powOk fun i j => .int (i ^ j.toNat)
def oLt : List D → Option D := o2 (fun _ _ => true) fun i j => .bl (decide (i < j))
def oLe : List D → Option D := o2 (fun _ _ => true) fun i j => .bl (decide (i ≤ j))
def oGt : List D → Option D := o2 (fun _ _ => true) fun i j => .bl (decide (j < i))
def oGe : List D → Option D := o2 (fun _ _ => true) fun i j => .bl (decide (j ≤ i))
theorem oSub_ok : OpS K L oSub (R2v (rI0 fun i j => .int (i - j))) := o2_ok (gv := fun i j => .int (i - j)) (fun _ _ _ => rfl) fun i j H Q _ q => ⟨i, j, rfl, rfl, q⟩
theorem oLt_ok : OpS K L oLt (R2v (rI0 fun i j => .bl (decide (i < j)))) := o2_ok (gv := fun i j => .bl (decide (i < j))) (fun _ _ _ => rfl) fun i j H Q _ q => ⟨i, j, rfl, rfl, q⟩
theorem oLe_ok : OpS K L oLe (R2v (rI0 fun i j => .bl (decide (i ≤ j)))) := o2_ok (gv := fun i j => .bl (decide (i ≤ j))) (fun _ _ _ => rfl) fun i j H Q _ q => ⟨i, j, rfl, rfl, q⟩
theorem oGt_ok : OpS K L oGt (R2v (rI0 fun i j => .bl (decide (j < i)))) := o2_ok (gv := fun i j => .bl (decide (j < i))) (fun _ _ _ => rfl) fun i j H Q _ q => ⟨i, j, rfl, rfl, q⟩
theorem oGe_ok : OpS K L oGe (R2v (rI0 fun i j => .bl (decide (j ≤ i)))) := o2_ok (gv := fun i j => .bl (decide (j ≤ i))) (fun _ _ _ => rfl) fun i j H Q _ q => ⟨i, j, rfl, rfl, q⟩
theorem small_ok {i : Int} (h : small i = true) : -(2 ^ 64) < i ∧ i < 2 ^ 64 := by
  have h' := of_decide_eq_true h
  omega
theorem wide_log {i : Int} (h : wide i = true) : i.natAbs.log2 < 4096 := PySem.Flt.log2_lt_of (by decide) (of_decide_eq_true h)
theorem oFdiv_ok : OpS K L oFdiv (R2v (rI CDivW fun i j => .int (i / j))) := o2_ok (gv := fun i j => .int (i / j)) (fun _ _ _ => rfl) fun i j H Q c q => by
  have c' := Bool.and_eq_true_iff.mp (show (decide (0 < j) && wide j) = true from c)
  exact ⟨i, j, rfl, rfl, ⟨of_decide_eq_true c'.1, Nat.lt_of_lt_of_le (wide_log c'.2) (by decide)⟩, q⟩
theorem oMod_ok : OpS K L oMod (R2v (rI (fun _ j => 0 < j) fun i j => .int (i % j))) := o2_ok (gv := fun i j => .int (i % j)) (fun _ _ _ => rfl) fun i j H Q c q => ⟨i, j, rfl, rfl, of_decide_eq_true c, q⟩
theorem oPow_ok : OpS K L oPow (R2v (rI CPow fun i j => .int (i ^ j.toNat))) := o2_ok (gv := fun i j => .int (i ^ j.toNat)) (fun _ _ _ => rfl) fun i j H Q c q => by
  have c' := Bool.and_eq_true_iff.mp (show (decide (0 ≤ j) && decide (j ≤ 1000000) && small i) = true from c)
  have c2 := Bool.and_eq_true_iff.mp c'.1
  exact ⟨i, j, rfl, rfl, ⟨of_decide_eq_true c2.1, of_decide_eq_true c2.2, of_decide_eq_true c'.2⟩, q⟩
/-- + -/
def oAdd : List D → Option D
  | [.int i, .int j] => some (.int (i + j))
  | [.str a, .str b] => if a.length + b.length ≤ sizeLine then some (.str (a ++ b)) else none
  | [.seq false k a, .seq false m b] => if k ≠ .scr ∧ m ≠ .scr ∧ a.length + b.length ≤ sizeLine then some (.own (a ++ b)) else none
  | [.seq true .fz a, .seq true .fz b] => if a.length + b.length ≤ sizeLine then some (.tup (a ++ b)) else none
  | _ => none
def rAdd4 (K : PySem.W.Frag) : R2 := fun x y H Q => rI0 (fun i j => .int (i + j)) x y H Q ∨ (∃ i j, x = .str i ∧ y = .str j ∧ i.length + j.length ≤ sizeLine ∧ Q (.str (i ++ j)) H) ∨ rCat x y H Q ∨ rCatX K x y H Q
theorem oAdd_ok : OpS K L oAdd (R2v (rAdd4 K)) := by
  intro B Fr H σ ρ ds vs Q d ok hl e q
  unfold oAdd at e
  split at e
  · obtain ⟨v, w, rfl, ok⟩ := ok2 ok hl
    cases e
    exact ⟨_, _, rfl, .inl ⟨_, _, ok.topF rfl, ok.pop.topF rfl, q _ H Fr (Sub.refl _) (Sub.refl _) (ok.pop.pop.pushF rfl)⟩⟩
  · obtain ⟨v, w, rfl, ok⟩ := ok2 ok hl
    obtain ⟨c, rfl⟩ := if_some e
    exact ⟨_, _, rfl, .inr (.inl ⟨_, _, ok.topF rfl, ok.pop.topF rfl, c, q _ H Fr (Sub.refl _) (Sub.refl _) (ok.pop.pop.pushF rfl)⟩)⟩
  · obtain ⟨v, w, rfl, ok⟩ := ok2 ok hl
    obtain ⟨c, rfl⟩ := if_some e
    obtain ⟨p1, xs, e1, q1, r1⟩ := ok.seqRd c.1
    obtain ⟨p2, ys, e2, q2, r2⟩ := ok.pop.seqRd c.2.1
    refine ⟨_, _, rfl, .inr (.inr (.inl ⟨p1, p2, xs, ys, e1, e2, q1, q2, by rw [← r1.len, ← r2.len]; exact c.2.2, fun p hp => ?_⟩))⟩
    exact q _ _ Fr (Sub.refl _) (sub_upd hp) (ok.pop.pop.newL hp (r1.app r2))
  · rename_i a b
    obtain ⟨v, w, rfl, ok⟩ := ok2 ok hl
    obtain ⟨c, rfl⟩ := if_some e
    obtain ⟨p1, xs, e1, q1, r1⟩ := ok.seqRd (by intro z; cases z)
    obtain ⟨p2, ys, e2, q2, r2⟩ := ok.pop.seqRd (by intro z; cases z)
    refine ⟨_, _, rfl, .inr (.inr (.inr ⟨p1, p2, xs, ys, e1, e2, q1, q2, by rw [← r1.len, ← r2.len]; exact c, fun z => ?_, fun z1 z2 => ?_, fun _ _ p ob hd hp => ?_⟩))⟩
    · subst z
      have ea : a = [] := List.eq_nil_of_length_eq_zero (by rw [r1.len]; rfl)
      subst ea
      have r := ok.pop.topF (d := D.tup b) rfl
      rw [e2] at r
      exact q _ H Fr (Sub.refl _) (Sub.refl _) (ok.pop.pop.pushF r)
    · subst z2
      have eb : b = [] := List.eq_nil_of_length_eq_zero (by rw [r2.len]; rfl)
      subst eb
      have r := ok.topF (d := D.tup a) rfl
      rw [e1] at r
      rw [List.append_nil] at q
      exact q _ H Fr (Sub.refl _) (Sub.refl _) (ok.pop.pop.pushF r)
    · obtain ⟨s1, ok'⟩ := ok.pop.pop.newT hd hp (r1.app r2)
      exact q _ _ _ s1 (sub_upd hp) ok'
  · cases e
/-- * -/
def oMul : List D → Option D
  | [.int i, .int j] => if mulOk i j = true then some (.int (i * j)) else none
  | [.seq false k a, .int n] => if k ≠ .scr ∧ -(2 ^ 63) ≤ n ∧ n < 2 ^ 63 ∧ a.length * n.toNat ≤ sizeLine then some (.own (List.replicate n.toNat a).flatten) else none
  | _ => none
def rMul2 : R2 := fun x y H Q => rI CMul (fun i j => .int (i * j)) x y H Q ∨ rI CMulW (fun i j => .int (i * j)) x y H Q ∨ rRep x y H Q
theorem RepFs.rep {A : Hp} {ds : List D} {vs : List V} (h : RepFs K A ds vs) : ∀ k : Nat, RepFs K A (List.replicate k ds).flatten (List.replicate k vs).flatten
  | 0 => trivial
  | k + 1 => by
    rw [List.replicate_succ, List.replicate_succ, List.flatten_cons, List.flatten_cons]
    exact h.app (RepFs.rep h k)
theorem oMul_ok : OpS K L oMul (R2v rMul2) := by
  intro B Fr H σ ρ ds vs Q d ok hl e q
  unfold oMul at e
  split at e
  · rename_i i j
    obtain ⟨v, w, rfl, ok⟩ := ok2 ok hl
    have e1 := ok.topF rfl
    have e2 := ok.pop.topF rfl
    obtain ⟨c, rfl⟩ := if_some e
    have fin := q (.int (i * j)) H Fr (Sub.refl _) (Sub.refl _) (ok.pop.pop.pushF rfl)
    have c' : (small i = true ∨ small j = true) ∨ (wide i = true ∧ wide j = true) := by
      unfold mulOk at c
      rw [Bool.or_eq_true, Bool.or_eq_true, Bool.and_eq_true] at c
      exact c
    rcases c' with (c | c) | c
    · exact ⟨_, _, rfl, .inl ⟨_, _, e1, e2, .inl (small_ok c), fin⟩⟩
    · exact ⟨_, _, rfl, .inl ⟨_, _, e1, e2, .inr (small_ok c), fin⟩⟩
    · refine ⟨_, _, rfl, .inr (.inl ⟨_, _, e1, e2, ?_, fin⟩)⟩
      have h1 := wide_log c.1
      have h2 := wide_log c.2
      unfold CMulW
      omega
  · obtain ⟨v, w, rfl, ok⟩ := ok2 ok hl
    obtain ⟨c, rfl⟩ := if_some e
    obtain ⟨p1, xs, e1, q1, r1⟩ := ok.seqRd c.1
    refine ⟨_, _, rfl, .inr (.inr ⟨p1, _, xs, e1, ok.pop.topF rfl, q1, c.2.1, c.2.2.1, by rw [← r1.len]; exact c.2.2.2, fun p hp => ?_⟩)⟩
    exact q _ _ Fr (Sub.refl _) (sub_upd hp) (ok.pop.pop.newL hp (r1.rep _))
  · cases e
end
section
variable {X : Cx}
theorem op_add4 : OpR X (binaryOp .Add) (rAdd4 X.K) := by
  intro pins s σ H x y v u Q I rx ry h
  rcases h with h | h | h | h
  · exact op_add pins s σ H x y v u Q I rx ry h
  · exact op_add_str pins s σ H x y v u Q I rx ry h
  · exact op_cat pins s σ H x y v u Q I rx ry h
  · exact op_catX pins s σ H x y v u Q I rx ry h
theorem op_mul2 : OpR X (binaryOp .Mult) rMul2 := by
  intro pins s σ H x y v u Q I rx ry h
  rcases h with h | h | h
  · exact op_mul pins s σ H x y v u Q I rx ry h
  · exact op_mulW pins s σ H x y v u Q I rx ry h
  · exact op_rep pins s σ H x y v u Q I rx ry h
end
end Ev

/-! C7: more operations by values: equality, in, displays, subscripts, built-in functions. -/
namespace Ev
open PySem PySem.Spec L2
open PyProof.Rows hiding St

section
variable {prog : Program} {w : World} {A : Around} {E : Value → Shared → Prop} {s : Shared} {t : Addr} {its : List Value} {ns : List Int} {Q : Value → Shared → Prop}
/-- a tuple of ints is walked -/
theorem iterT (ht : IsTup s.heap t its.toArray) (h : ∀ s₂ : Shared, s₂ = { s with heap := s.heap.push { cls := .type "tuple_iterator", data := .fields #[.ref t, .int 0 0] } } →
      (s₂.heap.IsTupleIter s.heap.objs.size t 0 ∧ s₂.heap.IsTuple t its.toArray) → (∀ b ∈ [s.heap.objs.size, t], b < s₂.heap.objs.size) → t ≠ s.heap.objs.size → Q (.ref s.heap.objs.size) s₂) : wpAny (model prog w) A (pyIter (.ref t)) Q E s := by
  have ht' : s.heap.IsTuple t its.toArray := ht
  have hlt : t < s.heap.objs.size := by obtain ⟨_, e, _⟩ := ht; exact Heap.lt_size e
  refine wpAny_pyIter_tuple ht' (h _ rfl ⟨⟨_, Heap.get?_push_size _ rfl, rfl, rfl⟩, ht.push _⟩ (fun b hb => ?_) (Nat.ne_of_lt hlt))
  show b < (s.heap.push _).objs.size
  rw [Heap.size_push]
  have hb' : b = s.heap.objs.size ∨ b = t := by simpa using hb
  rcases hb' with e | e
  · rw [e]; exact Nat.lt_succ_self _
  · rw [e]; exact Nat.lt_succ_of_lt hlt
theorem old_keptT {o1 : Obj} {h' : Heap} (hk : ∀ b o, b ∉ [s.heap.objs.size] → (s.heap.push o1).get? b = some o → h'.get? b = some o) : ∀ b o, s.heap.get? b = some o → h'.get? b = some o := fun b o e =>
  hk b o (fun hm => absurd (Heap.lt_size e) (by rw [List.mem_singleton.mp hm]; exact Nat.lt_irrefl _)) (Heap.get?_push_of_some _ e)
theorem nums_of (hi : IntsAre its ns) : ∃ xs : Array (Int × Tok), its.toArray = intItems xs ∧ xs.toList.map (·.1) = ns := by
  obtain ⟨xs, e⟩ := hi.allInts.items
  have hn : numsOf (intItems xs).toList = ns := by rw [← e]; exact hi.numsOf
  rw [nums_intItems] at hn
  exact ⟨xs, e, hn⟩
theorem sumT_raw (hh : A.handled = none) (ht : IsTup s.heap t its.toArray) (hi : IntsAre its ns)
    (h : ∀ h' tk t', (∀ b o, s.heap.get? b = some o → h'.get? b = some o) → Q (.int ns.sum t') { s with heap := h', toks := tk }) : wpAny (model prog w) A (call (.builtin "sum") [.ref t]) Q E s := by
  obtain ⟨xs, e, hn⟩ := nums_of hi
  rw [e] at ht
  refine call_sum_walkG (iterT (its := (intItems xs).toList) (by simpa using ht) fun s₂ e2 st hfp hne => ?_)
  subst e2
  refine ⟨_, _, _, _, _, _, numAt xs, rfl, Walks.tuple (A := A.in1) hh _ t hne (intItems xs), by simpa using st, hfp, (fun _ _ => intItems_at), fun h' tk t' hk => ?_⟩
  have z := h h' tk t' (old_keptT hk)
  have hsz : (intItems xs).size = xs.size := by simp [intItems]
  rw [hsz, preSum_eq, List.take_of_length_le (by simp), hn]
  exact z
theorem maxT_raw (hh : A.handled = none) (ht : IsTup s.heap t its.toArray) (hi : IntsAre its ns) (hne : 0 < ns.length)
    (h : ∀ h' tk M t', (∀ b o, s.heap.get? b = some o → h'.get? b = some o) → M ∈ ns → (∀ a, a ∈ ns → a ≤ M) → Q (.int M t') { s with heap := h', toks := tk }) : wpAny (model prog w) A (call (.builtin "max") [.ref t]) Q E s := by
  obtain ⟨xs, e, hn⟩ := nums_of hi
  subst hn
  rw [e] at ht
  have hsz : 0 < xs.size := by simpa using hne
  refine call_max_walk (iterT (its := (intItems xs).toList) (by simpa using ht) fun s₂ e2 st hfp hnt => ?_)
  subst e2
  refine ⟨_, _, _, _, _, _, _, rfl, Walks.tuple (A := A.in1) hh _ t hnt (intItems xs), by simpa using st, hfp, by simpa [intItems] using hsz, CmpOf.ints_gt (numAt xs) (fun _ _ => intItems_at), fun v h' tk hP hk => ?_⟩
  have hsz2 : (intItems xs).size = xs.size := by simp [intItems]
  rw [hsz2] at hP
  obtain ⟨u, rfl⟩ := intItems_at hP
  obtain ⟨h1, h2⟩ := argBest_gt (numAt xs) (xs.size - 1)
  refine h h' tk _ u (old_keptT hk) ?_ fun a ha => ?_
  · rw [numAt_eq]
    refine PySem.getD_mem ?_
    rw [List.length_map, Array.length_toList]
    omega
  · obtain ⟨j, hj, rfl⟩ := mem_getD ha
    rw [List.length_map, Array.length_toList] at hj
    rw [← numAt_eq]
    exact h2 j (by omega)
theorem minT_raw (hh : A.handled = none) (ht : IsTup s.heap t its.toArray) (hi : IntsAre its ns) (hne : 0 < ns.length)
    (h : ∀ h' tk M t', (∀ b o, s.heap.get? b = some o → h'.get? b = some o) → M ∈ ns → (∀ a, a ∈ ns → M ≤ a) → Q (.int M t') { s with heap := h', toks := tk }) : wpAny (model prog w) A (call (.builtin "min") [.ref t]) Q E s := by
  obtain ⟨xs, e, hn⟩ := nums_of hi
  subst hn
  rw [e] at ht
  have hsz : 0 < xs.size := by simpa using hne
  refine call_min_walk (iterT (its := (intItems xs).toList) (by simpa using ht) fun s₂ e2 st hfp hnt => ?_)
  subst e2
  refine ⟨_, _, _, _, _, _, _, rfl, Walks.tuple (A := A.in1) hh _ t hnt (intItems xs), by simpa using st, hfp, by simpa [intItems] using hsz, CmpOf.ints_lt (numAt xs) (fun _ _ => intItems_at), fun v h' tk hP hk => ?_⟩
  have hsz2 : (intItems xs).size = xs.size := by simp [intItems]
  rw [hsz2] at hP
  obtain ⟨u, rfl⟩ := intItems_at hP
  obtain ⟨h1, h2⟩ := argBest_lt (numAt xs) (xs.size - 1)
  refine h h' tk _ u (old_keptT hk) ?_ fun a ha => ?_
  · rw [numAt_eq]
    refine PySem.getD_mem ?_
    rw [List.length_map, Array.length_toList]
    omega
  · obtain ⟨j, hj, rfl⟩ := mem_getD ha
    rw [List.length_map, Array.length_toList] at hj
    rw [← numAt_eq]
    exact h2 j (by omega)
end
section
variable {X : Cx}
/-- a tuple's ints -/
def rIntsT (K : PySem.W.Frag) (C : List Int → Prop) (g : List Int → Int → Prop) : List V → Hp → VK → Prop := fun vs H Q => ∃ (a : Addr) (ns : List Int), vs = [V.ref a] ∧ SqT K H a (ns.map V.int) ∧ C ns ∧ ∀ m, g ns m → Q (.int m) H
theorem cr_sumT (hc : X.calm = true) : CallR X (.builtin "sum") (rIntsT X.K (fun _ => True) fun ns m => m = ns.sum) := by
  intro pins s σ H xs us Q I r h
  obtain ⟨a, ns, rfl, hs, _, q⟩ := h
  obtain ⟨u, rfl, rfl⟩ := vals1 r
  obtain ⟨its, rv, p, _⟩ := I.tuple hs
  exact sumT_raw (I.ok.hd hc) p (intsAre_of rv) fun h' tk t' k => ⟨.int _, H, I.kept k, ⟨_, rfl⟩, q _ rfl⟩
theorem cr_maxT (hc : X.calm = true) : CallR X (.builtin "max") (rIntsT X.K (fun ns => 0 < ns.length) fun ns m => m ∈ ns ∧ ∀ a ∈ ns, a ≤ m) := by
  intro pins s σ H xs us Q I r h
  obtain ⟨a, ns, rfl, hs, hn, q⟩ := h
  obtain ⟨u, rfl, rfl⟩ := vals1 r
  obtain ⟨its, rv, p, _⟩ := I.tuple hs
  exact maxT_raw (I.ok.hd hc) p (intsAre_of rv) hn fun h' tk M t' k h1 h2 => ⟨.int _, H, I.kept k, ⟨_, rfl⟩, q _ ⟨h1, h2⟩⟩
theorem cr_minT (hc : X.calm = true) : CallR X (.builtin "min") (rIntsT X.K (fun ns => 0 < ns.length) fun ns m => m ∈ ns ∧ ∀ a ∈ ns, m ≤ a) := by
  intro pins s σ H xs us Q I r h
  obtain ⟨a, ns, rfl, hs, hn, q⟩ := h
  obtain ⟨u, rfl, rfl⟩ := vals1 r
  obtain ⟨its, rv, p, _⟩ := I.tuple hs
  exact minT_raw (I.ok.hd hc) p (intsAre_of rv) hn fun h' tk M t' k h1 h2 => ⟨.int _, H, I.kept k, ⟨_, rfl⟩, q _ ⟨h1, h2⟩⟩
end

/-! ### equality -/
mutual
def D.py : D → Option PyData
  | .non => some .none
  | .bl b => some (.bool b)
  | .int i => some (.int i)
  | .str x => some (.str x)
  | .seq true _ ds => (pys ds).map .tuple
  | .seq false _ ds => (pys ds).map .list
  | _ => none
def pys : List D → Option (List PyData)
  | [] => some []
  | d :: ds => match d.py, pys ds with
    | some p, some ps => some (p :: ps)
    | _, _ => none
end
section
variable {K : PySem.W.Frag} {Fr H : Hp}
mutual
theorem RepF.dp (s : Sub Fr H) : ∀ {d : D} {v : V} {p : PyData}, RepF K Fr d v → d.py = some p → Dp K H v p
  | .non, v, p, r, e => by
    cases e
    rw [show v = _ from r]
    exact .non
  | .bl b, v, p, r, e => by
    cases e
    rw [show v = _ from r]
    exact .bl b
  | .int i, v, p, r, e => by
    cases e
    rw [show v = _ from r]
    exact .int i
  | .str x, v, p, r, e => by
    cases e
    rw [show v = _ from r]
    exact .str x
  | .seq t k ds, v, p, r, e => by
    cases k with
    | fz =>
      obtain ⟨a, vs, ev, q, rs⟩ := r
      subst ev
      cases t with
      | true =>
        obtain ⟨ps, h1, h2⟩ := Option.map_eq_some_iff.mp (show (pys ds).map PyData.tuple = some p from e)
        subst h2
        exact .tup ((q.sub s).g) (RepFs.dp s rs h1)
      | false =>
        obtain ⟨ps, h1, h2⟩ := Option.map_eq_some_iff.mp (show (pys ds).map PyData.list = some p from e)
        subst h2
        exact .lst ((q.sub s).g) (RepFs.dp s rs h1)
    | _ => exact False.elim r
  | .obj _ _ _ _, _, _, _, e => by cases e
  | .deep _ _, _, _, _, e => by cases e
  | .unset, _, _, _, e => by cases e
  | .fn _, _, _, _, e => by cases e
  | .ty _, _, _, _, e => by cases e
theorem RepFs.dp (s : Sub Fr H) : ∀ {ds : List D} {vs : List V} {ps : List PyData}, RepFs K Fr ds vs → pys ds = some ps → DpAll K H vs ps
  | [], [], ps, _, e => by
    have e : some [] = some ps := e
    cases e
    exact .nil
  | [], _ :: _, _, r, _ => False.elim r
  | _ :: _, [], _, r, _ => False.elim r
  | d :: ds, v :: vs, ps, r, e => by
    have e : (match d.py, pys ds with
      | some p, some ps => some (p :: ps)
      | _, _ => none) = some ps := e
    cases e1 : d.py with
    | none => rw [e1] at e; cases e
    | some p =>
      cases e2 : pys ds with
      | none => rw [e1, e2] at e; cases e
      | some qs =>
        rw [e1, e2] at e
        cases e
        exact .cons (RepF.dp s r.1 e1) (RepFs.dp s r.2 e2)
end
theorem Ok.dp {L B : Hp} {os : List (Option V)} {ds : List D} {d : D} {v : V} {p : PyData} (x : Ok K L B Fr H (some v :: os) (d :: ds)) (e : d.py = some p) : Dp K H v p := by
  cases d with
  | seq t k es =>
    obtain ⟨a, vs, ev, q, rs⟩ := x.seqAt
    subst ev
    cases t with
    | true =>
      obtain ⟨ps, h1, h2⟩ := Option.map_eq_some_iff.mp (show (pys es).map PyData.tuple = some p from e)
      subst h2
      exact .tup q (RepFs.dp x.fr rs h1)
    | false =>
      obtain ⟨ps, h1, h2⟩ := Option.map_eq_some_iff.mp (show (pys es).map PyData.list = some p from e)
      subst h2
      exact .lst q (RepFs.dp x.fr rs h1)
  | obj _ _ _ _ => cases e
  | deep _ _ => cases e
  | unset => cases e
  | fn _ => cases e
  | ty _ => cases e
  | _ => exact RepF.dp x.fr (x.topF rfl) e
end
def oEqb (neg : Bool) : List D → Option D
  | [a, b] => match a.py, b.py with
    | some p, some q => if (SeqAt.shaped p && SeqAt.shaped q) = true then some (.bl (if neg then !PyData.eqv p q else PyData.eqv p q)) else none
    | _, _ => none
  | _ => none
def oEq : List D → Option D := oEqb false
def oNe : List D → Option D := oEqb true
def rEqb (K : PySem.W.Frag) (neg : Bool) : R2 := fun x y H Q => ∃ d e, Dp K H x d ∧ Dp K H y e ∧ SeqAt.shaped d = true ∧ SeqAt.shaped e = true ∧ Q (.bl (if neg then !PyData.eqv d e else PyData.eqv d e)) H
section
variable {K : PySem.W.Frag} {L : Hp}
theorem oEqb_ok {neg : Bool} : OpS K L (oEqb neg) (R2v (rEqb K neg)) := by
  intro B Fr H σ ρ ds vs Q d ok hl e q
  unfold oEqb at e
  split at e
  · obtain ⟨v, w, rfl, ok⟩ := ok2 ok hl
    split at e
    · rename_i p q' e1 e2
      obtain ⟨c, rfl⟩ := if_some e
      rw [Bool.and_eq_true] at c
      exact ⟨_, _, rfl, p, q', ok.dp e1, ok.pop.dp e2, c.1, c.2, q _ H Fr (Sub.refl _) (Sub.refl _) (ok.pop.pop.pushF rfl)⟩
    · cases e
  · cases e
theorem op_eqb {X : Cx} (hu : X.A.units + 64 < cLine) : OpR X (compareOp .Eq) (rEqb X.K false) := op_eqD hu
theorem op_neb {X : Cx} (hu : X.A.units + 64 < cLine) : OpR X (compareOp .NotEq) (rEqb X.K true) := op_neD hu
/-- is None -/
def D.isNon : D → Bool
  | .non => true
  | _ => false
def oIsN (neg : Bool) : List D → Option D
  | [.unset, _] => none
  | [d, .non] => some (.bl (if neg then !d.isNon else d.isNon))
  | _ => none
def rIsN (neg : Bool) : R2 := fun x y H Q => y = .non ∧ Q (.bl (if neg then !decide (x = .non) else decide (x = .non))) H
theorem non_of {B Fr H : Hp} {os : List (Option V)} {ds : List D} {d : D} {v : V} (x : Ok K L B Fr H (some v :: os) (d :: ds)) (hd : d ≠ .unset) : decide (v = .non) = d.isNon := by
  obtain ⟨F, r⟩ := x.top hd
  cases d with
  | unset => exact absurd rfl hd
  | non => obtain ⟨_, rfl⟩ := r; rfl
  | bl b => obtain ⟨_, rfl⟩ := r; rfl
  | int i => obtain ⟨_, rfl⟩ := r; rfl
  | str i => obtain ⟨_, rfl⟩ := r; rfl
  | fn i => obtain ⟨_, rfl⟩ := r; rfl
  | ty i => obtain ⟨_, rfl⟩ := r; rfl
  | seq t k es => obtain ⟨a, vs, ev, _⟩ := x.seqAt; subst ev; rfl
  | obj k c ns es =>
    cases k with
    | fz => obtain ⟨_, a, dx, fvs, ev, _⟩ := r; subst ev; rfl
    | own => obtain ⟨a, dx, fvs, ev, _⟩ := r; subst ev; rfl
    | tmp => obtain ⟨_, a, dx, fvs, ev, _⟩ := r; subst ev; rfl
    | bor => exact r.elim
    | scr => exact r.elim
  | deep k es =>
    cases k with
    | own => obtain ⟨a, vs, G, ev, _⟩ := r; subst ev; rfl
    | tmp => obtain ⟨_, a, vs, ev, _⟩ := r; subst ev; rfl
    | fz => exact r.elim
    | bor => exact r.elim
    | scr => exact r.elim
theorem oIsN_ok {neg : Bool} : OpS K L (oIsN neg) (R2v (rIsN neg)) := by
  intro B Fr H σ ρ ds vs Q d ok hl e q
  unfold oIsN at e
  split at e
  · cases e
  · rename_i d' hd
    obtain ⟨v, w, rfl, ok⟩ := ok2 ok hl
    cases e
    refine ⟨_, _, rfl, ok.pop.topF rfl, ?_⟩
    rw [non_of ok (fun z => hd z)]
    exact q _ H Fr (Sub.refl _) (Sub.refl _) (ok.pop.pop.pushF rfl)
  · cases e
theorem op_isNb {X : Cx} : OpR X (compareOp .Is) (rIsN false) := op_isN
theorem op_isnotNb {X : Cx} : OpR X (compareOp .IsNot) (rIsN true) := op_notN
/-! ### in -/
def D.flat : D → Bool
  | .non => true
  | .bl _ => true
  | .int _ => true
  | .str _ => true
  | _ => false
def feq : D → D → Bool
  | .non, .non => true
  | .bl a, .bl b => a == b
  | .bl a, .int b => (if a then 1 else 0) == b
  | .int a, .bl b => a == (if b then 1 else 0)
  | .int a, .int b => a == b
  | .str a, .str b => a == b
  | _, _ => false
def inD (x : D) (ds : List D) : Bool := ds.any fun y => feq y x
def oIn (neg : Bool) : List D → Option D
  | [x, .seq _ _ ds] => if (x.flat && ds.all D.flat) = true then some (.bl (if neg then !inD x ds else inD x ds)) else none
  | _ => none
theorem flat_of {Fr : Hp} {d : D} {v : V} (r : RepF K Fr d v) (f : d.flat = true) : flatV v = true := by
  cases d with
  | non => rw [show v = _ from r]; rfl
  | bl _ => rw [show v = _ from r]; rfl
  | int _ => rw [show v = _ from r]; rfl
  | str _ => rw [show v = _ from r]; rfl
  | _ => cases f
theorem feq_of {Fr : Hp} {d e : D} {v w : V} (r : RepF K Fr d v) (r2 : RepF K Fr e w) (f : d.flat = true) (f2 : e.flat = true) : eqV v w = feq d e := by
  have hv := flat_of r f
  cases d with
  | non =>
    obtain rfl : v = _ := r
    cases e <;> first | (cases f2; done) | (obtain rfl : w = _ := r2; rfl)
  | bl _ =>
    obtain rfl : v = _ := r
    cases e <;> first | (cases f2; done) | (obtain rfl : w = _ := r2; rfl)
  | int _ =>
    obtain rfl : v = _ := r
    cases e <;> first | (cases f2; done) | (obtain rfl : w = _ := r2; rfl)
  | str _ =>
    obtain rfl : v = _ := r
    cases e <;> first | (cases f2; done) | (obtain rfl : w = _ := r2; rfl)
  | _ => cases f
theorem inV_of {Fr : Hp} {x : D} {v : V} (r : RepF K Fr x v) (f : x.flat = true) : ∀ {ds : List D} {vs : List V}, RepFs K Fr ds vs → ds.all D.flat = true → vs.all flatV = true ∧ inV v vs = inD x ds
  | [], [], _, _ => ⟨rfl, rfl⟩
  | [], _ :: _, h, _ => False.elim h
  | _ :: _, [], h, _ => False.elim h
  | d :: ds, w :: vs, h, fs => by
    rw [List.all_cons, Bool.and_eq_true] at fs
    obtain ⟨h1, h2⟩ := inV_of r f h.2 fs.2
    refine ⟨?_, ?_⟩
    · rw [List.all_cons, flat_of h.1 fs.1, h1]; rfl
    · show (eqV w v || inV v vs) = (feq d x || inD x ds)
      rw [feq_of h.1 r fs.1 f, h2]
theorem oIn_ok {neg : Bool} : OpS K L (oIn neg) (R2v (rIn K neg)) := by
  intro B Fr H σ ρ ds vs Q d ok hl e q
  unfold oIn at e
  split at e
  · rename_i x t k es
    obtain ⟨v, w, rfl, ok⟩ := ok2 ok hl
    obtain ⟨c, rfl⟩ := if_some e
    rw [Bool.and_eq_true] at c
    obtain ⟨a, ws, ea, qa, ra⟩ := ok.pop.seqAt
    have fz : x.isFz = true := by cases x <;> first | rfl | cases c.1
    have r := ok.topF fz
    obtain ⟨h1, h2⟩ := inV_of r c.1 ra c.2
    refine ⟨_, _, rfl, a, ws, ea, ?_, flat_of r c.1, h1, ?_⟩
    · cases t with
      | true => exact .inr qa
      | false => exact .inl qa
    · rw [h2]
      exact q _ H Fr (Sub.refl _) (Sub.refl _) (ok.pop.pop.pushF rfl)
  · cases e
/-! ### displays, subscripts -/
def oLst (ds : List D) : Option D := if (ds.all D.canFz && decide (ds.length ≤ sizeLine)) = true then some (.own (ds.map D.frz)) else none
def oTup (ds : List D) : Option D := if (ds.all D.canFz && decide (ds.length ≤ sizeLine)) = true then some (.tup (ds.map D.frz)) else none
theorem oLst_ok : OpS K L oLst (fun vs H Q => vs.length ≤ sizeLine ∧ ∀ p, H p = none → Q (.ref p) (upd H p (.lst vs))) := by
  intro B Fr H σ ρ ds vs Q d ok hl e q
  obtain ⟨c, rfl⟩ := if_some e
  rw [Bool.and_eq_true, decide_eq_true_eq] at c
  obtain ⟨Fr', sf, r, ok'⟩ := Ok.pulls ok hl c.1
  exact ⟨by rw [hl]; exact c.2, fun p hp => q _ _ Fr' sf (sub_upd hp) (ok'.newL hp r)⟩
theorem oTup_ok : OpS K L oTup (fun vs H Q => vs.length ≤ sizeLine ∧ NewT vs H Q) := by
  intro B Fr H σ ρ ds vs Q d ok hl e q
  obtain ⟨c, rfl⟩ := if_some e
  rw [Bool.and_eq_true, decide_eq_true_eq] at c
  obtain ⟨Fr', sf, r, ok'⟩ := Ok.pulls ok hl c.1
  refine ⟨by rw [hl]; exact c.2, fun p ob hd hp => ?_⟩
  obtain ⟨s1, ok2⟩ := ok'.newT hd hp r
  exact q _ _ _ (sf.trans s1) (sub_upd hp) ok2
def oIx : List D → Option D
  | [.seq _ _ ds, .int i] => atI ds i
  | [.deep .tmp ds, .int i] => atI ds i
  | [.str z, .int i] => if z.length ≤ sizeLine then (atI z.cps.toList i).map fun c => .str ⟨#[c]⟩ else none
  | _ => none
theorem atI_rep {Fr : Hp} {ds : List D} {vs : List V} {i : Int} {d : D} (r : RepFs K Fr ds vs) (h : atI ds i = some d) : ∃ v, atI vs i = some v ∧ RepF K Fr d v := by
  unfold atI at h ⊢
  rw [← r.len]
  cases e : ixN ds.length i with
  | none => rw [e] at h; cases h
  | some j =>
    rw [e] at h
    exact r.get h
theorem Reps.len {B Fr H : Hp} : ∀ {ds : List D} {vs : List V} {F : List Addr}, Reps K B Fr H ds vs F → ds.length = vs.length
  | [], [], _, _ => rfl
  | [], _ :: _, _, h => False.elim h
  | _ :: _, [], _, h => False.elim h
  | _ :: ds, _ :: vs, _, ⟨_, _, _, _, h⟩ => congrArg Nat.succ (Reps.len (ds := ds) h)
theorem Reps.get0 {B Fr H : Hp} : ∀ {ds : List D} {vs : List V} {i : Nat} {d : D}, Reps K B Fr H ds vs [] → ds[i]? = some d → ∃ v, vs[i]? = some v ∧ Rep K B Fr H d v []
  | [], _, _, _, _, e => by simp at e
  | _ :: _, [], _, _, h, _ => False.elim h
  | d :: ds, v :: vs, 0, d', h, e => by
    obtain ⟨F1, F2, e0, r1, r2⟩ := h
    have e' : d = d' := by simpa using e
    subst e'
    have e1 : F1 = [] := (List.append_eq_nil_iff.mp e0.symm).1
    subst e1
    exact ⟨v, rfl, r1⟩
  | d :: ds, v :: vs, i + 1, d', h, e => by
    obtain ⟨F1, F2, e0, r1, r2⟩ := h
    have e2 : F2 = [] := (List.append_eq_nil_iff.mp e0.symm).2
    subst e2
    obtain ⟨w, h1, h2⟩ := Reps.get0 (i := i) (d := d') r2 (by simpa using e)
    exact ⟨w, by simpa using h1, h2⟩
theorem oIx_ok : OpS K L oIx (R2v (rIx K)) := by
  intro B Fr H σ ρ ds vs Q d ok hl e q
  unfold oIx at e
  split at e
  · rename_i t k es i
    obtain ⟨v, w, rfl, ok⟩ := ok2 ok hl
    obtain ⟨a, ws, ea, qa, ra⟩ := ok.seqAt
    obtain ⟨u, hu, ru⟩ := atI_rep ra e
    have fin := q u H Fr (Sub.refl _) (Sub.refl _) (ok.pop.pop.pushF ru)
    refine ⟨_, _, rfl, ?_⟩
    cases t with
    | true => exact .inr (.inl ⟨a, ws, i, u, ea, ok.pop.topF rfl, qa, hu, fin⟩)
    | false => exact .inl ⟨a, ws, i, u, ea, ok.pop.topF rfl, qa, hu, fin⟩
  · rename_i es i
    obtain ⟨v, w, rfl, ok⟩ := ok2 ok hl
    obtain ⟨F, r⟩ := ok.top (by intro z; cases z)
    obtain ⟨_, a, ws, ea, qa, ra⟩ := r
    obtain ⟨j, hj⟩ : ∃ j, ixN es.length i = some j ∧ es[j]? = some d := by
      unfold atI at e
      cases e3 : ixN es.length i with
      | none => rw [e3] at e; cases e
      | some j => rw [e3] at e; exact ⟨j, rfl, e⟩
    obtain ⟨u, hu, ru⟩ := ra.get0 hj.2
    have hu' : atI ws i = some u := by unfold atI; rw [← ra.len, hj.1]; exact hu
    exact ⟨_, _, rfl, .inl ⟨a, ws, i, u, ea, ok.pop.topF rfl, .inl (.inl qa), hu', q u H Fr (Sub.refl _) (Sub.refl _) (ok.pop.pop.push0 ru)⟩⟩
  · rename_i z i
    obtain ⟨v, w, rfl, ok⟩ := ok2 ok hl
    by_cases c : z.length ≤ sizeLine
    · rw [if_pos c] at e
      obtain ⟨u, hu, rfl⟩ := Option.map_eq_some_iff.mp e
      exact ⟨_, _, rfl, .inr (.inr ⟨z, i, u, ok.topF rfl, ok.pop.topF rfl, c, hu, q _ H Fr (Sub.refl _) (Sub.refl _) (ok.pop.pop.pushF rfl)⟩)⟩
    · rw [if_neg c] at e; cases e
  · cases e
end
section
variable {X : Cx} {L : Hp} {W : WX} {a b : Expr} {es : List Expr} {x y : Ex} {xs : List Ex} {pos : Pos}
theorem se_lst (h : SA X L W es xs) : SE X L W (.List es pos) (eOp oLst xs) := ⟨(pe_lst h.run).imp fun _ _ _ z => eOp_tAs oLst_ok z, eOp_pure h.pu⟩
theorem se_tup {k : Nat} (h : SA X L W es xs) : SE X L W (.Tuple es k pos) (eOp oTup xs) := ⟨(pe_tupX h.run).imp fun _ _ _ z => eOp_tAs oTup_ok z, eOp_pure h.pu⟩
theorem se_ix (ha : SE X L W a x) (hb : SE X L W b y) (hs : PlainIx b := by intro _ _; rfl) : SE X L W (.Subscript a b pos) (eOp oIx [x, y]) :=
  ⟨(pe_ix ix_seq ha.run hb.run hs).imp fun _ _ _ h => (eOp_two oIx_ok h).mono fun _ _ h => h.mono fun _ _ ⟨_, _, e, q⟩ => by cases e; exact q, eOp_pure (pure2 ha.pu hb.pu)⟩
end
end Ev

/-! C8: built-in functions, slices, methods that read. -/
namespace Ev
open PySem PySem.Spec L2
open PyProof.Rows hiding St

section
variable {K : PySem.W.Frag} {L : Hp}
/-! ### len, list, tuple, abs, int, str -/
def oLen : List D → Option D
  | [.seq _ _ ds] => some (.int (ds.length : Nat))
  | [.deep .tmp ds] => some (.int (ds.length : Nat))
  | [.str z] => if z.length ≤ sizeLine then some (.int (z.length : Nat)) else none
  | _ => none
theorem oLen_ok : OpS K L oLen (fun xs H Q => ∃ x n, xs = [x] ∧ LenV K x H n ∧ Q (.int n) H) := by
  intro B Fr H σ ρ ds vs Q d ok hl e q
  unfold oLen at e
  split at e
  · rename_i t k es
    cases e
    obtain ⟨v, rfl, ok⟩ := ok1 ok hl
    obtain ⟨a, ws, ea, qa, ra⟩ := ok.seqAt
    subst ea
    refine ⟨_, es.length, rfl, ?_, q _ H Fr (Sub.refl _) (Sub.refl _) (ok.pop.pushF rfl)⟩
    cases t with
    | true => exact .inr ⟨ws, qa, ra.len⟩
    | false => exact .inl ⟨ws, qa, ra.len⟩
  · rename_i es
    cases e
    obtain ⟨v, rfl, ok⟩ := ok1 ok hl
    obtain ⟨F, r⟩ := ok.top (by intro z; cases z)
    obtain ⟨_, a, ws, ea, qa, ra⟩ := r
    subst ea
    exact ⟨_, es.length, rfl, .inl ⟨ws, .inl (.inl qa), ra.len⟩, q _ H Fr (Sub.refl _) (Sub.refl _) (ok.pop.pushF rfl)⟩
  · rename_i z
    obtain ⟨v, rfl, ok⟩ := ok1 ok hl
    obtain ⟨c, rfl⟩ := if_some e
    obtain rfl : v = .str z := ok.topF rfl
    exact ⟨_, z.length, rfl, ⟨c, rfl⟩, q _ H Fr (Sub.refl _) (Sub.refl _) (ok.pop.pushF rfl)⟩
  · cases e
def oListOf : List D → Option D
  | [.seq _ _ ds] => some (.own ds)
  | _ => none
theorem oListOf_ok : OpS K L oListOf (fun xs H Q => ∃ p ys, xs = [.ref p] ∧ (SqL K H p ys ∨ SqT K H p ys) ∧ ∀ l, H l = none → Q (.ref l) (upd H l (.lst ys))) := by
  intro B Fr H σ ρ ds vs Q d ok hl e q
  unfold oListOf at e
  split at e
  · rename_i t k es
    cases e
    obtain ⟨v, rfl, ok⟩ := ok1 ok hl
    obtain ⟨a, ws, ea, qa, ra⟩ := ok.seqAt
    subst ea
    refine ⟨a, ws, rfl, ?_, fun l hl => q _ _ Fr (Sub.refl _) (sub_upd hl) (ok.pop.newL hl ra)⟩
    cases t with
    | true => exact .inr qa
    | false => exact .inl qa
  · cases e
def oTupOf : List D → Option D
  | [.seq false _ ds] => some (.tup ds)
  | [.seq true .fz ds] => some (.tup ds)
  | _ => none
theorem oTupOf_ok : OpS K L oTupOf (fun xs H Q => ∃ p ys, xs = [.ref p] ∧ ((SqL K H p ys ∧ NewT ys H Q) ∨ (SqT K H p ys ∧ Q (.ref p) H))) := by
  intro B Fr H σ ρ ds vs Q d ok hl e q
  unfold oTupOf at e
  split at e
  · cases e
    obtain ⟨v, rfl, ok⟩ := ok1 ok hl
    obtain ⟨a, ws, ea, qa, ra⟩ := ok.seqAt
    subst ea
    refine ⟨a, ws, rfl, .inl ⟨qa, fun p ob hd hp => ?_⟩⟩
    obtain ⟨s1, ok2⟩ := ok.pop.newT hd hp ra
    exact q _ _ _ s1 (sub_upd hp) ok2
  · cases e
    obtain ⟨v, rfl, ok⟩ := ok1 ok hl
    obtain ⟨a, ws, ea, qa, ra⟩ := ok.seqAt
    have r := ok.topF (d := D.tup _) rfl
    subst ea
    exact ⟨a, ws, rfl, .inr ⟨qa, q _ H Fr (Sub.refl _) (Sub.refl _) (ok.pop.pushF r)⟩⟩
  · cases e
def oAbs : List D → Option D
  | [.int i] => some (.int (if i < 0 then -i else i))
  | _ => none
theorem oAbs_ok : OpS K L oAbs (fun xs H Q => ∃ i, xs = [.int i] ∧ Q (.int (if i < 0 then -i else i)) H) := by
  intro B Fr H σ ρ ds vs Q d ok hl e q
  unfold oAbs at e
  split at e
  · rename_i i
    cases e
    obtain ⟨v, rfl, ok⟩ := ok1 ok hl
    obtain rfl : v = .int i := ok.topF rfl
    exact ⟨i, rfl, q _ H Fr (Sub.refl _) (Sub.refl _) (ok.pop.pushF rfl)⟩
  · cases e
def oInt : List D → Option D
  | [.int i] => some (.int i)
  | [.bl b] => some (.int (if b then 1 else 0))
  | _ => none
theorem oInt_ok : OpS K L oInt (fun xs H Q => (∃ i, xs = [.int i] ∧ Q (.int i) H) ∨ ∃ k, xs = [.bl k] ∧ Q (.int (if k then 1 else 0)) H) := by
  intro B Fr H σ ρ ds vs Q d ok hl e q
  unfold oInt at e
  split at e
  · rename_i i
    cases e
    obtain ⟨v, rfl, ok⟩ := ok1 ok hl
    obtain rfl : v = .int i := ok.topF rfl
    exact .inl ⟨i, rfl, q _ H Fr (Sub.refl _) (Sub.refl _) (ok.pop.pushF rfl)⟩
  · rename_i b
    cases e
    obtain ⟨v, rfl, ok⟩ := ok1 ok hl
    obtain rfl : v = .bl b := ok.topF rfl
    exact .inr ⟨b, rfl, q _ H Fr (Sub.refl _) (Sub.refl _) (ok.pop.pushF rfl)⟩
  · cases e
def oStrI : List D → Option D
  | [.int i] => if i.natAbs.log2 < 1920 then some (.str (toString i)) else none
  | _ => none
theorem oStrI_ok : OpS K L oStrI (fun xs H Q => ∃ i, xs = [.int i] ∧ i.natAbs.log2 < 1920 ∧ Q (.str (toString i)) H) := by
  intro B Fr H σ ρ ds vs Q d ok hl e q
  unfold oStrI at e
  split at e
  · rename_i i
    obtain ⟨c, rfl⟩ := if_some e
    obtain ⟨v, rfl, ok⟩ := ok1 ok hl
    obtain rfl : v = .int i := ok.topF rfl
    exact ⟨i, rfl, c, q _ H Fr (Sub.refl _) (Sub.refl _) (ok.pop.pushF rfl)⟩
  · cases e
/-! ### sum, min, max, any, all -/
def oSum : List D → Option D
  | [.seq _ _ ds] => (ints? ds).map fun ns => .int ns.sum
  | _ => none
def rSum2 (K : PySem.W.Frag) : List V → Hp → VK → Prop := fun vs H Q => rSum K vs H Q ∨ rIntsT K (fun _ => True) (fun ns m => m = ns.sum) vs H Q
theorem oSum_ok : OpS K L oSum (rSum2 K) := by
  intro B Fr H σ ρ ds vs Q d ok hl e q
  unfold oSum at e
  split at e
  · rename_i t k es
    obtain ⟨ns, h1, rfl⟩ := Option.map_eq_some_iff.mp e
    obtain ⟨v, rfl, ok⟩ := ok1 ok hl
    obtain ⟨a, ws, ea, qa, ra⟩ := ok.seqAt
    subst ea
    rw [ints?_eq h1] at ra
    have ew := ra.ints
    subst ew
    have fin := q _ H Fr (Sub.refl _) (Sub.refl _) (ok.pop.pushF (v := .int ns.sum) rfl)
    cases t with
    | true => exact .inr ⟨a, ns, rfl, qa, trivial, fun m hm => by rw [hm]; exact fin⟩
    | false => exact .inl ⟨a, ns, rfl, qa, fin⟩
  · cases e
/-- the least, the greatest of some ints -/
def minI : List Int → Int
  | [] => 0
  | [a] => a
  | a :: r => min a (minI r)
def maxI : List Int → Int
  | [] => 0
  | [a] => a
  | a :: r => max a (maxI r)
theorem minI_mem : ∀ {ns : List Int}, ns ≠ [] → minI ns ∈ ns
  | [], h => absurd rfl h
  | [a], _ => List.mem_cons_self
  | a :: b :: r, _ => by
    have ih := minI_mem (ns := b :: r) (by simp)
    show min a (minI (b :: r)) ∈ a :: b :: r
    rcases Int.le_total a (minI (b :: r)) with h | h
    · rw [Int.min_eq_left h]; exact List.mem_cons_self
    · rw [Int.min_eq_right h]; exact List.mem_cons_of_mem _ ih
theorem minI_le : ∀ {ns : List Int} {x : Int}, x ∈ ns → minI ns ≤ x
  | [], _, h => by cases h
  | [a], x, h => by
    have e : x = a := by simpa using h
    subst e
    exact Int.le_refl _
  | a :: b :: r, x, h => by
    show min a (minI (b :: r)) ≤ x
    rcases List.mem_cons.mp h with e | h
    · subst e; exact Int.min_le_left _ _
    · exact Int.le_trans (Int.min_le_right _ _) (minI_le h)
theorem maxI_mem : ∀ {ns : List Int}, ns ≠ [] → maxI ns ∈ ns
  | [], h => absurd rfl h
  | [a], _ => List.mem_cons_self
  | a :: b :: r, _ => by
    have ih := maxI_mem (ns := b :: r) (by simp)
    show max a (maxI (b :: r)) ∈ a :: b :: r
    rcases Int.le_total (maxI (b :: r)) a with h | h
    · rw [Int.max_eq_left h]; exact List.mem_cons_self
    · rw [Int.max_eq_right h]; exact List.mem_cons_of_mem _ ih
theorem maxI_ge : ∀ {ns : List Int} {x : Int}, x ∈ ns → x ≤ maxI ns
  | [], _, h => by cases h
  | [a], x, h => by
    have e : x = a := by simpa using h
    subst e
    exact Int.le_refl _
  | a :: b :: r, x, h => by
    show x ≤ max a (maxI (b :: r))
    rcases List.mem_cons.mp h with e | h
    · subst e; exact Int.le_max_left _ _
    · exact Int.le_trans (maxI_ge h) (Int.le_max_right _ _)
theorem minI_eq {ns : List Int} {m : Int} (h : m ∈ ns) (k : ∀ y ∈ ns, m ≤ y) : m = minI ns := Int.le_antisymm (k _ (minI_mem (List.ne_nil_of_mem h))) (minI_le h)
theorem maxI_eq {ns : List Int} {m : Int} (h : m ∈ ns) (k : ∀ y ∈ ns, y ≤ m) : m = maxI ns := Int.le_antisymm (maxI_ge h) (k _ (maxI_mem (List.ne_nil_of_mem h)))
/-- min(a, b), min(xs) -/
def oMin : List D → Option D
  | [.int i, .int j] => some (.int (if j < i then j else i))
  | [.seq _ _ (d :: ds)] => (ints? (d :: ds)).map fun ns => .int (minI ns)
  | _ => none
def oMax : List D → Option D
  | [.int i, .int j] => some (.int (if j > i then j else i))
  | [.seq _ _ (d :: ds)] => (ints? (d :: ds)).map fun ns => .int (maxI ns)
  | _ => none
def rMin3 (K : PySem.W.Frag) : List V → Hp → VK → Prop := fun vs H Q => (∃ i j, vs = [.int i, .int j] ∧ Q (.int (if j < i then j else i)) H) ∨ rMin K vs H Q ∨ rIntsT K (fun ns => 0 < ns.length) (fun ns m => m ∈ ns ∧ ∀ a ∈ ns, m ≤ a) vs H Q
def rMax3 (K : PySem.W.Frag) : List V → Hp → VK → Prop := fun vs H Q => (∃ i j, vs = [.int i, .int j] ∧ Q (.int (if j > i then j else i)) H) ∨ rMax K vs H Q ∨ rIntsT K (fun ns => 0 < ns.length) (fun ns m => m ∈ ns ∧ ∀ a ∈ ns, a ≤ m) vs H Q
theorem oMin_ok : OpS K L oMin (rMin3 K) := by
  intro B Fr H σ ρ ds vs Q d ok hl e q
  unfold oMin at e
  split at e
  · rename_i i j
    cases e
    obtain ⟨v, w, rfl, ok⟩ := ok2 ok hl
    obtain rfl : v = .int i := ok.topF rfl
    obtain rfl : w = .int j := ok.pop.topF rfl
    exact .inl ⟨i, j, rfl, q _ H Fr (Sub.refl _) (Sub.refl _) (ok.pop.pop.pushF rfl)⟩
  · rename_i t k e1 es
    obtain ⟨ns, h1, rfl⟩ := Option.map_eq_some_iff.mp e
    obtain ⟨v, rfl, ok⟩ := ok1 ok hl
    obtain ⟨a, ws, ea, qa, ra⟩ := ok.seqAt
    subst ea
    have hn : 0 < ns.length := by
      have := congrArg List.length (ints?_eq h1)
      simp only [List.length_cons, List.length_map] at this
      omega
    rw [ints?_eq h1] at ra
    have ew := ra.ints
    subst ew
    have fin : ∀ m, m ∈ ns → (∀ y, y ∈ ns → m ≤ y) → Q (.int m) H := fun m h1 h2 => by
      rw [minI_eq h1 h2]
      exact q _ H Fr (Sub.refl _) (Sub.refl _) (ok.pop.pushF rfl)
    cases t with
    | true => exact .inr (.inr ⟨a, ns, rfl, qa, hn, fun m hm => fin m hm.1 hm.2⟩)
    | false => exact .inr (.inl ⟨a, ns, rfl, qa, hn, fin⟩)
  · cases e
theorem oMax_ok : OpS K L oMax (rMax3 K) := by
  intro B Fr H σ ρ ds vs Q d ok hl e q
  unfold oMax at e
  split at e
  · rename_i i j
    cases e
    obtain ⟨v, w, rfl, ok⟩ := ok2 ok hl
    obtain rfl : v = .int i := ok.topF rfl
    obtain rfl : w = .int j := ok.pop.topF rfl
    exact .inl ⟨i, j, rfl, q _ H Fr (Sub.refl _) (Sub.refl _) (ok.pop.pop.pushF rfl)⟩
  · rename_i t k e1 es
    obtain ⟨ns, h1, rfl⟩ := Option.map_eq_some_iff.mp e
    obtain ⟨v, rfl, ok⟩ := ok1 ok hl
    obtain ⟨a, ws, ea, qa, ra⟩ := ok.seqAt
    subst ea
    have hn : 0 < ns.length := by
      have := congrArg List.length (ints?_eq h1)
      simp only [List.length_cons, List.length_map] at this
      omega
    rw [ints?_eq h1] at ra
    have ew := ra.ints
    subst ew
    have fin : ∀ m, m ∈ ns → (∀ y, y ∈ ns → y ≤ m) → Q (.int m) H := fun m h1 h2 => by
      rw [maxI_eq h1 h2]
      exact q _ H Fr (Sub.refl _) (Sub.refl _) (ok.pop.pushF rfl)
    cases t with
    | true => exact .inr (.inr ⟨a, ns, rfl, qa, hn, fun m hm => fin m hm.1 hm.2⟩)
    | false => exact .inr (.inl ⟨a, ns, rfl, qa, hn, fin⟩)
  · cases e
def bls? : List D → Option (List Bool)
  | [] => some []
  | .bl b :: ds => (bls? ds).map (b :: ·)
  | _ => none
theorem bls?_map (ns : List Bool) : bls? (ns.map D.bl) = some ns := by
  induction ns with
  | nil => rfl
  | cons n ns ih => show (bls? (ns.map D.bl)).map _ = _; rw [ih]; rfl
theorem bls?_eq : ∀ {ds : List D} {ns : List Bool}, bls? ds = some ns → ds = ns.map D.bl
  | [], ns, h => by
    have h : some [] = some ns := h
    cases h
    rfl
  | d :: ds, ns, h => by
    cases d with
    | bl i =>
      have h : (bls? ds).map (i :: ·) = some ns := h
      obtain ⟨ms, h1, rfl⟩ := Option.map_eq_some_iff.mp h
      rw [bls?_eq h1]
      rfl
    | _ => cases h
def oAnyL : List D → Option D
  | [.seq false _ ds] => (bls? ds).map fun bs => .bl (bs.any id)
  | _ => none
def oAllL : List D → Option D
  | [.seq false _ ds] => (bls? ds).map fun bs => .bl (bs.all id)
  | _ => none
theorem oAnyL_ok : OpS K L oAnyL (rAny K) := by
  intro B Fr H σ ρ ds vs Q d ok hl e q
  unfold oAnyL at e
  split at e
  · obtain ⟨ns, h1, rfl⟩ := Option.map_eq_some_iff.mp e
    obtain ⟨v, rfl, ok⟩ := ok1 ok hl
    obtain ⟨a, ws, ea, qa, ra⟩ := ok.seqAt
    subst ea
    rw [bls?_eq h1] at ra
    have ew := ra.bls
    subst ew
    exact ⟨a, ns, rfl, qa, q _ H Fr (Sub.refl _) (Sub.refl _) (ok.pop.pushF rfl)⟩
  · cases e
theorem oAllL_ok : OpS K L oAllL (rAll K) := by
  intro B Fr H σ ρ ds vs Q d ok hl e q
  unfold oAllL at e
  split at e
  · obtain ⟨ns, h1, rfl⟩ := Option.map_eq_some_iff.mp e
    obtain ⟨v, rfl, ok⟩ := ok1 ok hl
    obtain ⟨a, ws, ea, qa, ra⟩ := ok.seqAt
    subst ea
    rw [bls?_eq h1] at ra
    have ew := ra.bls
    subst ew
    exact ⟨a, ns, rfl, qa, q _ H Fr (Sub.refl _) (Sub.refl _) (ok.pop.pushF rfl)⟩
  · cases e
/-! ### sorted -/
def sortI (ns : List Int) : List Int := ns.mergeSort (fun a b => decide (a ≤ b))
theorem sortI_perm (ns : List Int) : (sortI ns).Perm ns := List.mergeSort_perm _ _
theorem sortI_sorted (ns : List Int) : (sortI ns).Pairwise (· ≤ ·) := by
  have h := List.pairwise_mergeSort (le := fun a b : Int => decide (a ≤ b)) (fun a b c h1 h2 => by simp only [decide_eq_true_eq] at *; omega) (fun a b => by simp only [Bool.or_eq_true, decide_eq_true_eq]; omega) ns
  exact h.imp fun h => by simpa using h
theorem sorted_unique : ∀ {xs ys : List Int}, xs.Perm ys → xs.Pairwise (· ≤ ·) → ys.Pairwise (· ≤ ·) → xs = ys
  | [], ys, p, _, _ => (List.Perm.nil_eq p)
  | x :: xs, [], p, _, _ => absurd p.length_eq (by simp)
  | x :: xs, y :: ys, p, h1, h2 => by
    have hx := List.pairwise_cons.mp h1
    have hy := List.pairwise_cons.mp h2
    have e : x = y := by
      have m1 : x ∈ y :: ys := p.mem_iff.mp List.mem_cons_self
      have m2 : y ∈ x :: xs := p.mem_iff.mpr List.mem_cons_self
      have a1 : x ≤ y := by
        rcases List.mem_cons.mp m2 with h | h
        · omega
        · exact hx.1 y h
      have a2 : y ≤ x := by
        rcases List.mem_cons.mp m1 with h | h
        · omega
        · exact hy.1 x h
      omega
    subst e
    rw [sorted_unique (List.Perm.cons_inv p) hx.2 hy.2]
theorem sortI_eq {ns ms : List Int} (p : ms.Perm ns) (h : ms.Pairwise (· ≤ ·)) : ms = sortI ns := sorted_unique (p.trans (sortI_perm ns).symm) h (sortI_sorted ns)
def oSortedI : List D → Option D
  | [.seq false _ ds] => (ints? ds).map fun ns => .own ((sortI ns).map .int)
  | _ => none
theorem oSortedI_ok : OpS K L oSortedI (rSortedI K) := by
  intro B Fr H σ ρ ds vs Q d ok hl e q
  unfold oSortedI at e
  split at e
  · obtain ⟨ns, h1, rfl⟩ := Option.map_eq_some_iff.mp e
    obtain ⟨v, rfl, ok⟩ := ok1 ok hl
    obtain ⟨a, ws, ea, qa, ra⟩ := ok.seqAt
    subst ea
    rw [ints?_eq h1] at ra
    have ew := ra.ints
    subst ew
    refine ⟨a, ns, rfl, qa, fun ns' p hp hs hn => ?_⟩
    rw [sortI_eq hp hs]
    exact q _ _ Fr (Sub.refl _) (sub_upd hn) (ok.pop.newL hn (RepFs.of_ints _))
  · cases e
/-! ### isinstance -/
def D.tn : D → Option String
  | .non => some "NoneType"
  | .bl _ => some "bool"
  | .int _ => some "int"
  | .str _ => some "str"
  | .seq true _ _ => some "tuple"
  | .seq false _ _ => some "list"
  | .deep .tmp _ => some "list"
  | _ => none
def oIsi : List D → Option D
  | [d, .ty n] => match d.tn with
    | some t => (kitB t n).map .bl
    | none => none
  | _ => none
theorem tyx_of {B Fr H : Hp} {os : List (Option V)} {ds : List D} {d : D} {v : V} {t : String} (x : Ok K L B Fr H (some v :: os) (d :: ds)) (e : d.tn = some t) : TyX K H v (.type t) := by
  have seqs : ∀ (t : Bool) (a : Addr) (vs : List V), SqG K t H a vs → TyX K H (.ref a) (.type (if t then "tuple" else "list")) := fun t a vs q => by
    cases t with
    | true =>
      rcases q with (h | ⟨o, h⟩) | ⟨o, its, n, h1, h2, _⟩
      · exact .base (.tup h)
      · exact .fTuple h
      · exact .kTuple h1 h2
    | false =>
      rcases q with (h | ⟨o, h⟩) | ⟨o, its, n, h1, h2, _⟩
      · exact .base (.lst h)
      · exact .base (.frz h)
      · exact .kList h1 h2
  cases d with
  | non =>
    cases e
    obtain rfl : v = _ := x.topF rfl
    exact .base .non
  | bl b =>
    cases e
    obtain rfl : v = _ := x.topF rfl
    exact .base (.bl b)
  | int b =>
    cases e
    obtain rfl : v = _ := x.topF rfl
    exact .base (.int b)
  | str b =>
    cases e
    obtain rfl : v = _ := x.topF rfl
    exact .base (.str b)
  | seq b k es =>
    obtain ⟨a, vs, ea, qa, _⟩ := x.seqAt
    subst ea
    have z := seqs b a vs qa
    cases b with
    | true => cases e; exact z
    | false => cases e; exact z
  | deep k es =>
    cases k with
    | tmp =>
      cases e
      obtain ⟨F, r⟩ := x.top (by intro z; cases z)
      obtain ⟨_, a, ws, ea, qa, ra⟩ := r
      subst ea
      exact .base (.lst qa)
    | _ => cases e
  | _ => cases e
theorem oIsi_ok : OpS K L oIsi (rIsi K) := by
  intro B Fr H σ ρ ds vs Q d ok hl e q
  unfold oIsi at e
  split at e
  · rename_i d' n
    obtain ⟨v, w, rfl, ok⟩ := ok2 ok hl
    obtain rfl : w = .ty n := ok.pop.topF rfl
    cases e1 : d'.tn with
    | none => rw [e1] at e; cases e
    | some t =>
      rw [e1] at e
      obtain ⟨b, hb, rfl⟩ := Option.map_eq_some_iff.mp e
      exact ⟨_, _, _, _, b, rfl, .ty n, tyx_of ok e1, kit_ty hb, q _ H Fr (Sub.refl _) (Sub.refl _) (ok.pop.pop.pushF rfl)⟩
  · cases e
end
section
variable {X : Cx}
theorem cr_sum2 (hc : X.calm = true) : CallR X (.builtin "sum") (rSum2 X.K) := fun pins s σ H xs us Q I r h => h.elim (fun h => cr_sum hc pins s σ H xs us Q I r h) (fun h => cr_sumT hc pins s σ H xs us Q I r h)
theorem cr_min3 (hc : X.calm = true) : CallR X (.builtin "min") (rMin3 X.K) := fun pins s σ H xs us Q I r h => h.elim (fun h => call_min2 hc pins s σ H xs us Q I r h) (fun h => h.elim (fun h => cr_min hc pins s σ H xs us Q I r h) (fun h => cr_minT hc pins s σ H xs us Q I r h))
theorem cr_max3 (hc : X.calm = true) : CallR X (.builtin "max") (rMax3 X.K) := fun pins s σ H xs us Q I r h => h.elim (fun h => call_max2 hc pins s σ H xs us Q I r h) (fun h => h.elim (fun h => cr_max hc pins s σ H xs us Q I r h) (fun h => cr_maxT hc pins s σ H xs us Q I r h))
end
/-! ### slices -/
def cutD (xs : List D) (lo hi : Option Int) : List D := (xs.drop (HT.sIx xs.length 0 lo)).take (HT.sIx xs.length xs.length hi - HT.sIx xs.length 0 lo)
def oSl (d : D) (lo hi : Option Int) : Option D := match d with
  | .seq false _ ds => some (.own (cutD ds lo hi))
  | .seq true .fz ds => some (.tup (cutD ds lo hi))
  | _ => none
def part : Bool → D → Option (Option Int)
  | false, .non => some none
  | true, .int i => some (some i)
  | _, _ => none
/-- x[lo:hi] (an absent part as None) -/
def eSl (g1 g2 : Bool) (x y z : Ex) : Ex := ⟨x.pu, fun ρ => if (y.pu && z.pu) = true then (x.f ρ).bind fun r => (y.f r.2).bind fun l => match part g1 l.1 with
  | none => .stuck
  | some lo => (z.f l.2).bind fun h => match part g2 h.1 with
    | none => .stuck
    | some hi => give (oSl r.1 lo hi) h.2 else .stuck⟩
def rSl2 (K : PySem.W.Frag) : V → Option Int → Option Int → Hp → VK → Prop := fun x lo hi H Q => (∃ a xs, x = .ref a ∧ SqL K H a xs ∧ ∀ p, H p = none → Q (.ref p) (upd H p (.lst (cutV xs lo hi)))) ∨ rSlX K x lo hi H Q
theorem sl_2 {X : Cx} : SlR X (rSl2 X.K) := sl_list.or sl_tupX
section
variable {K : PySem.W.Frag} {L : Hp}
theorem RepFs.cut {A : Hp} {ds : List D} {vs : List V} (r : RepFs K A ds vs) (lo hi : Option Int) : RepFs K A (cutD ds lo hi) (cutV vs lo hi) := by
  unfold cutD cutV
  rw [r.len]
  exact (r.drop _).take _
theorem cutV_whole {vs : List V} {lo hi : Option Int} (h : HT.sIx vs.length 0 lo = 0 ∧ HT.sIx vs.length vs.length hi = vs.length) : cutV vs lo hi = vs := by
  unfold cutV
  rw [h.1, h.2]
  simp
theorem cutD_whole {ds : List D} {lo hi : Option Int} (h : HT.sIx ds.length 0 lo = 0 ∧ HT.sIx ds.length ds.length hi = ds.length) : cutD ds lo hi = ds := by
  unfold cutD
  rw [h.1, h.2]
  simp
theorem oSl_ok {B Fr H : Hp} {σ : St} {ρ : List D} {d d' : D} {v : V} {lo hi : Option Int} {Q : VK} (ok : Ok K L B Fr H (some v :: σ) (d :: ρ)) (e : oSl d lo hi = some d')
    (q : ∀ v H' Fr', Sub Fr Fr' → Sub H H' → Ok K L B Fr' H' (some v :: σ) (d' :: ρ) → Q v H') : rSl2 K v lo hi H Q := by
  unfold oSl at e
  split at e
  · cases e
    obtain ⟨a, ws, ea, qa, ra⟩ := ok.seqAt
    exact .inl ⟨a, ws, ea, qa, fun p hp => q _ _ Fr (Sub.refl _) (sub_upd hp) (ok.pop.newL hp (ra.cut lo hi))⟩
  · cases e
    obtain ⟨a, ws, ea, qa, ra⟩ := ok.seqAt
    refine .inr ⟨a, ws, ea, qa, fun hw => ?_, fun hw p ob hd hp => ?_⟩
    · have r := ok.topF (d := D.tup _) rfl
      rw [ea] at r
      rw [cutD_whole (by rw [ra.len]; exact hw)] at q
      exact q _ H Fr (Sub.refl _) (Sub.refl _) (ok.pop.pushF r)
    · obtain ⟨s1, ok2⟩ := ok.pop.newT hd hp (ra.cut lo hi)
      exact q _ _ _ s1 (sub_upd hp) ok2
  · cases e
end
def partV (g : Bool) (v : V) (o : Option Int) : Prop := match g with
  | false => v = .non ∧ o = none
  | true => ∃ i, v = .int i ∧ o = some i
section
variable {K : PySem.W.Frag} {L : Hp} {W : WX} {g1 g2 : Bool}
theorem part_of {B Fr H : Hp} {os : List (Option V)} {ds : List D} {d : D} {v : V} {o : Option Int} {g : Bool} (x : Ok K L B Fr H (some v :: os) (d :: ds)) (e : part g d = some o) : partV g v o := by
  cases g with
  | false =>
    cases d with
    | non =>
      cases e
      exact ⟨x.topF rfl, rfl⟩
    | _ => cases e
  | true =>
    cases d with
    | int i =>
      cases e
      exact ⟨i, x.topF rfl, rfl⟩
    | _ => cases e
theorem tE_const {d : D} {v : V} {σ : St} {H : Hp} {Q : VK} (r : ∀ Fr, RepF K Fr d v) (h : tE K L W (eC d) σ H Q) : Q v H := by
  obtain ⟨B, Fr, ρ, ok, st, h⟩ := h
  exact h v H Fr (Sub.refl _) (fun _ => Sub.refl _) st (ok.pushF (r Fr))
theorem eOp_three {op : List D → Option D} {r : List V → Hp → VK → Prop} {x y z : Ex} {σ : St} {H : Hp} {Q : VK} (o : OpS K L op r) (h : tE K L W (eOp op [x, y, z]) σ H Q) :
    tE K L W x σ H fun v H1 => tE K L W y σ H1 fun w H2 => tE K L W z σ H2 fun u H3 => r [v, w, u] H3 Q :=
  (tAs_cons (eOp_tAs o h)).mono fun _ _ q => (tAs_cons q).mono fun _ _ q => (tAs_cons q).mono fun _ _ q => tAs_nil q
end
section
variable {X : Cx} {L : Hp} {W : WX} {a b c : Expr} {x y z : Ex} {pos p2 : Pos} {g1 g2 : Bool} {lo hi : Option Expr}
/-- a part of a slice -/
structure SO (X : Cx) (L : Hp) (W : WX) (e : Option Expr) (g : Bool) (x : Ex) : Prop where
  run : ∃ t, PO X e t ∧ ∀ σ H (Q : Option Int → Hp → Prop), (tE X.K L W x σ H fun v H1 => ∃ o, partV g v o ∧ Q o H1) → t σ H Q
  pu : Pure x
theorem pure_c {d : D} : Pure (eC d) := fun _ ρ r e => by
  have e' : (Out.ok (d, ρ)) = .ok r := e
  injection e' with e'
  rw [← e']
theorem so_non : SO X L W none false (eC .non) := ⟨⟨_, po_none, fun σ H Q h => by
  obtain ⟨o, ⟨_, e⟩, q⟩ := tE_const (d := .non) (v := .non) (fun _ => rfl) h
  subst e
  exact q⟩, pure_c⟩
theorem so_some (h : SE X L W b y) : SO X L W (some b) true y := ⟨⟨_, po_some h.run, fun σ H Q z => z.mono fun v H1 ⟨o, ⟨i, e1, e2⟩, q⟩ => by
  subst e2
  exact ⟨i, e1, q⟩⟩, h.pu⟩
theorem pure_sl (h1 : Pure x) (h2 : Pure y) (h3 : Pure z) : Pure (eSl g1 g2 x y z) := fun pu ρ r e => by
  unfold eSl at e
  dsimp only at e
  by_cases c : (y.pu && z.pu) = true
  · rw [if_pos c] at e
    rw [Bool.and_eq_true] at c
    cases e1 : x.f ρ with
    | exc ex r => rw [e1] at e; cases e
    | stuck => rw [e1] at e; cases e
    | ok q =>
      rw [e1, Out.bind_ok] at e
      cases e2 : y.f q.2 with
      | exc ex r => rw [e2] at e; cases e
      | stuck => rw [e2] at e; cases e
      | ok l =>
        rw [e2, Out.bind_ok] at e
        split at e
        · cases e
        · cases e3 : z.f l.2 with
          | exc ex r => rw [e3] at e; cases e
          | stuck => rw [e3] at e; cases e
          | ok h =>
            rw [e3, Out.bind_ok] at e
            split at e
            · cases e
            · rename_i _ lo e8 _ hi e9
              cases e4 : oSl q.1 lo hi with
              | none => rw [e4] at e; cases e
              | some d =>
                rw [e4] at e
                injection e with e
                rw [← e]
                show h.2 = ρ
                rw [h3 c.2 _ _ e3, h2 c.1 _ _ e2, h1 pu _ _ e1]
  · rw [if_neg c] at e
    cases e
theorem se_sl (ha : SE X L W a x) (hl : SO X L W lo g1 y) (hh : SO X L W hi g2 z) : SE X L W (.Subscript a (.Slice lo hi none p2) pos) (eSl g1 g2 x y z) := by
  obtain ⟨t1, p1, k1⟩ := hl.run
  obtain ⟨t2, p2', k2⟩ := hh.run
  refine ⟨(pe_slice sl_2 ha.run p1 p2').imp fun σ H Q ⟨B, Fr, ρ, ok, st, h⟩ => ⟨B, Fr, ρ, ok, st, ?_⟩, pure_sl ha.pu hl.pu hh.pu⟩
  unfold eSl at h
  dsimp only at h
  by_cases c : (y.pu && z.pu) = true
  · rw [if_pos c] at h
    rw [Bool.and_eq_true] at c
    cases e1 : x.f ρ with
    | exc ex r => rw [e1] at h; exact h
    | stuck => rw [e1] at h; exact h
    | ok q =>
      rw [e1, Out.bind_ok] at h
      intro v H1 Fr1 sf1 pu1 st1 ok1
      obtain ⟨B', sB, ok2, back⟩ := ok1.hide
      refine k1 _ _ _ ⟨B', Fr1, q.2, ok2, st1, ?_⟩
      cases e2 : y.f q.2 with
      | exc ex r => rw [e2] at h; exact Err.more h sB ok.lb sf1
      | stuck => rw [e2] at h; exact h
      | ok l =>
        rw [e2, Out.bind_ok] at h
        intro w H2 Fr2 sf2 pu2 st2 ok3
        cases e5 : part g1 l.1 with
        | none => rw [e5] at h; exact h.elim
        | some lo' =>
          rw [e5] at h
          refine ⟨lo', part_of ok3 e5, k2 _ _ _ ⟨B', Fr2, l.2, ok3.pop, st2, ?_⟩⟩
          dsimp only at h
          cases e3 : z.f l.2 with
          | exc ex r => rw [e3] at h; exact Err.more h sB ok.lb (sf1.trans sf2)
          | stuck => rw [e3] at h; exact h
          | ok u =>
            rw [e3, Out.bind_ok] at h
            intro w2 H3 Fr3 sf3 pu3 st3 ok4
            cases e6 : part g2 u.1 with
            | none => rw [e6] at h; exact h.elim
            | some hi' =>
              rw [e6] at h
              refine ⟨hi', part_of ok4 e6, ?_⟩
              dsimp only at h
              cases e7 : oSl q.1 lo' hi' with
              | none => rw [e7] at h; exact h.elim
              | some d =>
                rw [e7] at h
                have sH : Sub H1 H3 := (pu2 c.1).trans (pu3 c.2)
                exact oSl_ok (back (sf2.trans sf3) (.inr sH) ok4.pop) e7 fun v' H' Fr' a1 a2 a3 => h v' H' Fr' (sf1.trans (sf2.trans (sf3.trans a1))) (fun p => (pu1 p).trans (sH.trans a2)) st3 a3
  · rw [if_neg c] at h
    exact h.elim
end
end Ev

/-! C9: chains; places; changes of owned lists. -/
namespace Ev
open PySem PySem.Spec L2
open PyProof.Rows hiding St

/-! ### a c1 b c2 d, ints -/
def eCh (c1 c2 : Int → Int → Bool) (x y z : Ex) : Ex := ⟨x.pu && (y.pu && z.pu), fun ρ => (x.f ρ).bind fun r1 => match r1.1 with
  | .int i => (y.f r1.2).bind fun r2 => match r2.1 with
    | .int j => if c1 i j = true then (z.f r2.2).bind fun r3 => match r3.1 with
        | .int k => .ok (.bl (c2 j k), r3.2)
        | _ => .stuck
      else .ok (.bl false, r2.2)
    | _ => .stuck
  | _ => .stuck⟩
def cLt (i j : Int) : Bool := decide (i < j)
def cLe (i j : Int) : Bool := decide (i ≤ j)
def cGt (i j : Int) : Bool := decide (j < i)
def cGe (i j : Int) : Bool := decide (j ≤ i)
theorem pure_ch {c1 c2 : Int → Int → Bool} {x y z : Ex} (h1 : Pure x) (h2 : Pure y) (h3 : Pure z) : Pure (eCh c1 c2 x y z) := fun pu ρ r e => by
  have p := Bool.and_eq_true_iff.mp (show (x.pu && (y.pu && z.pu)) = true from pu)
  have p2 := Bool.and_eq_true_iff.mp p.2
  unfold eCh at e
  dsimp only at e
  cases e1 : x.f ρ with
  | exc ex r => rw [e1] at e; cases e
  | stuck => rw [e1] at e; cases e
  | ok q1 =>
    rw [e1, Out.bind_ok] at e
    have k1 := h1 p.1 _ _ e1
    obtain ⟨d1, ρ1⟩ := q1
    cases d1 with
    | int i =>
      dsimp only at e k1
      subst k1
      cases e2 : y.f ρ1 with
      | exc ex r => rw [e2] at e; cases e
      | stuck => rw [e2] at e; cases e
      | ok q2 =>
        rw [e2, Out.bind_ok] at e
        have k2 := h2 p2.1 _ _ e2
        obtain ⟨d2, ρ2⟩ := q2
        cases d2 with
        | int j =>
          dsimp only at e k2
          subst k2
          split at e
          · cases e3 : z.f ρ2 with
            | exc ex r => rw [e3] at e; cases e
            | stuck => rw [e3] at e; cases e
            | ok q3 =>
              rw [e3, Out.bind_ok] at e
              have k3 := h3 p2.2 _ _ e3
              obtain ⟨d3, ρ3⟩ := q3
              cases d3 with
              | int k => injection e with e; rw [← e]; exact k3
              | _ => cases e
          · injection e with e; rw [← e]
        | _ => cases e
    | _ => cases e
section
variable {K : PySem.W.Frag} {L : Hp} {W : WX}
theorem tE_chain {c1 c2 : Int → Int → Bool} {x y z : Ex} {σ : St} {H : Hp} {Q : VK} (h : tE K L W (eCh c1 c2 x y z) σ H Q) :
    tChain (rI0 fun i j => .bl (c1 i j)) (rI0 fun i j => .bl (c2 i j)) (tE K L W x) (tE K L W y) (tE K L W z) σ H Q := by
  obtain ⟨B, Fr, ρ, ok, st, h⟩ := h
  refine ⟨B, Fr, ρ, ok, st, ?_⟩
  unfold eCh at h
  dsimp only at h
  cases e1 : x.f ρ with
  | exc ex r => rw [e1] at h; exact h
  | stuck => rw [e1] at h; exact h
  | ok q1 =>
    rw [e1, Out.bind_ok] at h
    obtain ⟨d1, ρ1⟩ := q1
    cases d1 with
    | int i =>
      dsimp only at h
      intro v H1 Fr1 sf1 pu1 st1 ok1
      have ev : v = .int i := ok1.topF rfl
      subst ev
      have ok1 := ok1.pop
      refine ⟨B, Fr1, ρ1, ok1, st1, ?_⟩
      cases e2 : y.f ρ1 with
      | exc ex r => rw [e2] at h; exact Err.more h (Sub.refl _) ok.lb sf1
      | stuck => rw [e2] at h; exact h
      | ok q2 =>
        rw [e2, Out.bind_ok] at h
        obtain ⟨d2, ρ2⟩ := q2
        cases d2 with
        | int j =>
          dsimp only at h
          intro w H2 Fr2 sf2 pu2 st2 ok2
          have ew : w = .int j := ok2.topF rfl
          subst ew
          have ok2 := ok2.pop
          refine ⟨i, j, rfl, rfl, c1 i j, rfl, ?_⟩
          by_cases c : c1 i j = true
          · rw [if_pos c] at h ⊢
            refine ⟨B, Fr2, ρ2, ok2, st2, ?_⟩
            cases e3 : z.f ρ2 with
            | exc ex r => rw [e3] at h; exact Err.more h (Sub.refl _) ok.lb (sf1.trans sf2)
            | stuck => rw [e3] at h; exact h
            | ok q3 =>
              rw [e3, Out.bind_ok] at h
              obtain ⟨d3, ρ3⟩ := q3
              cases d3 with
              | int k =>
                intro u H3 Fr3 sf3 pu3 st3 ok3
                have eu : u = .int k := ok3.topF rfl
                subst eu
                refine ⟨j, k, rfl, rfl, h _ H3 Fr3 (sf1.trans (sf2.trans sf3)) (fun p => ?_) st3 (ok3.pop.pushF rfl)⟩
                have p' := Bool.and_eq_true_iff.mp p
                have p2 := Bool.and_eq_true_iff.mp p'.2
                exact (pu1 p'.1).trans ((pu2 p2.1).trans (pu3 p2.2))
              | _ => exact h.elim
          · rw [if_neg c] at h ⊢
            exact h _ H2 Fr2 (sf1.trans sf2) (fun p => (pu1 (Bool.and_eq_true_iff.mp p).1).trans (pu2 (Bool.and_eq_true_iff.mp (Bool.and_eq_true_iff.mp p).2).1)) st2 (ok2.pushF rfl)
        | _ => exact h.elim
    | _ => exact h.elim
theorem ch_bl {c1 c2 : Int → Int → Bool} {x y z : Ex} (ρ : List D) (r : D × List D) (e : (eCh c1 c2 x y z).f ρ = .ok r) : ∃ b, r.1 = .bl b := by
  unfold eCh at e
  dsimp only at e
  cases e1 : x.f ρ with
  | exc ex r => rw [e1] at e; cases e
  | stuck => rw [e1] at e; cases e
  | ok q1 =>
    rw [e1, Out.bind_ok] at e
    split at e
    · cases e2 : y.f q1.2 with
      | exc ex r => rw [e2] at e; cases e
      | stuck => rw [e2] at e; cases e
      | ok q2 =>
        rw [e2, Out.bind_ok] at e
        split at e
        · split at e
          · cases e3 : z.f q2.2 with
            | exc ex r => rw [e3] at e; cases e
            | stuck => rw [e3] at e; cases e
            | ok q3 =>
              rw [e3, Out.bind_ok] at e
              split at e
              · injection e with e; exact ⟨_, by rw [← e]⟩
              · cases e
          · injection e with e; exact ⟨_, by rw [← e]⟩
        · cases e
    · cases e
end
section
variable {X : Cx} {L : Hp} {W : WX} {a b c : Expr} {x y z : Ex} {pos : Pos} {o o' : CmpOp} {c1 c2 : Int → Int → Bool}
theorem se_ch (h1 : OpR X (compareOp o) (rI0 fun i j => .bl (c1 i j))) (h2 : OpR X (compareOp o') (rI0 fun i j => .bl (c2 i j))) (ha : SE X L W a x) (hb : SE X L W b y) (hc : SE X L W c z)
    (hm : lastMarks [o, o'] [b, c] = false := by with_unfolding_all rfl) : SE X L W (.Compare a [o, o'] [b, c] pos) (eCh c1 c2 x y z) :=
  ⟨(pe_chain h1 h2 ha.run hb.run hc.run hm).imp fun _ _ _ h => tE_chain h, pure_ch ha.pu hb.pu hc.pu⟩
theorem st_ch (h1 : OpR X (compareOp o) (rI0 fun i j => .bl (c1 i j))) (h2 : OpR X (compareOp o') (rI0 fun i j => .bl (c2 i j))) (ha : SE X L W a x) (hb : SE X L W b y) (hc : SE X L W c z)
    (hm : lastMarks [o, o'] [b, c] = false := by with_unfolding_all rfl) : ST X L W (.Compare a [o, o'] [b, c] pos) (eCh c1 c2 x y z) :=
  ⟨(pt_chain h1 h2 ha.run hb.run hc.run hm).imp fun _ _ _ h => tE_chain (tT_bl ch_bl h), pure_ch ha.pu hb.pu hc.pu⟩
end

/-! ### places: an owned list, by name or within an owned list of lists -/
structure Pc where
  dp : Bool
  get : List D → Option (List D)
  put : List D → List D → List D
/-- what may have happened since the place was looked at -/
def Pc.late (pl : Pc) (H : Hp) (ρ : List D) (H' : Hp) (ρ' : List D) : Prop := pl.dp = true → ρ' = ρ ∧ Sub H H'
/-- the list at p is at the place -/
structure At (K : PySem.W.Frag) (L B Fr H : Hp) (σ : St) (pl : Pc) (ρ es : List D) (p : Addr) : Prop where
  ex : ∃ vs, H p = some (.lst vs) ∧ RepFs K Fr es vs
  wr : ∀ es' vs', RepFs K Fr es' vs' → Ok K L B Fr (upd H p (.lst vs')) σ (pl.put ρ es')
  st : ∀ es', stbs (pl.put ρ es') = true
def tP (K : PySem.W.Frag) (L : Hp) (pl : Pc) : TE := fun σ H Q => ∃ B Fr ρ es, Ok K L B Fr H σ ρ ∧ stbs ρ = true ∧ pl.get ρ = some es ∧
  ∀ p H1 Fr1, Sub Fr Fr1 → Sub H H1 → Ok K L B Fr1 H1 σ ρ → (∀ B' Fr' H' ρ' es', Sub B B' → Sub Fr1 Fr' → Ok K L B' Fr' H' σ ρ' → stbs ρ' = true → pl.late H1 ρ H' ρ' → pl.get ρ' = some es' → At K L B' Fr' H' σ pl ρ' es' p) → Q (.ref p) H1
structure SP (X : Cx) (L : Hp) (e : Expr) (pl : Pc) : Prop where
  run : PE X e (tP X.K L pl)

def getO (ρ : List D) (i : Nat) : Option (List D) := match ρ[i]? with
  | some (.seq false .own es) => some es
  | _ => none
theorem getO_eq {ρ es : List D} {i : Nat} (h : getO ρ i = some es) : ρ[i]? = some (D.own es) := by
  unfold getO at h
  split at h
  · rename_i e; cases h; exact e
  · cases h
def pN (i : Nat) : Pc := ⟨false, fun ρ => getO ρ i, fun ρ es => ρ.set i (.own es)⟩
section
variable {K : PySem.W.Frag} {L B Fr H : Hp}
theorem Ok.slotAt {σ : St} {ρ es : List D} {i : Nat} {v : V} (ok : Ok K L B Fr H σ ρ) (st : stbs ρ = true) (g : getO ρ i = some es) (hv : σ[i]? = some (some v)) : ∃ p, v = .ref p ∧ At K L B Fr H σ (pN i) ρ es p := by
  obtain ⟨v', ev, ok2⟩ := ok.out (getO_eq g) (by intro z; cases z)
  have : v' = v := by rw [ev] at hv; cases hv; rfl
  subst this
  obtain ⟨_, p, vs, rfl, hp, r⟩ := ok2.ownAt
  have st0 : stbs (ρ.set i .unset) = true := stbs_set rfl i st
  refine ⟨p, rfl, ⟨vs, hp, r⟩, fun es' vs' r' => ?_, fun es' => stbs_set rfl i st⟩
  have z := (ok2.change st0 r').back ev
  rw [List.set_set] at z
  exact z
end
section
variable {X : Cx} {L : Hp} {x : Str} {pos : Pos}
theorem sp_name (i : Nat) (hN : X.N[i]? = some x := by rfl) (hv : Vis X.env.scope x := by first | exact Or.inl rfl | exact Or.inr (Or.inl rfl) | exact Or.inr (Or.inr rfl)) (hd : (x == ("__debug__" : Str)) = false := by decide)
    (hcd : (x == ("__classdict__" : Str)) = false := by decide) : SP X L (.Name x pos) (pN i) := by
  refine ⟨(pe_var hN hv hd hcd).imp fun σ H Q ⟨B, Fr, ρ, es, ok, st, g, h⟩ => ?_⟩
  obtain ⟨v, ev, _⟩ := ok.lookAt (getO_eq g) (by intro z; cases z)
  obtain ⟨p, rfl, a⟩ := ok.slotAt st g ev
  refine ⟨_, ev, h p H Fr (Sub.refl _) (Sub.refl _) ok fun B' Fr' H' ρ' es' sB sF ok' st' _ g' => ?_⟩
  obtain ⟨p', e', a'⟩ := ok'.slotAt st' g' ev
  cases e'
  exact a'
end

/-! ### methods that change -/
/-- op: the list, the arguments: the result, the list -/
abbrev Mu := List D → List D → Option (D × List D)
def OpM (K : PySem.W.Frag) (L : Hp) (op : Mu) (r : V → List V → Hp → VK → Prop) : Prop :=
  ∀ (B Fr H : Hp) (σ : St) (ρ ds es es' : List D) (vs ws : List V) (p : Addr) (Q : VK) (d : D), Ok K L B Fr H (vs.map some ++ σ) (ds ++ ρ) → vs.length = ds.length → op es ds = some (d, es') → H p = some (.lst ws) → RepFs K Fr es ws →
    (∀ v ws' Fr', Sub Fr Fr' → Ok K L B Fr' H σ ρ → RepFs K Fr' es' ws' → RepF K Fr' d v → Q v (upd H p (.lst ws'))) → r (.ref p) vs H Q
def eMut (pl : Pc) (op : Mu) (xs : List Ex) : Ex := ⟨false, fun ρ => match pl.get ρ with
  | none => .stuck
  | some _ => if (!pl.dp || pus xs) = true then (evs xs ρ).bind fun r => match pl.get r.2 with
    | none => .stuck
    | some es => match op es r.1 with
      | none => .stuck
      | some q => .ok (q.1, pl.put r.2 q.2)
    else .stuck⟩
section
variable {K : PySem.W.Frag} {L : Hp} {W : WX}
theorem tE_mut {pl : Pc} {op : Mu} {r : V → List V → Hp → VK → Prop} {xs : List Ex} (hp : ∀ x ∈ xs, Pure x) (o : OpM K L op r) {σ : St} {H : Hp} {Q : VK} (h : tE K L W (eMut pl op xs) σ H Q) :
    tP K L pl σ H fun x H1 => tyV K "list" x H1 ∧ tAs K L W xs σ H1 fun vs H2 => r x vs H2 Q := by
  obtain ⟨B, Fr, ρ, ok, st, h⟩ := h
  unfold eMut at h
  dsimp only at h
  cases e1 : pl.get ρ with
  | none => rw [e1] at h; exact h.elim
  | some es0 =>
    rw [e1] at h
    dsimp only at h
    refine ⟨B, Fr, ρ, es0, ok, st, e1, fun p H0 Fr0 sf0 sh0 ok0 hat => ?_⟩
    obtain ⟨vs0, hp0, r0⟩ := (hat B Fr0 H0 ρ es0 (Sub.refl _) (Sub.refl _) ok0 st (fun _ => ⟨rfl, Sub.refl _⟩) e1).ex
    refine ⟨.inl ⟨rfl, vs0, .inl (.inl hp0)⟩, B, Fr0, ρ, ok0, st, ?_⟩
    by_cases c : (!pl.dp || pus xs) = true
    · rw [if_pos c] at h
      cases e2 : evs xs ρ with
      | exc ex r => rw [e2] at h; exact Err.more h (Sub.refl _) ok.lb sf0
      | stuck => rw [e2] at h; exact h
      | ok q =>
        rw [e2, Out.bind_ok] at h
        intro vs H1 Fr1 hl sf pu st1 ok1
        cases e3 : pl.get q.2 with
        | none => rw [e3] at h; exact h.elim
        | some es =>
          rw [e3] at h
          dsimp only at h
          cases e4 : op es q.1 with
          | none => rw [e4] at h; exact h.elim
          | some z =>
            rw [e4] at h
            obtain ⟨d, es'⟩ := z
            have late : pl.late H0 ρ H1 q.2 := fun hd => by
              rw [hd] at c
              have pp : pus xs = true := by simpa using c
              exact ⟨evs_pure hp pp _ _ e2, pu pp⟩
            have pops : ∀ {vs : List V} {ds : List D} {Fr' : Hp}, vs.length = ds.length → Ok K L B Fr' H1 (vs.map some ++ σ) (ds ++ q.2) → Ok K L B Fr' H1 σ q.2 := by
              intro vs
              induction vs with
              | nil => intro ds Fr' hl ok; cases ds with
                | nil => exact ok
                | cons _ _ => cases hl
              | cons v vs ih => intro ds Fr' hl ok; cases ds with
                | nil => cases hl
                | cons d ds => exact ih (Nat.succ.inj hl) ok.pop
            obtain ⟨ws, hw, rw'⟩ := (hat B Fr1 H1 q.2 es (Sub.refl _) sf (pops hl ok1) st1 late e3).ex
            refine o B Fr1 H1 σ q.2 q.1 es es' vs ws p Q d ok1 hl e4 hw rw' fun v ws' Fr2 sf2 ok2 r2 rd => ?_
            have a2 := hat B Fr2 H1 q.2 es (Sub.refl _) (sf.trans sf2) ok2 st1 late e3
            exact h v _ Fr2 (sf0.trans (sf.trans sf2)) (fun z => nomatch z) (a2.st es') ((a2.wr es' ws' r2).pushF rd)
    · rw [if_neg c] at h
      exact h.elim
end
section
variable {X : Cx} {L : Hp} {W : WX} {o e : Expr} {es : List Expr} {xs : List Ex} {pl : Pc} {op : Mu} {name : Str} {apos cpos : Pos} {id : String} {r : V → List V → Hp → VK → Prop}
theorem se_mut0 (slot : Slot "list" name id) (hty : typeOf (.builtin id) = pure (.type "method_descriptor")) (hm : MtR X id r) (os : OpM X.K L op r) (ho : SP X L o pl)
    (hbase : attributeBase o name X.env (eval o X.env) = eval o X.env := by rfl) (hline : (apos.endLine == cpos.line) = true := by rfl) : SE X L W (.Call (.Attribute o name apos) [] [] cpos) (eMut pl op []) :=
  ⟨(pe_bm0 PySem.F.plainAttrs_list slot hty hm ho.run hbase hline).imp fun _ _ _ h => by
    obtain ⟨B, Fr, ρ, es, ok, st, g, k⟩ := tE_mut (W := W) (fun _ h => by cases h) os h
    exact ⟨B, Fr, ρ, es, ok, st, g, fun p H1 Fr1 a b c q => ⟨(k p H1 Fr1 a b c q).1, tAs_nil (k p H1 Fr1 a b c q).2⟩⟩, fun z => nomatch z⟩
theorem se_mut (slot : Slot "list" name id) (hty : typeOf (.builtin id) = pure (.type "method_descriptor")) (hm : MtR X id r) (os : OpM X.K L op r) (ho : SP X L o pl) (ha : SA X L W (e :: es) xs)
    (hbase : attributeBase o name X.env (eval o X.env) = eval o X.env := by rfl)
    (hfew : ((backTo cpos (starEach (e :: es) X.env)).all (fun x => !x.1) && (backToKw cpos (keywordEach [] X.env)).all (fun x => x.1.isSome)
      && decide ((e :: es).length + ([] : List Keyword).length + (if ([] : List Keyword).isEmpty then 0 else 1) < 30)) = true := by rfl)
    (hline : (apos.endLine == cpos.line) = true := by rfl) (hs : starEach (e :: es) X.env = (false, eval e X.env) :: starEach es X.env := by rfl) (hplain : (backTo cpos (starEach es X.env)).any (·.1) = false := by rfl) :
    SE X L W (.Call (.Attribute o name apos) (e :: es) [] cpos) (eMut pl op xs) :=
  ⟨(pe_bm PySem.F.plainAttrs_list slot hty hm ho.run ha.run hbase hfew hline hs hplain).imp fun _ _ _ h => tE_mut ha.pu os h, fun z => nomatch z⟩
end
def mAppend : Mu := fun es ds => match ds with
  | [d] => if (d.canFz && decide (es.length < sizeLine)) = true then some (.non, es ++ [d.frz]) else none
  | _ => none
def mExtend : Mu := fun es ds => match ds with
  | [.seq false k xs] => if k ≠ .scr ∧ es.length + xs.length ≤ sizeLine then some (.non, es ++ xs) else none
  | _ => none
def mInsert : Mu := fun es ds => match ds with
  | [.int i, d] => if (d.canFz && decide (es.length < sizeLine ∧ 0 ≤ i ∧ i < 2 ^ 63)) = true then some (.non, es.take i.toNat ++ [d.frz] ++ es.drop i.toNat) else none
  | _ => none
def mPop : Mu := fun es ds => match ds with
  | [] => match es[es.length - 1]? with
    | some d => some (d, es.dropLast)
    | none => none
  | [.int i] => if es.length < 2 ^ 62 then match ixN es.length i with
      | some k => match es[k]? with
        | some d => some (d, es.eraseIdx k)
        | none => none
      | none => none
    else none
  | _ => none
def mReverse : Mu := fun es ds => match ds with
  | [] => some (.non, es.reverse)
  | _ => none
def mClear : Mu := fun es ds => match ds with
  | [] => some (.non, [])
  | _ => none
def mSort : Mu := fun es ds => match ds with
  | [] => (ints? es).map fun ns => (.non, (sortI ns).map .int)
  | _ => none
section
variable {K : PySem.W.Frag} {L : Hp}
theorem if_some' {α : Type} {c : Prop} [Decidable c] {x d : α} (h : (if c then some x else none) = some d) : c ∧ x = d := by
  by_cases k : c
  · rw [if_pos k] at h; exact ⟨k, Option.some.inj h⟩
  · rw [if_neg k] at h; cases h
theorem mAppend_ok : OpM K L mAppend rAppend := by
  intro B Fr H σ ρ ds es es' vs ws p Q d ok hl e hp r q
  unfold mAppend at e
  split at e
  · rename_i d0
    obtain ⟨c, e⟩ := if_some' e
    cases e
    rw [Bool.and_eq_true, decide_eq_true_eq] at c
    obtain ⟨v, rfl, ok⟩ := ok1 ok hl
    obtain ⟨Fr', sf, rd, ok'⟩ := ok.pull c.1
    exact ⟨p, ws, v, rfl, rfl, hp, by rw [← r.len]; exact c.2, q .non _ Fr' sf ok' (RepFs.app (r.sub sf) (show RepFs K Fr' [d0.frz] [v] from ⟨rd, trivial⟩)) rfl⟩
  · cases e
theorem mExtend_ok : OpM K L mExtend rExtend := by
  intro B Fr H σ ρ ds es es' vs ws p Q d ok hl e hp r q
  unfold mExtend at e
  split at e
  · rename_i k xs
    split at e
    · rename_i c
      cases e
      obtain ⟨v, rfl, ok⟩ := ok1 ok hl
      obtain ⟨a, zs, rfl, qa, ra⟩ := ok.seqRd c.1
      exact ⟨p, a, ws, zs, rfl, rfl, hp, qa, by rw [← r.len, ← ra.len]; exact c.2, q .non _ Fr (Sub.refl _) ok.pop (RepFs.app r ra) rfl⟩
    · cases e
  · cases e
theorem mInsert_ok : OpM K L mInsert (fun x vs H Q => ∃ (l : Addr) (xs : List V) (i : Int) (y : V), x = .ref l ∧ vs = [.int i, y] ∧ H l = some (.lst xs) ∧ xs.length < sizeLine ∧ 0 ≤ i ∧ i < 2 ^ 63 ∧
    Q .non (upd H l (.lst (xs.take i.toNat ++ [y] ++ xs.drop i.toNat)))) := by
  intro B Fr H σ ρ ds es es' vs ws p Q d ok hl e hp r q
  unfold mInsert at e
  split at e
  · rename_i i d0
    obtain ⟨c, e⟩ := if_some' e
    cases e
    rw [Bool.and_eq_true, decide_eq_true_eq] at c
    obtain ⟨v, w, rfl, ok⟩ := ok2 ok hl
    have ev : v = .int i := ok.topF rfl
    subst ev
    have ok := ok.pop
    obtain ⟨Fr', sf, rd, ok'⟩ := ok.pull c.1
    refine ⟨p, ws, i, w, rfl, rfl, hp, by rw [← r.len]; exact c.2.1, c.2.2.1, c.2.2.2, q .non _ Fr' sf ok' ?_ rfl⟩
    have r' := r.sub sf
    exact RepFs.app (RepFs.app (r'.take i.toNat) (show RepFs K Fr' [d0.frz] [w] from ⟨rd, trivial⟩)) (r'.drop i.toNat)
  · cases e
theorem RepFs.dropLast {A : Hp} {ds : List D} {vs : List V} (r : RepFs K A ds vs) : RepFs K A ds.dropLast vs.dropLast := by
  rw [List.dropLast_eq_take, List.dropLast_eq_take, ← r.len]
  exact r.take _
theorem RepFs.erase {A : Hp} : ∀ {ds : List D} {vs : List V} (i : Nat), RepFs K A ds vs → RepFs K A (ds.eraseIdx i) (vs.eraseIdx i)
  | [], [], _, h => h
  | [], _ :: _, _, h => h.elim
  | _ :: _, [], _, h => h.elim
  | d :: ds, v :: vs, 0, h => h.2
  | d :: ds, v :: vs, i + 1, h => ⟨h.1, RepFs.erase i h.2⟩
theorem RepFs.rev {A : Hp} : ∀ {ds : List D} {vs : List V}, RepFs K A ds vs → RepFs K A ds.reverse vs.reverse
  | [], [], h => h
  | [], _ :: _, h => h.elim
  | _ :: _, [], h => h.elim
  | d :: ds, v :: vs, h => by
    rw [List.reverse_cons, List.reverse_cons]
    exact RepFs.app (RepFs.rev h.2) ⟨h.1, trivial⟩
def rPop2 : V → List V → Hp → VK → Prop := fun x vs H Q => rPop x vs H Q ∨ rPopAt x vs H Q
theorem mPop_ok : OpM K L mPop rPop2 := by
  intro B Fr H σ ρ ds es es' vs ws p Q d ok hl e hp r q
  unfold mPop at e
  split at e
  · cases e1 : es[es.length - 1]? with
    | none => rw [e1] at e; cases e
    | some d0 =>
      rw [e1] at e
      cases e
      have : vs = [] := List.eq_nil_of_length_eq_zero hl
      subst this
      obtain ⟨v, hv, rv⟩ := r.get e1
      exact .inl ⟨p, ws, v, rfl, rfl, hp, by rw [← r.len]; exact hv, q v _ Fr (Sub.refl _) ok r.dropLast rv⟩
  · rename_i i
    have hs : es.length < 2 ^ 62 := by
      by_cases c : es.length < 2 ^ 62
      · exact c
      · rw [if_neg c] at e; cases e
    rw [if_pos hs] at e
    cases e0 : ixN es.length i with
    | none => rw [e0] at e; cases e
    | some k =>
      rw [e0] at e
      dsimp only at e
      cases e1 : es[k]? with
      | none => rw [e1] at e; cases e
      | some d0 =>
        rw [e1] at e
        cases e
        obtain ⟨v, rfl, ok⟩ := ok1 ok hl
        have ev : v = .int i := ok.topF rfl
        subst ev
        obtain ⟨w, hw, rw'⟩ := r.get e1
        obtain ⟨h1, h2, h3, h4⟩ := ixN_seq e0
        exact .inr ⟨p, ws, i, k, w, rfl, rfl, hp, by omega, by omega, by rw [← r.len]; exact h1, hw, q w _ Fr (Sub.refl _) ok.pop (r.erase k) rw'⟩
  · cases e
theorem mReverse_ok : OpM K L mReverse rReverse := by
  intro B Fr H σ ρ ds es es' vs ws p Q d ok hl e hp r q
  unfold mReverse at e
  split at e
  · cases e
    have : vs = [] := List.eq_nil_of_length_eq_zero hl
    subst this
    exact ⟨p, ws, rfl, rfl, hp, q .non _ Fr (Sub.refl _) ok r.rev rfl⟩
  · cases e
theorem mClear_ok : OpM K L mClear rClear := by
  intro B Fr H σ ρ ds es es' vs ws p Q d ok hl e hp r q
  unfold mClear at e
  split at e
  · cases e
    have : vs = [] := List.eq_nil_of_length_eq_zero hl
    subst this
    exact ⟨p, ws, rfl, rfl, hp, q .non [] Fr (Sub.refl _) ok trivial rfl⟩
  · cases e
theorem mSort_ok : OpM K L mSort rSortI := by
  intro B Fr H σ ρ ds es es' vs ws p Q d ok hl e hp r q
  unfold mSort at e
  split at e
  · obtain ⟨ns, e1, e2⟩ := Option.map_eq_some_iff.mp e
    cases e2
    have : vs = [] := List.eq_nil_of_length_eq_zero hl
    subst this
    have := ints?_eq e1
    subst this
    have ew : ws = ns.map V.int := r.ints
    subst ew
    refine ⟨p, ns, rfl, rfl, hp, fun ns' pm pw => ?_⟩
    have := sortI_eq pm pw
    subst this
    exact q .non _ Fr (Sub.refl _) ok (RepFs.of_ints _) rfl
  · cases e
end
section
variable {X : Cx} {L : Hp} {W : WX} {o e : Expr} {es : List Expr} {xs : List Ex} {pl : Pc} {apos cpos : Pos}
theorem mt_pop2 : MtR X "list.pop" rPop2 := MtR.or mt_pop mt_popAt
end
end Ev

/-! C10: stores into lists; the inner lists of an owned list of lists. -/
namespace Ev
open PySem PySem.Spec L2
open PyProof.Rows hiding St

section
variable {K : PySem.W.Frag} {L B Fr H : Hp}
/-- an inner list is changed -/
theorem Reps.chg : ∀ {ds : List D} {vs : List V} {F : List Addr} {n : Nat} {es : List D}, Reps K B Fr H ds vs F → stbs ds = true → F.Nodup → ds[n]? = some (D.own es) →
    ∃ p, vs[n]? = some (.ref p) ∧ p ∈ F ∧ (∃ ws, H p = some (.lst ws) ∧ RepFs K Fr es ws) ∧ ∀ es' ws', RepFs K Fr es' ws' → Reps K B Fr (upd H p (.lst ws')) (ds.set n (D.own es')) vs F
  | [], _, _, _, _, _, _, _, e => by simp at e
  | _ :: _, [], _, _, _, h, _, _, _ => False.elim h
  | d :: ds, v :: vs, F, 0, es, h, st, nd, e => by
    obtain ⟨F1, F2, e0, r1, r2⟩ := h
    have e' : d = D.own es := by simpa using e
    subst e' e0
    obtain ⟨p, ws, rfl, eF, ⟨hp, _⟩, rs⟩ := r1
    subst eF
    have nd' := List.nodup_append.mp nd
    have np : p ∉ F2 := fun m => nd'.2.2 p List.mem_cons_self p m rfl
    have st' := Bool.and_eq_true_iff.mp (show ((D.own es).stb && stbs ds) = true from st)
    refine ⟨p, rfl, List.mem_append_left _ List.mem_cons_self, ⟨ws, hp, rs⟩, fun es' ws' r' => ⟨[p], F2, rfl, ⟨p, ws', rfl, rfl, ⟨upd_same, rfl⟩, r'⟩, ?_⟩⟩
    exact Reps.keep (Sub.refl _) (Sub.refl _) r2 (fun a ha o q => by rw [upd_ne (fun z : a = p => np (by rw [← z]; exact ha))]; exact q) (.inl st'.2)
  | d :: ds, v :: vs, F, n + 1, es, h, st, nd, e => by
    obtain ⟨F1, F2, e0, r1, r2⟩ := h
    subst e0
    have nd' := List.nodup_append.mp nd
    have st' := Bool.and_eq_true_iff.mp (show (d.stb && stbs ds) = true from st)
    obtain ⟨p, h1, h2, h3, h4⟩ := Reps.chg (n := n) r2 st'.2 nd'.2.1 (by simpa using e)
    refine ⟨p, by simpa using h1, List.mem_append_right _ h2, h3, fun es' ws' r' => ⟨F1, F2, rfl, ?_, h4 es' ws' r'⟩⟩
    exact r1.keep (Sub.refl _) (Sub.refl _) (fun a ha o q => by rw [upd_ne (fun z : a = p => nd'.2.2 a ha p h2 z)]; exact q) (.inl st'.1)
/-- .. of an owned list of lists on top -/
theorem Ok.changeD {os : List (Option V)} {ds ρ : List D} {v : V} {n : Nat} {es : List D} (x : Ok K L B Fr H (some v :: os) (.deep .own ds :: ρ)) (st : stbs ρ = true) (sd : stbs ds = true) (e : ds[n]? = some (D.own es)) :
    ∃ a p vs, v = .ref a ∧ H a = some (.lst vs) ∧ ds.length = vs.length ∧ vs[n]? = some (.ref p) ∧ (∃ ws, H p = some (.lst ws) ∧ RepFs K Fr es ws) ∧
      ∀ es' ws', RepFs K Fr es' ws' → Ok K L B Fr (upd H p (.lst ws')) (some v :: os) (.deep .own (ds.set n (D.own es')) :: ρ) := by
  obtain ⟨F, ⟨F1, F2, e0, r1, r2⟩, nd, k⟩ := x.rep
  subst e0
  rcases r1 with ⟨z, _⟩ | ⟨w, ew, r1⟩
  · cases z
  cases ew
  obtain ⟨a, vs, G, ea, eF, q, rs⟩ := r1
  subst ea eF
  have nd' := List.nodup_append.mp nd
  have nda := List.nodup_cons.mp nd'.1
  obtain ⟨p, h1, h2, h3, h4⟩ := Reps.chg rs sd nda.2 e
  have pa : p ≠ a := fun z => nda.1 (by rw [← z]; exact h2)
  have kp := k p (List.mem_append_left _ (List.mem_cons_of_mem _ h2))
  refine ⟨a, p, vs, rfl, q, rs.len, h1, h3, fun es' ws' r' => ?_⟩
  have sf : Sub Fr (upd H p (.lst ws')) := fun b o e => by
    rw [upd_ne (fun z => by subst z; rw [kp.1] at e; cases e)]; exact x.fr _ _ e
  have sb : Sub B (upd H p (.lst ws')) := fun b o e => by
    rw [upd_ne (fun z => by subst z; rw [kp.2] at e; cases e)]; exact x.br _ _ e
  refine ⟨sf, sb, x.lb, x.dj, (a :: G) ++ F2, ⟨a :: G, F2, rfl, .inr ⟨_, rfl, a, vs, G, rfl, rfl, by rw [upd_ne (Ne.symm pa)]; exact q, h4 es' ws' r'⟩, r2.keep (Sub.refl _) (Sub.refl _) (fun b hb o q => ?_) (.inl st)⟩, nd, k⟩
  rw [upd_ne (fun z : b = p => nd'.2.2 p (List.mem_cons_of_mem _ h2) b hb z.symm)]
  exact q
end
/-- the inner list k of slot i -/
def atD (i : Nat) (k : Ex) (ρ : List D) : Option (List D × Nat × List D) := match ρ[i]? with
  | some (.deep .own ds) => match k.f ρ with
    | .ok (.int j, _) => match ixN ds.length j with
      | some n => match ds[n]? with
        | some (.seq false .own es) => some (ds, n, es)
        | _ => none
      | none => none
    | _ => none
  | _ => none
def pD (i : Nat) (k : Ex) : Pc := ⟨true, fun ρ => (atD i k ρ).map (·.2.2), fun ρ es => match atD i k ρ with
  | some (ds, n, _) => ρ.set i (.deep .own (ds.set n (.own es)))
  | none => ρ⟩
theorem atD_eq {i : Nat} {k : Ex} {ρ ds es : List D} {n : Nat} (h : atD i k ρ = some (ds, n, es)) : ρ[i]? = some (.deep .own ds) ∧ ds[n]? = some (D.own es) ∧ ∃ j r, k.f ρ = .ok (.int j, r) ∧ ixN ds.length j = some n := by
  unfold atD at h
  split at h
  · rename_i ds' e1
    split at h
    · rename_i j r e2
      split at h
      · rename_i n' e3
        split at h
        · rename_i es' e4
          cases h
          exact ⟨e1, e4, j, r, e2, e3⟩
        · cases h
      · cases h
    · cases h
  · cases h
section
variable {X : Cx} {L : Hp} {W : WX} {x : Str} {b : Expr} {k : Ex} {pos pos' : Pos}
theorem stbs_deep {ds : List D} {n : Nat} {es : List D} (h : stbs ds = true) : (D.deep .own (ds.set n (.own es))).stb = true := stbs_set rfl n h
theorem sp_ix (i : Nat) (hk : SE X L (fun _ _ _ _ => False) b k) (pk : k.pu = true) (hN : X.N[i]? = some x := by rfl) (hv : Vis X.env.scope x := by first | exact Or.inl rfl | exact Or.inr (Or.inl rfl) | exact Or.inr (Or.inr rfl)) (hd : (x == ("__debug__" : Str)) = false := by decide)
    (hcd : (x == ("__classdict__" : Str)) = false := by decide) (hs : PlainIx b := by intro _ _; rfl) : SP X L (.Subscript (.Name x pos') b pos) (pD i k) := by
  refine ⟨(pe_ix ix_list (pe_var hN hv hd hcd) hk.run hs).imp fun σ H Q ⟨B, Fr, ρ, es, ok, st, g, h⟩ => ?_⟩
  obtain ⟨⟨ds, n, es'⟩, g1, g2⟩ := Option.map_eq_some_iff.mp g
  cases g2
  obtain ⟨e1, e2, j, r, e3, e4⟩ := atD_eq g1
  have hr : r = ρ := hk.pu pk ρ _ e3
  subst hr
  obtain ⟨v, ev, _⟩ := ok.lookAt e1 (by intro z; cases z)
  refine ⟨v, ev, B, Fr, r, ok, st, ?_⟩
  rw [e3]
  intro u H1 Fr1 sf pu st1 ok1
  have eu : u = .int j := ok1.topF rfl
  subst eu
  have ok1 := ok1.pop
  have sH := pu pk
  -- what a state says of the place
  have here : ∀ {B' Fr' H' : Hp} {ds' : List D} {n' : Nat} {es2 : List D}, Ok X.K L B' Fr' H' σ r → atD i k r = some (ds', n', es2) → ∃ a p vs, v = .ref a ∧ H' a = some (.lst vs) ∧ ds.length = vs.length ∧ vs[n]? = some (.ref p) ∧ At X.K L B' Fr' H' σ (pD i k) r es2 p := by
    intro B' Fr' H' ds' n' es2 ok' g'
    rw [g1] at g'
    cases g'
    obtain ⟨v', ev', ok2⟩ := ok'.out e1 (by intro z; cases z)
    have : v' = v := by rw [ev'] at ev; cases ev; rfl
    subst this
    have st0 : stbs (r.set i .unset) = true := stbs_set rfl i st
    have sd : stbs ds = true := stbs_get st e1
    obtain ⟨a, p, vs, h1, h2, h3, h4, h5, h6⟩ := ok2.changeD st0 sd e2
    refine ⟨a, p, vs, h1, h2, h3, h4, h5, fun es' ws' r' => ?_, fun es' => ?_⟩
    · have z := (h6 es' ws' r').back ev'
      rw [List.set_set] at z
      show Ok X.K L B' Fr' _ σ (match atD i k r with | some (ds, n, _) => r.set i (.deep .own (ds.set n (.own es'))) | none => r)
      rw [g1]
      exact z
    · show stbs (match atD i k r with | some (ds, n, _) => r.set i (.deep .own (ds.set n (.own es'))) | none => r) = true
      rw [g1]
      exact stbs_set (stbs_deep sd) i st
  obtain ⟨a, p, vs, rfl, ha, hl, hn, _⟩ := here ok1 g1
  refine ⟨a, vs, j, .ref p, rfl, rfl, .inl (.inl ha), ?_, h p H1 Fr1 sf sH ok1 fun B' Fr' H' ρ' es2 sB sF ok' st' late g' => ?_⟩
  · unfold atI
    rw [← hl, e4]
    exact hn
  · obtain ⟨rfl, sH2⟩ := late rfl
    obtain ⟨⟨ds', n', es3⟩, g3, g4⟩ := Option.map_eq_some_iff.mp g'
    cases g4
    obtain ⟨a', p', vs', ea, ha', hl', hn', at'⟩ := here ok' g3
    cases ea
    have := sH2 _ _ ha
    rw [ha'] at this
    cases this
    rw [hn] at hn'
    cases hn'
    exact at'
end

/-! ### x[i] = e -/
def sStore (pl : Pc) (x idx : Ex) : Blk := fun ρ => (x.f ρ).bind fun r => if r.1.canFz = true then match pl.get r.2 with
    | none => .stuck
    | some _ => if (!pl.dp || idx.pu) = true then (idx.f r.2).bind fun q => match q.1 with
        | .int j => match pl.get q.2 with
          | none => .stuck
          | some es => match ixN es.length j with
            | none => .stuck
            | some k => .ok (.next, pl.put q.2 (es.set k r.1.frz))
        | _ => .stuck
      else .stuck
  else .stuck
section
variable {X : Cx} {L : Hp} {W : WX} {fx : List Nat} {o i e : Expr} {x idx y : Ex} {pl : Pc} {pos tpos : Pos} {op : Operator} {t : R2} {f : List D → Option D}
theorem ss_store (he : SE X L W e x) (ho : SP X L o pl) (hi : SE X L W i idx)
    (ha : ∀ v, assign (.Subscript o i tpos) X.env v = (do
      let ov ← holding [v] (eval o X.env)
      let iv ← holding [v, ov] (eval i X.env)
      standAt tpos
      holding [v, ov, iv] (setItem ov iv v)
      release [v, ov, iv] []) := by intro _; rfl)
    (hs : swapsWithSole [.Subscript o i tpos] e pos.line X.env = pure false := by rfl) (hw : swappedStores [.Subscript o i tpos] e X.env = pure none := by rfl)
    (h1 : (assignEach [.Subscript o i tpos] X.env).map (·.2) = [assign (.Subscript o i tpos) X.env] := by rfl) : SS X L fx W (.Assign [.Subscript o i tpos] e pos) (sStore pl x idx) := by
  refine ⟨(ps_asg he.run (pg_sub ho.run hi.run set_list ha) hs hw h1).imp fun Z σ H ⟨B, Fr, ρ, ok, st, h⟩ => tE_of ok st (k := fun r => if r.1.canFz = true then match pl.get r.2 with
    | none => .stuck
    | some _ => if (!pl.dp || idx.pu) = true then (idx.f r.2).bind fun q => match q.1 with
        | .int j => match pl.get q.2 with
          | none => .stuck
          | some es => match ixN es.length j with
            | none => .stuck
            | some k => .ok (.next, pl.put q.2 (es.set k r.1.frz))
        | _ => .stuck
      else .stuck
  else .stuck) h fun r v H1 Fr1 sf st1 ok1 p => ?_⟩
  by_cases c : r.1.canFz = true
  · rw [if_pos c] at p
    obtain ⟨Fr2, sf2, rd, ok2⟩ := ok1.pull c
    cases g : pl.get r.2 with
    | none => rw [g] at p; exact p.elim
    | some es0 =>
      rw [g] at p
      dsimp only at p
      refine ⟨B, Fr2, r.2, es0, ok2, st1, g, fun a H3 Fr3 sf3 sh3 ok3 hat => ?_⟩
      have p := PostS.more p (Sub.refl _) ok.lb (sf2.trans sf3) (Agree.refl _)
      by_cases cd : (!pl.dp || idx.pu) = true
      · rw [if_pos cd] at p
        refine ⟨B, Fr3, r.2, ok3, st1, ?_⟩
        cases e2 : idx.f r.2 with
        | exc ex r' => rw [e2] at p; exact ErrS.err p
        | stuck => rw [e2] at p; exact p
        | ok q =>
          rw [e2, Out.bind_ok] at p
          intro w H4 Fr4 sf4 pu4 st4 ok4
          obtain ⟨d, ρ4⟩ := q
          cases d with
          | int j =>
            dsimp only at p
            have ew : w = .int j := ok4.topF rfl
            subst ew
            cases g4 : pl.get ρ4 with
            | none => rw [g4] at p; exact p.elim
            | some es =>
              rw [g4] at p
              dsimp only at p
              cases ek : ixN es.length j with
              | none => rw [ek] at p; exact p.elim
              | some k =>
                rw [ek] at p
                have late : pl.late H3 r.2 H4 ρ4 := fun hd => by
                  rw [hd] at cd
                  have pp : idx.pu = true := by simpa using cd
                  exact ⟨hi.pu pp _ _ e2, pu4 pp⟩
                have at4 := hat B Fr4 H4 ρ4 es (Sub.refl _) sf4 ok4.pop st4 late g4
                obtain ⟨ws, hw, rw'⟩ := at4.ex
                refine ⟨a, ws, j, k, rfl, rfl, hw, by rw [← rw'.len]; exact ek, ?_⟩
                exact p σ _ Fr4 sf4 (Agree.refl _) (at4.st _) (at4.wr _ _ (RepFs.set ((rd.sub sf3).sub sf4) k rw'))
          | _ => exact p.elim
      · rw [if_neg cd] at p; exact p.elim
  · rw [if_neg c] at p; exact p.elim
end

/-! ### name op= e -/
def sAug (i : Nat) (f : List D → Option D) (x : Ex) : Blk := fun ρ => (getD ρ i).bind fun d => if d.isFz = true then (x.f ρ).bind fun r => match f [d, r.1] with
    | some z => if z.stb = true then .ok (.next, r.2.set i z) else .stuck
    | none => .stuck
  else .stuck
section
variable {X : Cx} {L : Hp} {W : WX} {fx : List Nat} {o e : Expr} {x idx y : Ex} {pl : Pc} {pos tpos : Pos} {op : Operator} {t : R2} {f : List D → Option D}
theorem ss_aug (i : Nat) {v : Str} (hN : X.N.Nodup) (hp : PIp X op t) (os : OpS X.K L f (R2v t)) (he : SE X L W e x) (hi : X.N[i]? = some v := by rfl) (hx : Loc X.env.scope v := by first | exact Or.inl rfl | exact Or.inr rfl) (hfx : i ∉ fx := by decide)
    (hf : X.fn v = true ∨ X.env.scope.names.lookup v = some .local := by first | exact .inl rfl | exact .inr rfl) : SS X L fx W (.AugAssign (.Name v tpos) op e pos) (sAug i f x) := by
  refine ⟨(ps_aug hN hi hx he.run hp hf).imp fun Z σ H ⟨B, Fr, ρ, ok, st, h⟩ => ?_⟩
  have h : PostS X.K L fx W B Fr Z σ ((getD ρ i).bind fun d => if d.isFz = true then (x.f ρ).bind fun r => match f [d, r.1] with
      | some z => if z.stb = true then .ok (.next, r.2.set i z) else .stuck
      | none => .stuck
    else .stuck) := h
  cases e1 : getD ρ i with
  | exc ex r => exact (getD_exc e1).elim
  | stuck => rw [e1] at h; exact h.elim
  | ok d =>
    rw [e1, Out.bind_ok] at h
    obtain ⟨g1, g2⟩ := getD_ok e1
    by_cases c : d.isFz = true
    · rw [if_pos c] at h
      obtain ⟨w, ew, ok0⟩ := ok.lookAt g1 g2
      rw [D.isFz_look c] at ok0
      have rd := ok0.topF c
      refine ⟨w, ew, tE_of ok st (k := fun r => match f [d, r.1] with
        | some z => if z.stb = true then .ok (.next, r.2.set i z) else .stuck
        | none => .stuck) h fun r u H1 Fr1 sf st1 ok1 p => ?_⟩
      cases e2 : f [d, r.1] with
      | none => rw [e2] at p; exact p.elim
      | some z =>
        rw [e2] at p
        have q : R2v t [w, u] H1 _ := os B Fr1 H1 σ r.2 [d, r.1] [w, u] (fun z' H2 => Z.nx (σ.set i (some z')) H2) z (ok1.pushF (rd.sub sf)) rfl e2 fun z' H2 Fr2 sf2 sh2 ok2 => by
          dsimp only at p
          by_cases cz : z.stb = true
          · rw [if_pos cz] at p
            exact p _ H2 Fr2 sf2 (Agree.set hfx) (stbs_set cz i st1) ok2.into'
          · rw [if_neg cz] at p; exact p.elim
        obtain ⟨_, _, eq, q⟩ := q
        cases eq
        exact q
    · rw [if_neg c] at h; exact h.elim
end
end Ev

/-! C11: o[i] op= e; count and index. -/
namespace Ev
open PySem PySem.Spec L2
open PyProof.Rows hiding St

section
variable {X : Cx}
/-- xs[i], xs a list -/
theorem get_list : PGet X (rIxL X.K) := by
  intro pins s σ H x y v u Q I rx ry h
  obtain ⟨p, xs, i, z, rfl, rfl, hq, he, q⟩ := h
  cases rx
  obtain ⟨t, rfl⟩ := ry
  obtain ⟨its, r, pl, hz⟩ := I.list hq
  obtain ⟨j, h1, h2, h3, h4, h5⟩ := atI_get he
  obtain ⟨w, ew, rw'⟩ := r.get h2
  have hl := r.length
  have hn := line63
  have fin : EP X pins σ Q w s := ⟨z, H, I, rw', q⟩
  by_cases h0 : 0 ≤ i
  · have hj : i.toNat = j := by
      rw [seqIndex_of h0 h5] at h1
      exact Option.some.inj h1
    exact wpAny_getItem_list pl.isList h0 (by omega) (by rw [hj]; simpa using ew) fin
  · have hj : (i + (its.toArray.size : Int)).toNat = j := by
      rw [seqIndex_neg (by omega) h4] at h1
      rw [List.size_toArray, ← hl]
      exact Option.some.inj h1
    exact wpAny_getItem_list_neg pl.isList (by omega) (by rw [List.size_toArray]; omega) (by omega) (by rw [hj]; simpa using ew) fin
end
/-- o[i] op= e -/
def sAugS (pl : Pc) (idx : Ex) (f : List D → Option D) (x : Ex) : Blk := fun ρ => match pl.get ρ with
  | none => .stuck
  | some _ => if (!pl.dp || (idx.pu && x.pu)) = true then (idx.f ρ).bind fun q => match q.1 with
      | .int j => match pl.get q.2 with
        | none => .stuck
        | some es => match atI es j with
          | none => .stuck
          | some d => (x.f q.2).bind fun r => match f [d, r.1] with
            | none => .stuck
            | some z => if z.isFz = true then match pl.get r.2 with
                | none => .stuck
                | some es2 => match ixN es2.length j with
                  | none => .stuck
                  | some k => .ok (.next, pl.put r.2 (es2.set k z))
              else .stuck
      | _ => .stuck
    else .stuck
section
variable {X : Cx} {L : Hp} {W : WX} {fx : List Nat} {o i e : Expr} {x idx y : Ex} {pl : Pc} {pos tpos : Pos} {op : Operator} {t : R2} {f : List D → Option D}
theorem ss_augS (hp : PIp X op t) (os : OpS X.K L f (R2v t)) (ho : SP X L o pl) (hi : SE X L W i idx) (he : SE X L W e x)
    (ha : ∀ ov iv new, augStore i ov iv new = (do holding [new, ov, iv] (setItem ov iv new); release [new, ov, iv] []; pure .next) := by intros; rfl) : SS X L fx W (.AugAssign (.Subscript o i tpos) op e pos) (sAugS pl idx f x) := by
  refine ⟨(ps_augS ho.run hi.run get_list he.run hp set_list ha).imp fun Z σ H ⟨B, Fr, ρ, ok, st, h⟩ => ?_⟩
  have h : PostS X.K L fx W B Fr Z σ (sAugS pl idx f x ρ) := h
  unfold sAugS at h
  cases g : pl.get ρ with
  | none => rw [g] at h; exact h.elim
  | some es0 =>
    rw [g] at h
    dsimp only at h
    refine ⟨B, Fr, ρ, es0, ok, st, g, fun a H1 Fr1 sf1 sh1 ok1 hat => ?_⟩
    have h := PostS.more h (Sub.refl _) ok.lb sf1 (Agree.refl _)
    by_cases cd : (!pl.dp || (idx.pu && x.pu)) = true
    · rw [if_pos cd] at h
      refine ⟨B, Fr1, ρ, ok1, st, ?_⟩
      cases e2 : idx.f ρ with
      | exc ex r' => rw [e2] at h; exact ErrS.err h
      | stuck => rw [e2] at h; exact h
      | ok q =>
        rw [e2, Out.bind_ok] at h
        intro w H2 Fr2 sf2 pu2 st2 ok2
        obtain ⟨dj, ρ2⟩ := q
        cases dj with
        | int j =>
          dsimp only at h
          have ew : w = .int j := ok2.topF rfl
          subst ew
          have ok2 := ok2.pop
          cases g2 : pl.get ρ2 with
          | none => rw [g2] at h; exact h.elim
          | some es =>
            rw [g2] at h
            dsimp only at h
            cases ei : atI es j with
            | none => rw [ei] at h; exact h.elim
            | some d =>
              rw [ei] at h
              dsimp only at h
              have late2 : pl.late H1 ρ H2 ρ2 := fun hd => by
                rw [hd] at cd
                have pp : idx.pu = true := (Bool.and_eq_true_iff.mp (by simpa using cd)).1
                exact ⟨hi.pu pp _ _ e2, pu2 pp⟩
              obtain ⟨ws, hw, rws⟩ := (hat B Fr2 H2 ρ2 es (Sub.refl _) sf2 ok2 st2 late2 g2).ex
              obtain ⟨v, hv, rv⟩ := atI_rep rws ei
              refine ⟨a, ws, j, v, rfl, rfl, .inl (.inl hw), hv, ?_⟩
              have h := PostS.more h (Sub.refl _) ok.lb sf2 (Agree.refl _)
              refine ⟨B, Fr2, ρ2, ok2, st2, ?_⟩
              cases ex : x.f ρ2 with
              | exc ex' r' => rw [ex] at h; exact ErrS.err h
              | stuck => rw [ex] at h; exact h
              | ok r =>
                rw [ex, Out.bind_ok] at h
                intro u H3 Fr3 sf3 pu3 st3 ok3
                cases ef : f [d, r.1] with
                | none => rw [ef] at h; exact h.elim
                | some z =>
                  rw [ef] at h
                  dsimp only at h
                  by_cases cz : z.isFz = true
                  · rw [if_pos cz] at h
                    have q : R2v t [v, u] H3 _ := os B Fr3 H3 σ r.2 [d, r.1] [v, u] (fun z' H4 => rSetL (.ref a) (.int j) z' H4 fun H6 => Z.nx σ H6) z (ok3.pushF (rv.sub sf3)) rfl ef fun z' H4 Fr4 sf4 sh4 ok4 => by
                      have rz := ok4.topF cz
                      have ok4 := ok4.pop
                      cases g3 : pl.get r.2 with
                      | none => rw [g3] at h; exact h.elim
                      | some es2 =>
                        rw [g3] at h
                        dsimp only at h
                        cases ek : ixN es2.length j with
                        | none => rw [ek] at h; exact h.elim
                        | some k =>
                          rw [ek] at h
                          have late4 : pl.late H1 ρ H4 r.2 := fun hd => by
                            rw [hd] at cd
                            have pp := (Bool.and_eq_true_iff.mp (show (idx.pu && x.pu) = true by simpa using cd))
                            exact ⟨(he.pu pp.2 _ _ ex).trans (late2 hd).1, (pu2 pp.1).trans ((pu3 pp.2).trans sh4)⟩
                          have at4 := hat B Fr4 H4 r.2 es2 (Sub.refl _) (sf2.trans (sf3.trans sf4)) ok4 st3 late4 g3
                          obtain ⟨ws4, hw4, rws4⟩ := at4.ex
                          exact ⟨a, ws4, j, k, rfl, rfl, hw4, by rw [← rws4.len]; exact ek, h σ _ Fr4 (sf3.trans sf4) (Agree.refl _) (at4.st _) (at4.wr _ _ (RepFs.set rz k rws4))⟩
                    obtain ⟨_, _, eq, q⟩ := q
                    cases eq
                    exact q
                  · rw [if_neg cz] at h; exact h.elim
        | _ => exact h.elim
    · rw [if_neg cd] at h; exact h.elim
end

/-! ### methods that read -/
def eK (kd : D → Bool) (x : Ex) : Ex := ⟨x.pu, fun ρ => (x.f ρ).bind fun r => if kd r.1 = true then .ok r else .stuck⟩
theorem pure_K {kd : D → Bool} {x : Ex} (h : Pure x) : Pure (eK kd x) := fun pu ρ r e => by
  unfold eK at e
  dsimp only at e
  cases e1 : x.f ρ with
  | exc ex r => rw [e1] at e; cases e
  | stuck => rw [e1] at e; cases e
  | ok q =>
    rw [e1, Out.bind_ok] at e
    split at e
    · injection e with e
      rw [← e]
      exact h pu ρ q e1
    · cases e
theorem tE_K {K : PySem.W.Frag} {L : Hp} {W : WX} {kd : D → Bool} {T : V → Hp → Prop} {x : Ex} {σ : St} {H : Hp} {Q : VK} (hT : ∀ B Fr H1 d ρ v, Ok K L B Fr H1 (some v :: σ) (d :: ρ) → kd d = true → T v H1) (h : tE K L W (eK kd x) σ H Q) :
    tE K L W x σ H fun v H1 => T v H1 ∧ Q v H1 := by
  obtain ⟨B, Fr, ρ, ok, st, h⟩ := h
  refine ⟨B, Fr, ρ, ok, st, ?_⟩
  unfold eK at h
  dsimp only at h
  cases e1 : x.f ρ with
  | exc ex r => rw [e1] at h; exact h
  | stuck => rw [e1] at h; exact h
  | ok q =>
    rw [e1, Out.bind_ok] at h
    by_cases c : kd q.1 = true
    · rw [if_pos c] at h
      exact fun v H1 Fr1 a b c' d => ⟨hT B Fr1 H1 q.1 q.2 v d c, h v H1 Fr1 a b c' d⟩
    · rw [if_neg c] at h; exact h.elim
def D.isLst : D → Bool
  | .seq false _ _ => true
  | _ => false
def D.isTupK : D → Bool
  | .seq true .fz _ => true
  | .seq true .bor _ => true
  | _ => false
section
variable {X : Cx} {L : Hp} {W : WX} {o e : Expr} {es : List Expr} {x : Ex} {xs : List Ex} {op : List D → Option D} {name : Str} {apos cpos : Pos} {id : String} {r : V → List V → Hp → VK → Prop}
theorem isLst_ty {K : PySem.W.Frag} {σ : St} : ∀ B Fr H1 d ρ v, Ok K L B Fr H1 (some v :: σ) (d :: ρ) → d.isLst = true → tyV K "list" v H1 := fun B Fr H1 d ρ v ok hd => by
  cases d with
  | seq t k ds =>
    cases t with
    | true => cases hd
    | false =>
      obtain ⟨a, vs, rfl, q, _⟩ := ok.seqAt
      exact .inl ⟨rfl, vs, q⟩
  | _ => cases hd
theorem isTup_ty {K : PySem.W.Frag} {σ : St} : ∀ B Fr H1 d ρ v, Ok K L B Fr H1 (some v :: σ) (d :: ρ) → d.isTupK = true → ∃ a vs, v = .ref a ∧ TupX K H1 a vs := fun B Fr H1 d ρ v ok hd => by
  cases d with
  | seq t k ds =>
    obtain ⟨F, r⟩ := ok.top (by intro z; cases z)
    cases t with
    | false => cases k <;> cases hd
    | true =>
      cases k with
      | fz => obtain ⟨_, a, vs, e, q, r⟩ := r; exact ⟨a, vs, e, TupX.sub ok.fr q⟩
      | bor => obtain ⟨_, a, vs, e, q, r⟩ := r; exact ⟨a, vs, e, q.elim (fun z => TupX.sub (ok.lb.trans ok.br) z) (fun z => TupX.sub ok.fr z)⟩
      | _ => cases hd
  | _ => cases hd
def R1s (r : V → List V → Hp → VK → Prop) : List V → Hp → VK → Prop := fun vs H Q => ∃ v ws, vs = v :: ws ∧ r v ws H Q
theorem evs_R1s {K : PySem.W.Frag} {B Fr H1 : Hp} {σ : St} {ρ : List D} {v : V} {Q : VK} (h : match evs xs ρ with
    | .ok z => ∀ vs H' Fr', vs.length = z.1.length → Sub Fr Fr' → (pus xs = true → Sub H1 H') → stbs z.2 = true → Ok K L B Fr' H' (vs.map some ++ σ) (z.1 ++ z.2) → R1s r (v :: vs) H' Q
    | .exc e r => Err K L W B Fr σ e r
    | .stuck => False) : match evs xs ρ with
    | .ok z => ∀ vs H' Fr', vs.length = z.1.length → Sub Fr Fr' → (pus xs = true → Sub H1 H') → stbs z.2 = true → Ok K L B Fr' H' (vs.map some ++ σ) (z.1 ++ z.2) → r v vs H' Q
    | .exc e r => Err K L W B Fr σ e r
    | .stuck => False := by
  revert h
  cases evs xs ρ with
  | exc ex r => exact id
  | stuck => exact id
  | ok z =>
    intro h vs H' Fr' a b c d e
    obtain ⟨_, _, e', q⟩ := h vs H' Fr' a b c d e
    cases e'
    exact q
theorem se_rdL (slot : Slot "list" name id) (hty : typeOf (.builtin id) = pure (.type "method_descriptor")) (hm : MtR X id r) (os : OpS X.K L op (R1s r)) (ho : SE X L W o x) (ha : SA X L W (e :: es) xs)
    (hbase : attributeBase o name X.env (eval o X.env) = eval o X.env := by rfl)
    (hfew : ((backTo cpos (starEach (e :: es) X.env)).all (fun x => !x.1) && (backToKw cpos (keywordEach [] X.env)).all (fun x => x.1.isSome)
      && decide ((e :: es).length + ([] : List Keyword).length + (if ([] : List Keyword).isEmpty then 0 else 1) < 30)) = true := by rfl)
    (hline : (apos.endLine == cpos.line) = true := by rfl) (hs : starEach (e :: es) X.env = (false, eval e X.env) :: starEach es X.env := by rfl) (hplain : (backTo cpos (starEach es X.env)).any (·.1) = false := by rfl) :
    SE X L W (.Call (.Attribute o name apos) (e :: es) [] cpos) (eOp op (eK D.isLst x :: xs)) :=
  ⟨(pe_bm PySem.F.plainAttrs_list slot hty hm ho.run ha.run hbase hfew hline hs hplain).imp fun σ H Q h =>
    tE_K isLst_ty ((tAs_cons (eOp_tAs os h)).mono fun v H1 q => by
      obtain ⟨B, Fr, ρ, ok, st, q⟩ := q
      refine ⟨B, Fr, ρ, ok, st, ?_⟩
      exact evs_R1s q),
    eOp_pure fun y hy => by
      rcases List.mem_cons.mp hy with z | z
      · rw [z]; exact pure_K ho.pu
      · exact ha.pu y z⟩
theorem pe_bmT {to : TE} {t : TA} (slot : Slot "tuple" name id) (hty : typeOf (.builtin id) = pure (.type "method_descriptor")) (hm : MtR X id r) (ho : PE X o to) (ha : PA X (e :: es) t)
    (hbase : attributeBase o name X.env (eval o X.env) = eval o X.env := by rfl)
    (hfew : ((backTo cpos (starEach (e :: es) X.env)).all (fun x => !x.1) && (backToKw cpos (keywordEach [] X.env)).all (fun x => x.1.isSome)
      && decide ((e :: es).length + ([] : List Keyword).length + (if ([] : List Keyword).isEmpty then 0 else 1) < 30)) = true := by rfl)
    (hline : (apos.endLine == cpos.line) = true := by rfl) (hs : starEach (e :: es) X.env = (false, eval e X.env) :: starEach es X.env := by rfl) (hplain : (backTo cpos (starEach es X.env)).any (·.1) = false := by rfl) :
    PE X (.Call (.Attribute o name apos) (e :: es) [] cpos) (fun σ H Q => to σ H fun x H1 => (∃ a vs, x = .ref a ∧ TupX X.K H1 a vs) ∧ t σ H1 fun xs H2 => r x xs H2 Q) := by
  refine ⟨fun pins s σ H Q I h => ?_⟩
  refine wpAny_Call_method_late hbase hfew hline rfl (thn (ho.run pins s σ H _ I h) fun v s1 ⟨x, H1, I1, r1, ty, q1⟩ => ?_)
  obtain ⟨a, vs, rfl, tx⟩ := ty
  cases r1
  have hd : ∃ ob, s1.heap.get? a = some ob ∧ ob.cls = .type "tuple" ∧ ob.dict = none := by
    rcases tx with ⟨ob, e, d⟩ | ⟨ob, its, n, h1, h2, h3, _⟩
    · obtain ⟨e1, _, its, _, ob', e2, e3, _⟩ := I1.hok a _ e
      rw [e1] at e2
      cases e2
      exact ⟨ob, e1, e3, d⟩
    · exact ⟨ob, I1.kIn a ob h1, h2, h3⟩
  obtain ⟨ob, g1, g2, g3⟩ := hd
  refine ⟨"tuple", id, PySem.F.plainAttrs_tuple, slot, hty, ⟨ob, g1, g2⟩, fun b e => ?_, ?_⟩
  · cases e
    exact ⟨ob, g1, g3⟩
  · have hA := ha.run cpos pins s1 σ H1 _ I1 q1
    rw [hs] at hA ⊢
    refine Calls.callWith_builtin (by show (false || (backTo cpos (starEach es X.env)).any (·.1)) = false; rw [hplain] <;> rfl) (Calls.evalArgs_plain ?_)
    exact thn hA fun us s2 ⟨vs, H2, I2, r2, q2⟩ => hm pins s2 σ H2 (.ref a) vs (.ref a) us Q I2 rfl r2 q2
theorem se_rdT (slot : Slot "tuple" name id) (hty : typeOf (.builtin id) = pure (.type "method_descriptor")) (hm : MtR X id r) (os : OpS X.K L op (R1s r)) (ho : SE X L W o x) (ha : SA X L W (e :: es) xs)
    (hbase : attributeBase o name X.env (eval o X.env) = eval o X.env := by rfl)
    (hfew : ((backTo cpos (starEach (e :: es) X.env)).all (fun x => !x.1) && (backToKw cpos (keywordEach [] X.env)).all (fun x => x.1.isSome)
      && decide ((e :: es).length + ([] : List Keyword).length + (if ([] : List Keyword).isEmpty then 0 else 1) < 30)) = true := by rfl)
    (hline : (apos.endLine == cpos.line) = true := by rfl) (hs : starEach (e :: es) X.env = (false, eval e X.env) :: starEach es X.env := by rfl) (hplain : (backTo cpos (starEach es X.env)).any (·.1) = false := by rfl) :
    SE X L W (.Call (.Attribute o name apos) (e :: es) [] cpos) (eOp op (eK D.isTupK x :: xs)) :=
  ⟨(pe_bmT slot hty hm ho.run ha.run hbase hfew hline hs hplain).imp fun σ H Q h =>
    tE_K isTup_ty ((tAs_cons (eOp_tAs os h)).mono fun v H1 q => by
      obtain ⟨B, Fr, ρ, ok, st, q⟩ := q
      refine ⟨B, Fr, ρ, ok, st, ?_⟩
      exact evs_R1s q),
    eOp_pure fun y hy => by
      rcases List.mem_cons.mp hy with z | z
      · rw [z]; exact pure_K ho.pu
      · exact ha.pu y z⟩
end
/-- xs.count(i), ints -/
def oCount : List D → Option D
  | [.seq _ _ ds, .int i] => (ints? ds).map fun ns => .int (ns.count i : Nat)
  | _ => none
def rCntT (K : PySem.W.Frag) : V → List V → Hp → VK → Prop := fun x xs H Q => ∃ (p : Addr) (ns : List Int) (k : Int), x = .ref p ∧ xs = [.int k] ∧ SqT K H p (ns.map V.int) ∧ Q (.int (ns.count k : Nat)) H
theorem mt_tcount {X : Cx} : MtR X "tuple.count" (rCntT X.K) := by
  intro pins s σ H x xs v us Q I rx rxs h
  obtain ⟨p, ns, k, rfl, rfl, hs, q⟩ := h
  cases rx
  obtain ⟨u, rfl, ru⟩ := rxs.one
  obtain ⟨t, rfl⟩ := ru
  obtain ⟨its, rv, ⟨⟨cls, dd, data, sl⟩, ho, hc, n, hd⟩, hlen⟩ := I.tuple hs
  simp only at hc hd
  subst hc hd
  have hi := ints_of_vals rv
  refine call_meets PySem.F.slot_tuple_count ⟨_, ho, rfl⟩ PySem.F.entry_tuple_count (PySem.F.args_tuple_count_2 _ _)
    (SeqAt.tuple_countAt p its.toArray n dd sl (.int k t) (eqk k)) ⟨ho, fun y hy => (eqk_gives hi y (by simpa using hy)).at _ _, ?_⟩
  have ec : its.toArray.toList.countP (eqk k) = ns.count k := eqk_count hi
  refine ⟨.int (ns.count k : Nat), H, I.tok _, ⟨s.toks, ?_⟩, q⟩
  rw [ec]
def oCountL : List D → Option D
  | [.seq false k ds, .int i] => oCount [.seq false k ds, .int i]
  | _ => none
def oCountT : List D → Option D
  | [.seq true k ds, .int i] => oCount [.seq true k ds, .int i]
  | _ => none
theorem oCountL_ok {K : PySem.W.Frag} {L : Hp} : OpS K L oCountL (R1s (rCntI K)) := by
  intro B Fr H σ ρ ds vs Q d ok hl e q
  unfold oCountL at e
  split at e
  · rename_i k es i
    obtain ⟨ns, e1, e2⟩ := Option.map_eq_some_iff.mp e
    cases e2
    obtain ⟨v, w, rfl, ok⟩ := ok2 ok hl
    obtain ⟨a, ws, ea, qa, ra⟩ := ok.seqAt
    have := ints?_eq e1
    subst this
    have ew := ra.ints
    subst ew
    exact ⟨v, [w], rfl, a, ns, i, ea, by rw [show w = .int i from ok.pop.topF rfl], qa, q _ H Fr (Sub.refl _) (Sub.refl _) (ok.pop.pop.pushF rfl)⟩
  · cases e
theorem oCountT_ok {K : PySem.W.Frag} {L : Hp} : OpS K L oCountT (R1s (rCntT K)) := by
  intro B Fr H σ ρ ds vs Q d ok hl e q
  unfold oCountT at e
  split at e
  · rename_i k es i
    obtain ⟨ns, e1, e2⟩ := Option.map_eq_some_iff.mp e
    cases e2
    obtain ⟨v, w, rfl, ok⟩ := ok2 ok hl
    obtain ⟨a, ws, ea, qa, ra⟩ := ok.seqAt
    have := ints?_eq e1
    subst this
    have ew := ra.ints
    subst ew
    exact ⟨v, [w], rfl, a, ns, i, ea, by rw [show w = .int i from ok.pop.topF rfl], qa, q _ H Fr (Sub.refl _) (Sub.refl _) (ok.pop.pop.pushF rfl)⟩
  · cases e
end Ev

/-! C12: what is walked; list comprehensions. -/
namespace Ev
open PySem PySem.Spec L2
open PyProof.Rows hiding St

/-! ### a list, a tuple -/
def D.walk (tm : Bool) : D → Option (List D)
  | .seq _ .tmp ds => if tm = true then some ds else none
  | .seq _ _ ds => some ds
  | _ => none
def itSeq (tm : Bool) (x : Ex) : Its := ⟨x.pu, tm, fun ρ => (x.f ρ).bind fun r => match r.1.walk tm with
  | some ds => .ok (ds, r.2)
  | none => .stuck⟩
def iSeq (K : PySem.W.Frag) (tl : TE) : TI := fun σ H R => tl σ H fun x H1 => (∃ a, x = .ref a ∧ (∃ xs, SqL K H1 a xs) ∧ R (Itl K a) H1) ∨ ∃ a, x = .ref a ∧ (∃ xs, SqT K H1 a xs) ∧ R (Itt K a) H1
theorem pi_seq {X : Cx} {tg l : Expr} {tl : TE} (hl : PE X l tl) : PI X tg l (iSeq X.K tl) := by
  constructor
  intro pins s σ H R I h
  refine thn (hl.run pins s σ H _ I h) ?_
  rintro v s1 ⟨x, H1, I1, r1, ⟨a, rfl, ⟨xs, hq⟩, q⟩ | ⟨a, rfl, ⟨xs, hq⟩, q⟩⟩ <;> cases r1
  all_goals have new : FpOk X pins H1 s1.heap.objs.size := I1.fpOk (Nat.le_refl _) (I1.hok.fresh (Nat.le_refl _))
  · obtain ⟨its, _, p, _⟩ := I1.list hq
    exact wpAny_pyIter_list p.isList ⟨_, [s1.heap.objs.size], _, _, H1, rfl, I1.kept (t' := s1.toks) fun b o e => Heap.get?_push_of_some _ e, turn_list a _, ⟨_, Heap.get?_push_size _ rfl, rfl, rfl⟩, fun b hb => by rw [List.mem_singleton.mp hb]; exact new, q⟩
  · obtain ⟨its, _, p, _⟩ := I1.tuple hq
    exact wpAny_pyIter_tuple p ⟨_, [s1.heap.objs.size], _, _, H1, rfl, I1.kept (t' := s1.toks) fun b o e => Heap.get?_push_of_some _ e, turn_tuple a _, ⟨_, Heap.get?_push_size _ rfl, rfl, rfl⟩, fun b hb => by rw [List.mem_singleton.mp hb]; exact new, q⟩
section
variable {K : PySem.W.Frag} {L : Hp}
theorem walks_list {B Fr : Hp} {S : Hp → Prop} {a : Addr} {vs : List V} {ds : List D} (h : ∀ (B' Fr' H : Hp) (os : List (Option V)) (es : List D), Sub B B' → Sub Fr Fr' → S H → Ok K L B' Fr' H os es → SqL K H a vs) (r : RepFs K Fr ds vs) : Walks K L B Fr S (Itl K a) ds := by
  refine ⟨fun i B' Fr' H os es d sB sF hS ok e => ?_, fun i B' Fr' H os es sB sF hS ok e => ⟨vs, h B' Fr' H os es sB sF hS ok, by rw [← r.len]; exact e⟩⟩
  obtain ⟨v, hv, rv⟩ := r.get e
  have q := h B' Fr' H os es sB sF hS ok
  refine ⟨⟨vs, v, q, hv⟩, fun x H' y => ?_⟩
  obtain ⟨rfl, y⟩ := y
  have := y vs q
  rw [hv] at this
  cases this
  exact ⟨Fr', Sub.refl _, Sub.refl _, ok.pushF (rv.sub sF)⟩
theorem walks_tup {B Fr : Hp} {S : Hp → Prop} {a : Addr} {vs : List V} {ds : List D} (h : ∀ (B' Fr' H : Hp) (os : List (Option V)) (es : List D), Sub B B' → Sub Fr Fr' → S H → Ok K L B' Fr' H os es → SqT K H a vs) (r : RepFs K Fr ds vs) : Walks K L B Fr S (Itt K a) ds := by
  refine ⟨fun i B' Fr' H os es d sB sF hS ok e => ?_, fun i B' Fr' H os es sB sF hS ok e => ⟨vs, h B' Fr' H os es sB sF hS ok, by rw [← r.len]; exact e⟩⟩
  obtain ⟨v, hv, rv⟩ := r.get e
  have q := h B' Fr' H os es sB sF hS ok
  refine ⟨⟨vs, v, q, hv⟩, fun x H' y => ?_⟩
  obtain ⟨rfl, y⟩ := y
  have := y vs q
  rw [hv] at this
  cases this
  exact ⟨Fr', Sub.refl _, Sub.refl _, ok.pushF (rv.sub sF)⟩
/-- how a list or a tuple on top may be read for good (or as long as the heap grows only) -/
structure SqIn (K : PySem.W.Frag) (L B Fr H : Hp) (tm t : Bool) (a : Addr) (vs : List V) : Prop where
  at_ : ∀ (B' Fr' H' : Hp) (os : List (Option V)) (es : List D), Sub B B' → Sub Fr Fr' → (tm = true → Sub H H') → Ok K L B' Fr' H' os es → SqG K t H' a vs
theorem Ok.walk {B Fr H : Hp} {tm : Bool} {σ : St} {ρ ds : List D} {d : D} {v : V} (ok : Ok K L B Fr H (some v :: σ) (d :: ρ)) (e : d.walk tm = some ds) :
    ∃ Fr' a vs t, Sub Fr Fr' ∧ Ok K L B Fr' H σ ρ ∧ v = .ref a ∧ RepFs K Fr' ds vs ∧ SqG K t H a vs ∧ SqIn K L B Fr' H tm t a vs := by
  cases d with
  | seq t k es =>
    cases k with
    | fz =>
      cases e
      obtain ⟨F, r⟩ := ok.top (by intro z; cases z)
      obtain ⟨_, a, vs, e, q, r⟩ := r
      exact ⟨Fr, a, vs, t, Sub.refl _, ok.pop, e, r, (q.sub ok.fr).g, ⟨fun B' Fr' H' os es sB sF _ ok' => (q.sub (sF.trans ok'.fr)).g⟩⟩
    | own =>
      cases e
      obtain ⟨rfl, _⟩ := ok.ownAt
      obtain ⟨Fr', sf, r, ok'⟩ := ok.pull rfl
      obtain ⟨a, vs, e, q, r⟩ := r
      exact ⟨Fr', a, vs, false, sf, ok', e, r, (q.sub ok'.fr).g, ⟨fun B' Fr' H' os es sB sF _ ok' => (q.sub (sF.trans ok'.fr)).g⟩⟩
    | bor =>
      cases e
      obtain ⟨F, r⟩ := ok.top (by intro z; cases z)
      obtain ⟨_, a, vs, e, q, r⟩ := r
      have g : ∀ {B' Fr' H' : Hp} {os : List (Option V)} {es : List D}, Sub Fr Fr' → Ok K L B' Fr' H' os es → SqG K t H' a vs := fun sF ok' => (q.elim (fun z => z.sub (ok'.lb.trans ok'.br)) (fun z => z.sub (sF.trans ok'.fr))).g
      exact ⟨Fr, a, vs, t, Sub.refl _, ok.pop, e, r, g (Sub.refl _) ok, ⟨fun B' Fr' H' os es sB sF _ ok' => g sF ok'⟩⟩
    | tmp =>
      cases tm with
      | false => cases e
      | true =>
        cases e
        obtain ⟨F, r⟩ := ok.top (by intro z; cases z)
        obtain ⟨_, a, vs, e, q, r⟩ := r
        exact ⟨Fr, a, vs, t, Sub.refl _, ok.pop, e, r, q.g, ⟨fun B' Fr' H' os es sB sF sH ok' => (q.sub (sH rfl)).g⟩⟩
    | scr =>
      cases e
      obtain ⟨F, r⟩ := ok.top (by intro z; cases z)
      obtain ⟨_, et, a, vs, e, q, r⟩ := r
      subst et
      have g : ∀ {B' Fr' H' : Hp} {os : List (Option V)} {es : List D}, Sub Fr Fr' → Ok K L B' Fr' H' os es → SqG K false H' a vs := fun sF ok' => q.elim (fun z => sqL_sub (ok'.lb.trans ok'.br) z) (fun z => sqL_sub (sF.trans ok'.fr) z)
      exact ⟨Fr, a, vs, false, Sub.refl _, ok.pop, e, r, g (Sub.refl _) ok, ⟨fun B' Fr' H' os es sB sF _ ok' => g sF ok'⟩⟩
  | _ => cases e
end
theorem pureI_seq {tm : Bool} {x : Ex} (h : Pure x) : PureI (itSeq tm x) := fun pu ρ r e => by
  have e : (x.f ρ).bind (fun r => match r.1.walk tm with | some ds => .ok (ds, r.2) | none => (.stuck : Out (List D × List D))) = .ok r := e
  cases e1 : x.f ρ with
  | exc ex r => rw [e1] at e; cases e
  | stuck => rw [e1] at e; cases e
  | ok q =>
    rw [e1, Out.bind_ok] at e
    split at e
    · injection e with e; rw [← e]; exact h pu _ _ e1
    · cases e
section
variable {X : Cx} {L : Hp} {W : WX} {tg e e2 : Expr} {x y : Ex} {xs : List Ex} {pos p : Pos}
theorem si_seq {tm : Bool} (h : SE X L W e x) : SI X L W tg e (itSeq tm x) := by
  refine ⟨⟨fun pins s σ H R I hw => (pi_seq h.run).run pins s σ H R I ?_⟩, pureI_seq h.pu⟩
  obtain ⟨B, Fr, ρ, ok, st, hw⟩ := hw
  refine ⟨B, Fr, ρ, ok, st, ?_⟩
  have hw : (match (x.f ρ).bind fun r => match r.1.walk tm with | some ds => .ok (ds, r.2) | none => (.stuck : Out (List D × List D)) with
    | .ok r => ∀ J H' Fr' B', Sub B B' → Sub Fr Fr' → (x.pu = true → Sub H H') → stbs r.2 = true → Ok X.K L B' Fr' H' σ r.2 → Walks X.K L B' Fr' (fun H2 => tm = true → Sub H' H2) J r.1 → R J H'
    | .exc e r => Err X.K L W B Fr σ e r
    | .stuck => False) := hw
  cases e1 : x.f ρ with
  | exc ex r => rw [e1] at hw; exact hw
  | stuck => rw [e1] at hw; exact hw
  | ok r =>
    rw [e1, Out.bind_ok] at hw
    cases e2 : r.1.walk tm with
    | none => rw [e2] at hw; exact hw.elim
    | some ds =>
      rw [e2] at hw
      intro v H1 Fr1 sf pu st1 ok1
      obtain ⟨Fr2, a, vs, t, sf2, ok2, rfl, rs, g, at_⟩ := ok1.walk e2
      cases t with
      | true => exact .inr ⟨a, rfl, ⟨vs, g⟩, hw _ H1 Fr2 B (Sub.refl _) (sf.trans sf2) pu st1 ok2 (walks_tup (fun B' Fr' H' os es sB sF hS ok' => at_.at_ B' Fr' H' os es sB sF hS ok') rs)⟩
      | false => exact .inl ⟨a, rfl, ⟨vs, g⟩, hw _ H1 Fr2 B (Sub.refl _) (sf.trans sf2) pu st1 ok2 (walks_list (fun B' Fr' H' os es sB sF hS ok' => at_.at_ B' Fr' H' os es sB sF hS ok') rs)⟩
end

/-! ### by values -/
def itOp (tm : Bool) (k : List D → Option (List D)) (xs : List Ex) : Its := ⟨pus xs, tm, fun ρ => (evs xs ρ).bind fun r => match k r.1 with
  | some ds => .ok (ds, r.2)
  | none => .stuck⟩
theorem pureI_op {tm : Bool} {k : List D → Option (List D)} {xs : List Ex} (h : ∀ x ∈ xs, Pure x) : PureI (itOp tm k xs) := fun pu ρ r e => by
  have e : (evs xs ρ).bind (fun r => match k r.1 with | some ds => .ok (ds, r.2) | none => (.stuck : Out (List D × List D))) = .ok r := e
  cases e1 : evs xs ρ with
  | exc ex r => rw [e1] at e; cases e
  | stuck => rw [e1] at e; cases e
  | ok q =>
    rw [e1, Out.bind_ok] at e
    split at e
    · injection e with e; rw [← e]; exact evs_pure h pu _ q e1
    · cases e

theorem tI_tAs {K : PySem.W.Frag} {L : Hp} {W : WX} {tm : Bool} {xs : List Ex} {k : List D → Option (List D)} {σ : St} {H : Hp} {R : It → Hp → Prop} {T : List V → Hp → Prop} (h : tI K L W (itOp tm k xs) σ H R)
    (go : ∀ B Fr H1 ρ ds vs es, k ds = some es → vs.length = ds.length → Ok K L B Fr H1 (vs.map some ++ σ) (ds ++ ρ) →
      (∀ J H' Fr' B', Sub B B' → Sub Fr Fr' → Sub H1 H' → Ok K L B' Fr' H' σ ρ → Walks K L B' Fr' (fun H2 => tm = true → Sub H' H2) J es → R J H') → T vs H1) : tAs K L W xs σ H T := by
  obtain ⟨B, Fr, ρ, ok, st, h⟩ := h
  refine ⟨B, Fr, ρ, ok, st, ?_⟩
  have h : (match (evs xs ρ).bind fun r => match k r.1 with | some ds => .ok (ds, r.2) | none => (.stuck : Out (List D × List D)) with
    | .ok r => ∀ J H' Fr' B', Sub B B' → Sub Fr Fr' → (pus xs = true → Sub H H') → stbs r.2 = true → Ok K L B' Fr' H' σ r.2 → Walks K L B' Fr' (fun H2 => tm = true → Sub H' H2) J r.1 → R J H'
    | .exc e r => Err K L W B Fr σ e r
    | .stuck => False) := h
  cases e1 : evs xs ρ with
  | exc ex r => rw [e1] at h; exact h
  | stuck => rw [e1] at h; exact h
  | ok r =>
    rw [e1, Out.bind_ok] at h
    intro vs H1 Fr1 hl sf pu st1 ok1
    cases e2 : k r.1 with
    | none => rw [e2] at h; exact h.elim
    | some es =>
      rw [e2] at h
      exact go B Fr1 H1 r.2 r.1 vs es e2 hl ok1 fun J H' Fr' B' sB sF sH ok' wk => h J H' Fr' B' sB (sf.trans sF) (fun z => (pu z).trans sH) st1 ok' wk

/-! ### ranges -/
def rgOk (i : Int) : Bool := decide (-(2 ^ 62) ≤ i) && decide (i < 2 ^ 62)
def rgL (lo : Int) (n : Nat) : List D := (List.range n).map fun (k : Nat) => .int (lo + (k : Int))
def rgD (lo : Int) (n : Nat) : List D := (List.range n).map fun (k : Nat) => .int (lo - (k : Int))
def kR1 : List D → Option (List D)
  | [.int j] => if rgOk j = true then some (rgL 0 j.toNat) else none
  | _ => none
def kR2 : List D → Option (List D)
  | [.int i, .int j] => if (rgOk i && rgOk j) = true then some (rgL i (j - i).toNat) else none
  | _ => none
def kRd : List D → Option (List D)
  | [.int i, .int j, .int c] => if (rgOk i && rgOk j && decide (c = -1)) = true then some (rgD i (i - j).toNat) else none
  | _ => none
theorem rgOk_eq {i : Int} (h : rgOk i = true) : -(2 ^ 62) ≤ i ∧ i < 2 ^ 62 := by
  have h := Bool.and_eq_true_iff.mp h
  exact ⟨of_decide_eq_true h.1, of_decide_eq_true h.2⟩
theorem rg_get {f : Nat → D} {n i : Nat} {d : D} (e : ((List.range n).map f)[i]? = some d) : i < n ∧ d = f i := by
  rw [List.getElem?_map] at e
  obtain ⟨k, e1, e2⟩ := Option.map_eq_some_iff.mp e
  obtain ⟨h1, h2⟩ := List.getElem?_eq_some_iff.mp e1
  rw [List.length_range] at h1
  rw [List.getElem_range] at h2
  subst h2
  exact ⟨h1, e2.symm⟩
theorem walks_rng {K : PySem.W.Frag} {L B Fr : Hp} {S : Hp → Prop} (lo : Int) (n : Nat) : Walks K L B Fr S (Itr lo n) (rgL lo n) := by
  refine ⟨fun i B' Fr' H os es d sB sF hS ok e => ?_, fun i B' Fr' H os es sB sF hS ok e => by
    unfold rgL at e
    rw [List.length_map, List.length_range] at e
    exact e⟩
  obtain ⟨h1, rfl⟩ := rg_get e
  refine ⟨h1, fun x H' y => ?_⟩
  obtain ⟨rfl, rfl⟩ := y
  exact ⟨Fr', Sub.refl _, Sub.refl _, ok.pushF rfl⟩
theorem walks_down {K : PySem.W.Frag} {L B Fr : Hp} {S : Hp → Prop} (lo : Int) (n : Nat) : Walks K L B Fr S (Itc lo (-1) n) (rgD lo n) := by
  refine ⟨fun i B' Fr' H os es d sB sF hS ok e => ?_, fun i B' Fr' H os es sB sF hS ok e => by
    unfold rgD at e
    rw [List.length_map, List.length_range] at e
    exact e⟩
  obtain ⟨h1, rfl⟩ := rg_get e
  refine ⟨h1, fun x H' y => ?_⟩
  obtain ⟨rfl, rfl⟩ := y
  refine ⟨Fr', Sub.refl _, Sub.refl _, ok.pushF ?_⟩
  show V.int (lo + (i : Nat) * -1) = V.int (lo - (i : Nat))
  congr 1
  omega
section
variable {X : Cx} {L : Hp} {W : WX} {tg a b c : Expr} {x y z : Ex} {xs : List Ex} {pos p : Pos}
theorem si_r1 (hg : Gl X "range") (hm : X.mg "range" = none) (ha : SA X L W [a] xs) (hs : starEach [a] X.env = [(false, eval a X.env)] := by rfl) : SI X L W tg (.Call (.Name "range" p) [a] [] pos) (itOp false kR1 xs) := by
  refine ⟨⟨fun pins s σ H R I hw => (pi_range1 hg hm ha.run hs).run pins s σ H R I (tI_tAs hw fun B Fr H1 ρ ds vs es e hl ok q => ?_)⟩, pureI_op ha.pu⟩
  unfold kR1 at e
  split at e
  · rename_i j
    obtain ⟨c, e⟩ := if_some' e
    subst e
    obtain ⟨v, rfl, ok⟩ := ok1 ok hl
    obtain ⟨h1, h2⟩ := rgOk_eq c
    exact ⟨j, by rw [show v = .int j from ok.topF rfl], h1, h2, q _ H1 Fr B (Sub.refl _) (Sub.refl _) (Sub.refl _) ok.pop (walks_rng 0 j.toNat)⟩
  · cases e
theorem si_r2 (hg : Gl X "range") (hm : X.mg "range" = none) (ha : SA X L W [a, b] xs) (hs : starEach [a, b] X.env = [(false, eval a X.env), (false, eval b X.env)] := by rfl) (hs2 : starEach [b] X.env = [(false, eval b X.env)] := by rfl) : SI X L W tg (.Call (.Name "range" p) [a, b] [] pos) (itOp false kR2 xs) := by
  refine ⟨⟨fun pins s σ H R I hw => (pi_range2 hg hm ha.run hs hs2).run pins s σ H R I (tI_tAs hw fun B Fr H1 ρ ds vs es e hl ok q => ?_)⟩, pureI_op ha.pu⟩
  unfold kR2 at e
  split at e
  · rename_i i j
    obtain ⟨c, e⟩ := if_some' e
    subst e
    obtain ⟨v, w, rfl, ok⟩ := ok2 ok hl
    obtain ⟨h1, h2⟩ := rgOk_eq (Bool.and_eq_true_iff.mp c).1
    obtain ⟨h3, h4⟩ := rgOk_eq (Bool.and_eq_true_iff.mp c).2
    exact ⟨i, j, by rw [show v = .int i from ok.topF rfl, show w = .int j from ok.pop.topF rfl], ⟨h1, h2, h3, h4⟩, q _ H1 Fr B (Sub.refl _) (Sub.refl _) (Sub.refl _) ok.pop.pop (walks_rng i (j - i).toNat)⟩
  · cases e
theorem si_rd (hg : Gl X "range") (hm : X.mg "range" = none) (ha : SA X L W [a, b, c] xs) (hs : starEach [a, b, c] X.env = (false, eval a X.env) :: starEach [b, c] X.env := by rfl) (hpl : (backTo pos (starEach [b, c] X.env)).any (·.1) = false := by rfl) : SI X L W tg (.Call (.Name "range" p) [a, b, c] [] pos) (itOp false kRd xs) := by
  refine ⟨⟨fun pins s σ H R I hw => (pi_range3 hg hm ha.run hs hpl).run pins s σ H R I (tI_tAs hw fun B Fr H1 ρ ds vs es e hl ok q => ?_)⟩, pureI_op ha.pu⟩
  unfold kRd at e
  split at e
  · rename_i i j c
    obtain ⟨c, e⟩ := if_some' e
    subst e
    rw [Bool.and_eq_true, decide_eq_true_eq] at c
    obtain ⟨c, rfl⟩ := c
    obtain ⟨v, w, u, rfl, ok⟩ := ok3 ok hl
    obtain ⟨h1, h2⟩ := rgOk_eq (Bool.and_eq_true_iff.mp c).1
    obtain ⟨h3, h4⟩ := rgOk_eq (Bool.and_eq_true_iff.mp c).2
    exact ⟨i, j, -1, (i - j).toNat, by rw [show v = .int i from ok.topF rfl, show w = .int j from ok.pop.topF rfl, show u = .int (-1) from ok.pop.pop.topF rfl], RgC.neg h1 h2 h3 h4, q _ H1 Fr B (Sub.refl _) (Sub.refl _) (Sub.refl _) ok.pop.pop.pop (walks_down i (i - j).toNat)⟩
  · cases e
end
end Ev

/-! C13: list comprehensions. -/
namespace Ev
open PySem PySem.Spec L2
open PyProof.Rows hiding St

section
variable {K : PySem.W.Frag} {L B Fr H : Hp}
/-- names without data may hold anything -/
theorem RepO.os : ∀ {ds : List D} {os os' : List (Option V)} {F : List Addr}, RepO K L Fr H ds os F → os'.length = os.length → (∀ i : Nat, ds[i]? = some .unset ∨ os'[i]? = os[i]?) → RepO K L Fr H ds os' F
  | [], [], [], _, h, _, _ => h
  | [], [], _ :: _, _, _, l, _ => by cases l
  | [], _ :: _, _, _, h, _, _ => False.elim h
  | _ :: _, [], _, _, h, _, _ => False.elim h
  | _ :: _, _ :: _, [], _, _, l, _ => by cases l
  | d :: ds, o :: os, o' :: os', F, h, l, k => by
    obtain ⟨F1, F2, e, r1, r2⟩ := h
    refine ⟨F1, F2, e, ?_, RepO.os r2 (Nat.succ.inj l) fun i => ?_⟩
    · rcases k 0 with z | z
      · have z : d = .unset := by simpa using z
        subst z
        rcases r1 with ⟨_, e⟩ | ⟨v, _, q⟩
        · exact .inl ⟨rfl, e⟩
        · exact False.elim q
      · have z : o' = o := by simpa using z
        rw [z]
        exact r1
    · have := k (i + 1)
      simpa using this
theorem Ok.os {os os' : List (Option V)} {ds : List D} (x : Ok K L B Fr H os ds) (l : os'.length = os.length) (k : ∀ i : Nat, ds[i]? = some .unset ∨ os'[i]? = os[i]?) : Ok K L B Fr H os' ds := by
  obtain ⟨F, r, nd, c⟩ := x.rep
  exact ⟨x.fr, x.br, x.lb, x.dj, F, r.os l k, nd, c⟩
/-- an entry is forgotten -/
theorem Ok.drop {os : List (Option V)} {ds : List D} (x : Ok K L B Fr H os ds) (i : Nat) : Ok K L B Fr H os (ds.set i .unset) := by
  by_cases hi : i < ds.length
  · obtain ⟨F, r, nd, c⟩ := x.rep
    have ed : ds[i]? = some ds[i] := List.getElem?_eq_getElem hi
    obtain ⟨o, eo⟩ := getElem_os x.len ed
    obtain ⟨F1, F2, p, q, s⟩ := r.focus i ed eo
    obtain ⟨F', p', r'⟩ := s .unset o [] (.inl ⟨rfl, rfl⟩)
    rw [set_same eo] at r'
    have nd2 := perm_nodup p nd
    refine ⟨x.fr, x.br, x.lb, x.dj, F', r', ?_, fun a ha => c a (p.mem_iff.mpr (List.mem_append_right _ (p'.mem_iff.mp ha)))⟩
    exact perm_nodup p'.symm (List.nodup_append.mp nd2).2.1
  · rw [List.set_eq_of_length_le (by omega)]
    exact x
def wipeD (ρ : List D) : List Nat → List D
  | [] => ρ
  | v :: vs => (wipeD ρ vs).set v .unset
theorem wipeD_len (ρ : List D) : ∀ vs : List Nat, (wipeD ρ vs).length = ρ.length
  | [] => rfl
  | v :: vs => by unfold wipeD; rw [List.length_set, wipeD_len ρ vs]
theorem wipeD_in {ρ : List D} {i : Nat} : ∀ {vs : List Nat}, i ∈ vs → i < ρ.length → (wipeD ρ vs)[i]? = some .unset
  | v :: vs, h, hi => by
    unfold wipeD
    by_cases e : v = i
    · subst e
      rw [List.getElem?_set_self (by rw [wipeD_len]; exact hi)]
    · rw [List.getElem?_set_ne e]
      rcases List.mem_cons.mp h with z | z
      · exact absurd z.symm e
      · exact wipeD_in z hi
theorem stbs_wipe {ρ : List D} (h : stbs ρ = true) : ∀ vs : List Nat, stbs (wipeD ρ vs) = true
  | [] => h
  | v :: vs => stbs_set rfl v (stbs_wipe h vs)
theorem wipe_in {σ : St} {i : Nat} : ∀ {vs : List Nat}, i ∈ vs → i < σ.length → (wipe σ vs)[i]? = some none
  | v :: vs, h, hi => by
    unfold wipe
    by_cases e : v = i
    · subst e
      rw [List.getElem?_set_self (by rw [wipe_length]; exact hi)]
    · rw [List.getElem?_set_ne e]
      rcases List.mem_cons.mp h with z | z
      · exact absurd z.symm e
      · exact wipe_in z hi
theorem Ok.wipeD {os : List (Option V)} {ds : List D} (x : Ok K L B Fr H os ds) : ∀ vs : List Nat, Ok K L B Fr H os (wipeD ds vs)
  | [] => x
  | v :: vs => (Ok.wipeD x vs).drop v
/-- .. whatever the wiped names hold -/
theorem Ok.wiped {os os' : List (Option V)} {ds : List D} {vs : List Nat} (x : Ok K L B Fr H os ds) (l : os'.length = os.length) (k : ∀ i : Nat, i ∉ vs → os'[i]? = os[i]?) : Ok K L B Fr H os' (Ev.wipeD ds vs) := by
  refine (x.wipeD vs).os l fun i => ?_
  by_cases m : i ∈ vs
  · by_cases hi : i < ds.length
    · exact .inl (wipeD_in m hi)
    · have hl := x.len
      right
      rw [List.getElem?_eq_none (by omega), List.getElem?_eq_none (by omega)]
  · exact .inr (k i m)
end
/-- the slots that a block leaves -/
def keptS (n : Nat) (vs : List Nat) : List Nat := (List.range n).filter fun i => !vs.contains i
theorem wipe_eq {n : Nat} {vs : List Nat} {σ σ' : St} (hl : σ'.length = σ.length) (hn : σ.length = n) (h : Agree (keptS n vs) σ σ') : wipe σ' vs = wipe σ vs := by
  refine List.ext_getElem? fun i => ?_
  by_cases hi : i < n
  · by_cases m : i ∈ vs
    · rw [wipe_in m (by omega), wipe_in m (by omega)]
    · rw [wipe_out m, wipe_out m]
      refine h i ?_
      unfold keptS
      rw [List.mem_filter]
      exact ⟨List.mem_range.mpr hi, by simpa using m⟩
  · rw [List.getElem?_eq_none (by rw [wipe_length]; omega), List.getElem?_eq_none (by rw [wipe_length]; omega)]
theorem wipe_wipe (σ : St) (vs : List Nat) : wipe (wipe σ vs) vs = wipe σ vs := wipe_eq (n := σ.length) (wipe_length _ _) rfl fun i hi => by
  unfold keptS at hi
  rw [List.mem_filter] at hi
  exact wipe_out (by simpa using hi.2)
theorem wipeD_out {ρ : List D} {i : Nat} : ∀ {vs : List Nat}, i ∉ vs → (wipeD ρ vs)[i]? = ρ[i]?
  | [], _ => rfl
  | v :: vs, h => by
    unfold wipeD
    rw [List.getElem?_set_ne (fun e => h (by rw [e]; exact List.mem_cons_self))]
    exact wipeD_out fun m => h (List.mem_cons_of_mem _ m)
theorem wipeD_eq {ρ ρ' : List D} {vs : List Nat} (hl : ρ'.length = ρ.length) (h : ∀ i : Nat, i ∉ vs → ρ'[i]? = ρ[i]?) : wipeD ρ' vs = wipeD ρ vs := by
  refine List.ext_getElem? fun i => ?_
  by_cases m : i ∈ vs
  · by_cases hi : i < ρ.length
    · rw [wipeD_in m hi, wipeD_in m (by omega)]
    · rw [List.getElem?_eq_none (by rw [wipeD_len]; omega), List.getElem?_eq_none (by rw [wipeD_len]; omega)]
  · rw [wipeD_out m, wipeD_out m]
    exact h i m
theorem wipeD_twice (ρ : List D) (vs : List Nat) : wipeD (wipeD ρ vs) vs = wipeD ρ vs := wipeD_eq (wipeD_len _ _) fun i m => wipeD_out m
/-- a target touches the block's names only -/
def TgW (vs : List Nat) (g : Tg) : Prop := ∀ d ρ ρ', g d ρ = some ρ' → wipeD ρ' vs = wipeD ρ vs
theorem tgw_n {i : Nat} {vs : List Nat} (h : i ∈ vs := by decide) : TgW vs (gN i) := fun d ρ ρ' e => by
  unfold gN at e
  split at e
  · cases e
    exact wipeD_eq List.length_set fun j hj => List.getElem?_set_ne (fun e : i = j => hj (by rw [← e]; exact h))
  · cases e
theorem gAll_w {vs : List Nat} : ∀ {gs : List Tg} {ds : List D} {ρ ρ' : List D}, (∀ g ∈ gs, TgW vs g) → gAll gs ds ρ = some ρ' → wipeD ρ' vs = wipeD ρ vs
  | [], [], _, _, _, e => by cases e; rfl
  | [], _ :: _, _, _, _, e => by cases e
  | _ :: _, [], _, _, _, e => by cases e
  | g :: gs, d :: ds, ρ, ρ', h, e => by
    have e : (g d ρ).bind (fun ρ' => gAll gs ds ρ') = some ρ' := e
    cases e1 : g d ρ with
    | none => rw [e1] at e; cases e
    | some ρ1 =>
      rw [e1, Option.bind_some] at e
      rw [gAll_w (fun g hg => h g (List.mem_cons_of_mem _ hg)) e, h g List.mem_cons_self _ _ _ e1]
theorem tgw_t {vs : List Nat} {gs : List Tg} (h : ∀ g ∈ gs, TgW vs g) : TgW vs (gT gs) := fun d ρ ρ' e => by
  unfold gT at e
  split at e
  · exact gAll_w h e
  · cases e
theorem tgw_cons {vs : List Nat} {g : Tg} {gs : List Tg} (h : TgW vs g) (t : ∀ g ∈ gs, TgW vs g) : ∀ y ∈ g :: gs, TgW vs y := fun y hy => by
  rcases List.mem_cons.mp hy with z | z
  · rw [z]; exact h
  · exact t y z
theorem tgw_nil {vs : List Nat} : ∀ g ∈ ([] : List Tg), TgW vs g := fun _ h => by cases h

/-- [x for g in ds if t] -/
def lcL (vs : List Nat) (g : Tg) (t x : Ex) : List D → List D → List D → Out (List D × List D)
  | [], acc, ρ => .ok (acc, ρ)
  | d :: ds, acc, ρ => match g d ρ with
    | none => .stuck
    | some ρ1 => match t.f ρ1 with
      | .ok (b, ρ2) => match truth b with
        | some true => match x.f ρ2 with
          | .ok (y, ρ3) => if (y.canFz && decide (acc.length < sizeLine)) = true then lcL vs g t x ds (acc ++ [y.frz]) (wipeD ρ3 vs) else .stuck
          | _ => .stuck
        | some false => lcL vs g t x ds acc (wipeD ρ2 vs)
        | none => .stuck
      | _ => .stuck
def D.isUn : D → Bool
  | .unset => true
  | _ => false
def unAt (ρ : List D) (vs : List Nat) : Bool := vs.all fun v => match ρ[v]? with
  | some d => d.isUn
  | none => true
theorem unAt_eq {ρ : List D} : ∀ {vs : List Nat}, unAt ρ vs = true → wipeD ρ vs = ρ
  | [], _ => rfl
  | v :: vs, h => by
    have h := Bool.and_eq_true_iff.mp (show ((match ρ[v]? with | some d => d.isUn | none => true) && unAt ρ vs) = true from h)
    unfold wipeD
    rw [unAt_eq h.2]
    cases e : ρ[v]? with
    | none => rw [List.set_eq_of_length_le (List.getElem?_eq_none_iff.mp e)]
    | some d =>
      have h1 := h.1
      rw [e] at h1
      cases d with
      | unset =>
        obtain ⟨hi, e'⟩ := List.getElem?_eq_some_iff.mp e
        conv => rhs; rw [← List.set_getElem_self hi]
        rw [e']
      | _ => cases h1
def eLc (p : Bool) (vs : List Nat) (it : Its) (g : Tg) (t x : Ex) : Ex := ⟨p && (it.pu && (t.pu && x.pu)), fun ρ => if (!it.tm || (t.pu && x.pu)) = true then (it.f ρ).bind fun r => if (!p || unAt r.2 vs) = true then (lcL vs g t x r.1 [] (wipeD r.2 vs)).bind fun q => .ok (D.own q.1, q.2) else .stuck else .stuck⟩
theorem lcL_pure {vs : List Nat} {g : Tg} {t x : Ex} (hg : TgW vs g) (ht : Pure t) (hx : Pure x) (pt : t.pu = true) (px : x.pu = true) : ∀ {ds acc ρ : List D} {q : List D × List D}, lcL vs g t x ds acc ρ = .ok q → wipeD ρ vs = ρ → q.2 = ρ
  | [], acc, ρ, q, e, w => by
    have e : (Out.ok (acc, ρ)) = .ok q := e
    injection e with e
    rw [← e]
  | d :: ds, acc, ρ, q, e, w => by
    unfold lcL at e
    cases e1 : g d ρ with
    | none => rw [e1] at e; cases e
    | some ρ1 =>
      rw [e1] at e
      dsimp only at e
      have w1 := hg _ _ _ e1
      cases e2 : t.f ρ1 with
      | exc ex r => rw [e2] at e; cases e
      | stuck => rw [e2] at e; cases e
      | ok r2 =>
        obtain ⟨b, ρ2⟩ := r2
        rw [e2] at e
        dsimp only at e
        have h2 : ρ2 = ρ1 := ht pt _ _ e2
        subst h2
        cases e3 : truth b with
        | none => rw [e3] at e; cases e
        | some c =>
          rw [e3] at e
          cases c with
          | false =>
            dsimp only at e
            rw [w1, w] at e
            exact lcL_pure hg ht hx pt px e w
          | true =>
            dsimp only at e
            cases e4 : x.f ρ2 with
            | exc ex r => rw [e4] at e; cases e
            | stuck => rw [e4] at e; cases e
            | ok r3 =>
              obtain ⟨y, ρ3⟩ := r3
              rw [e4] at e
              dsimp only at e
              have h3 : ρ3 = ρ2 := hx px _ _ e4
              subst h3
              split at e
              · rw [w1, w] at e
                exact lcL_pure hg ht hx pt px e w
              · cases e
theorem pure_lc {p : Bool} {vs : List Nat} {it : Its} {g : Tg} {t x : Ex} (hi : PureI it) (hg : TgW vs g) (ht : Pure t) (hx : Pure x) : Pure (eLc p vs it g t x) := fun pu ρ r e => by
  have pu := Bool.and_eq_true_iff.mp (show (p && (it.pu && (t.pu && x.pu))) = true from pu)
  have pu2 := Bool.and_eq_true_iff.mp pu.2
  have pu3 := Bool.and_eq_true_iff.mp pu2.2
  unfold eLc at e
  dsimp only at e
  split at e
  · cases e1 : it.f ρ with
    | exc ex r => rw [e1] at e; cases e
    | stuck => rw [e1] at e; cases e
    | ok z =>
      rw [e1, Out.bind_ok] at e
      have hz := hi pu2.1 _ _ e1
      split at e
      · rename_i c
        rw [pu.1] at c
        have c : unAt z.2 vs = true := by simpa using c
        cases e2 : lcL vs g t x z.1 [] (wipeD z.2 vs) with
        | exc ex r => rw [e2] at e; cases e
        | stuck => rw [e2] at e; cases e
        | ok q =>
          rw [e2, Out.bind_ok] at e
          injection e with e
          rw [← e]
          show q.2 = ρ
          rw [lcL_pure hg ht hx pu3.1 pu3.2 e2 (wipeD_twice _ _), unAt_eq c, hz]
      · cases e
  · cases e
/-- no exception may leave a block -/
abbrev noX : WX := fun _ _ _ _ => False
structure STs (X : Cx) (L : Hp) (ifs : List Expr) (t : Ex) : Prop where
  run : PTs X ifs (tT X.K L noX t)
  pu : Pure t
section
variable {X : Cx} {L : Hp} {W : WX}
theorem sts_nil : STs X L [] (eC (.bl true)) := by
  refine ⟨⟨fun pins s σ H Q I h => pts_nil.run pins s σ H Q I ?_⟩, pure_c⟩
  obtain ⟨B, Fr, ρ, ok, st, b, e, h⟩ := h
  cases e
  exact h H Fr (Sub.refl _) (fun _ => Sub.refl _) st ok
theorem sts_one {c : Expr} {t : Ex} (h : ST X L noX c t) : STs X L [c] t := ⟨pts_one h.run, h.pu⟩
end
section
variable {X : Cx} {L : Hp} {W : WX} {elt tg iter : Expr} {ifs : List Expr} {scope : Scope} {own : List (Str × Nat)} {pos : Pos} {it : Its} {g : Tg} {t x : Ex} {p : Bool}
theorem err_no {K : PySem.W.Frag} {B Fr H : Hp} {σ : St} {e : Exn} {ρ : List D} : Err K L W B Fr σ e ρ → Err K L W B Fr σ e ρ := id
theorem tLc_of {K : PySem.W.Frag} {n : Nat} {vs : List Nat} {σ : St} {H : Hp} {Q : VK} (hn : σ.length = n) (hg : TgW vs g) (h : tE K L W (eLc p vs it g t x) σ H Q) :
    tLc (tI K L W it) (tG K L (keptS n vs) g) (tT K L noX t) (tE K L noX x) vs σ H Q := by
  obtain ⟨B, Fr, ρ, ok, st, h⟩ := h
  refine ⟨B, Fr, ρ, ok, st, ?_⟩
  unfold eLc at h
  dsimp only at h
  have ctm : (!it.tm || (t.pu && x.pu)) = true := by
    by_cases c : (!it.tm || (t.pu && x.pu)) = true
    · exact c
    · rw [if_neg c] at h; exact h.elim
  rw [if_pos ctm] at h
  cases e1 : it.f ρ with
  | exc ex r => rw [e1] at h; exact h
  | stuck => rw [e1] at h; exact h
  | ok r =>
    rw [e1, Out.bind_ok] at h
    obtain ⟨ds, ρ0⟩ := r
    dsimp only at h ⊢
    intro J H1 Fr0 B0 sB0 sF0 pu0 st0 ok0 wk P hD
    by_cases cp : (!p || unAt ρ0 vs) = true
    · rw [if_pos cp] at h
      -- the loop's end
      have okN : Ok K L B0 Fr0 (upd H1 P (.lst [])) (some (.ref P) :: wipe σ vs) (D.own [] :: wipeD ρ0 vs) := by
        have y : Ok K L B0 Fr0 H1 (wipe σ vs) (wipeD ρ0 vs) := ok0.wiped (wipe_length _ _) fun i m => wipe_out m
        exact y.newL hD trivial
      have D1 : ∀ {H2 : Hp} {vs' : List V}, Sub H1 H2 → Sub H1 (upd H2 P (.lst vs')) := fun s a o e => by
        rw [upd_ne (fun z => by subst z; rw [hD] at e; cases e)]
        exact s a o e
      have key : (t.pu && x.pu) = true → (it.tm = true → True) := fun _ _ => trivial
      refine ⟨fun i m H2 => m = ds.length - i ∧ i ≤ ds.length ∧ ∃ Fr1 acc ρ1, Sub Fr0 Fr1 ∧ stbs ρ1 = true ∧ wipeD ρ1 vs = ρ1 ∧ ((t.pu && x.pu) = true → Sub H1 H2) ∧ Ok K L B0 Fr1 H2 (some (.ref P) :: wipe σ vs) (D.own acc :: ρ1) ∧ lcL vs g t x (ds.drop i) acc ρ1 = lcL vs g t x ds [] (wipeD ρ0 vs),
        ⟨ds.length, by simp, Nat.zero_le _, Fr0, [], wipeD ρ0 vs, Sub.refl _, stbs_wipe st0 vs, wipeD_twice _ _, fun _ => D1 (Sub.refl _), okN, rfl⟩, ?_⟩
      rintro i m H2 ⟨rfl, hi, Fr1, acc, ρ1, sF1, st1, w1, pu1, ok1, eq1⟩
      have tmS : it.tm = true → Sub H1 H2 := fun z => pu1 (by rw [z] at ctm; simpa using ctm)
      by_cases hlt : i < ds.length
      · have ed : ds[i]? = some ds[i] := List.getElem?_eq_getElem hlt
        have edr : ds.drop i = ds[i] :: ds.drop (i + 1) := List.drop_eq_getElem_cons hlt
        obtain ⟨B2, sB2, ok2, back⟩ := ok1.hide
        obtain ⟨go, yl⟩ := wk.go i B2 Fr1 H2 _ ρ1 ds[i] sB2 sF1 tmS ok2 ed
        have lb0 := ok1.lb
        rw [edr] at eq1
        conv at eq1 => lhs; unfold lcL
        refine .inr ⟨go, fun H' => ∃ Fr1 acc ρ1, Sub Fr0 Fr1 ∧ stbs ρ1 = true ∧ wipeD ρ1 vs = ρ1 ∧ ((t.pu && x.pu) = true → Sub H1 H') ∧ Ok K L B0 Fr1 H' (some (.ref P) :: wipe σ vs) (D.own acc :: ρ1) ∧ lcL vs g t x (ds.drop (i + 1)) acc ρ1 = lcL vs g t x ds [] (wipeD ρ0 vs), fun H' nx => ⟨ds.length - (i + 1), by omega, rfl, hlt, nx⟩, fun u H3 yu => ?_⟩
        obtain ⟨Fr3, sF3, sH3, ok3⟩ := yl u H3 yu
        refine ⟨B2, Fr3, ds[i], ρ1, ok3, st1, ?_⟩
        cases e2 : g ds[i] ρ1 with
        | none => rw [e2] at eq1; rw [← eq1] at h; exact h.elim
        | some ρ2 =>
          rw [e2] at eq1
          dsimp only at eq1 ⊢
          have w2 := hg _ _ _ e2
          intro σ4 H4 Fr4 sF4 sH4 ag4 st4 ok4
          have l4 : σ4.length = (wipe σ vs).length := by
            have a := ok4.len
            have b := ok2.len
            have c := congrArg List.length w2
            rw [wipeD_len, wipeD_len] at c
            omega
          have ws4 : wipe σ4 vs = wipe σ vs := by rw [wipe_eq l4 (by rw [wipe_length]; exact hn) ag4, wipe_wipe]
          refine ⟨ws4, B2, Fr4, ρ2, ok4, st4, ?_⟩
          cases e3 : t.f ρ2 with
          | exc ex r => rw [e3] at eq1; rw [← eq1] at h; exact h.elim
          | stuck => rw [e3] at eq1; rw [← eq1] at h; exact h.elim
          | ok r3 =>
            obtain ⟨b, ρ3⟩ := r3
            rw [e3] at eq1
            dsimp only at eq1 ⊢
            cases e4 : truth b with
            | none => rw [e4] at eq1; rw [← eq1] at h; exact h.elim
            | some c =>
              rw [e4] at eq1
              refine ⟨c, rfl, fun H5 Fr5 sF5 pu5 st5 ok5 => ?_⟩
              cases c with
              | false =>
                dsimp only at eq1
                rw [if_neg Bool.false_ne_true]
                have ok6 : Ok K L B2 Fr5 H5 (wipe σ vs) (wipeD ρ3 vs) := by
                  rw [← ws4]
                  exact ok5.wiped (wipe_length _ _) fun i m => wipe_out m
                refine ⟨Fr5, acc, wipeD ρ3 vs, sF1.trans (sF3.trans (sF4.trans sF5)), stbs_wipe st5 vs, wipeD_twice _ _, fun z => (pu1 z).trans (sH3.trans (sH4.trans (pu5 (Bool.and_eq_true_iff.mp z).1))), back (sF3.trans (sF4.trans sF5)) (.inl rfl) ok6, eq1⟩
              | true =>
                dsimp only at eq1
                rw [if_pos rfl]
                refine ⟨B2, Fr5, ρ3, ok5, st5, ?_⟩
                cases e6 : x.f ρ3 with
                | exc ex r => rw [e6] at eq1; rw [← eq1] at h; exact h.elim
                | stuck => rw [e6] at eq1; rw [← eq1] at h; exact h.elim
                | ok r6 =>
                  obtain ⟨y, ρ6⟩ := r6
                  rw [e6] at eq1
                  dsimp only at eq1 ⊢
                  intro yv H6 Fr6 sF6 pu6 st6 ok6
                  by_cases cy : (y.canFz && decide (acc.length < sizeLine)) = true
                  · rw [if_pos cy] at eq1
                    rw [Bool.and_eq_true, decide_eq_true_eq] at cy
                    obtain ⟨Fr7, sF7, ry, ok7⟩ := ok6.pull cy.1
                    have ok8 : Ok K L B2 Fr7 H6 (wipe σ vs) (wipeD ρ6 vs) := by
                      rw [← ws4]
                      exact ok7.wiped (wipe_length _ _) fun i m => wipe_out m
                    have sF9 : Sub Fr1 Fr7 := sF3.trans (sF4.trans (sF5.trans (sF6.trans sF7)))
                    have ok9 := back sF9 (.inl rfl) ok8
                    obtain ⟨_, q, accV, eq, hq, racc⟩ := ok9.ownAt
                    cases eq
                    refine ⟨accV, hq, by rw [← racc.len]; exact cy.2, Fr7, acc ++ [y.frz], wipeD ρ6 vs, sF1.trans sF9, stbs_wipe st6 vs, wipeD_twice _ _, fun z => ?_, ok9.change (stbs_wipe st6 vs) (RepFs.app racc ⟨ry, trivial⟩), eq1⟩
                    have z' := Bool.and_eq_true_iff.mp z
                    exact D1 ((pu1 z).trans (sH3.trans (sH4.trans ((pu5 z'.1).trans (pu6 z'.2)))))
                  · rw [if_neg cy] at eq1; rw [← eq1] at h; exact h.elim
      · have ei : i = ds.length := by omega
        subst ei
        rw [List.drop_length] at eq1
        obtain ⟨B2, sB2, ok2, back⟩ := ok1.hide
        refine .inl ⟨wk.stop _ B2 Fr1 H2 _ ρ1 sB2 sF1 tmS ok2 (Nat.le_refl _), ?_⟩
        rw [← eq1] at h
        have h : ∀ (v : V) (H' Fr' : Hp), Sub Fr Fr' → ((p && (it.pu && (t.pu && x.pu))) = true → Sub H H') → stbs ρ1 = true → Ok K L B Fr' H' (some v :: σ) (D.own acc :: ρ1) → Q v H' := h
        refine h _ H2 Fr1 (sF0.trans sF1) (fun z => ?_) st1 ?_
        · have z' := Bool.and_eq_true_iff.mp (Bool.and_eq_true_iff.mp z).2
          exact (pu0 z'.1).trans (pu1 z'.2)
        · have y : Ok K L B0 Fr1 H2 (some (.ref P) :: σ) (D.own acc :: ρ1) := ok1.os (by simp [wipe_length]) fun i => by
            cases i with
            | zero => exact .inr rfl
            | succ i =>
              by_cases m : i ∈ vs
              · by_cases hi : i < ρ1.length
                · left
                  have z := wipeD_in (vs := vs) m hi
                  rw [w1] at z
                  simpa using z
                · right
                  have a := ok2.len
                  rw [wipe_length] at a
                  simp only [List.getElem?_cons_succ]
                  rw [List.getElem?_eq_none (by omega), List.getElem?_eq_none (by rw [wipe_length]; omega)]
              · right
                simp only [List.getElem?_cons_succ]
                exact (wipe_out m).symm
          exact y.lessB sB0 ok.lb
    · rw [if_neg cp] at h
      exact h.elim
end
section
variable {X : Cx} {L : Hp} {W : WX} {elt tg iter : Expr} {ifs : List Expr} {scope : Scope} {own : List (Str × Nat)} {pos : Pos} {it : Its} {g : Tg} {t x : Ex}
theorem Inv.slots {pins : List (Addr × Obj)} {σ : St} {H : Hp} {s : Shared} (I : Inv X pins σ H s) : σ.length = X.N.length := I.len
theorem se_lc (p : Bool) (hc : X.calm = true) (hN : X.N.Nodup) (hi : SI X L W tg iter it) (ok : BlkOk X.N X.env.scope scope own) (hw : TgW (own.map (·.2)) g)
    (hg : ∀ (s : Shared) (H : Hp) (C : Addr) (cl : List (Str × Addr)) (fp : List Addr), SG (X.blk s H scope (compEnvC scope cl C X.env) fp) L (keptS X.N.length (own.map (·.2))) tg g)
    (ht : ∀ (s : Shared) (H : Hp) (C : Addr) (cl : List (Str × Addr)) (fp : List Addr), STs (X.blk s H scope (compEnvC scope cl C X.env) fp) L ifs t)
    (he : ∀ (s : Shared) (H : Hp) (C : Addr) (cl : List (Str × Addr)) (fp : List Addr), SE (X.blk s H scope (compEnvC scope cl C X.env) fp) L noX elt x)
    (hs : ∀ x, foldedSetIterable iter X.env x = pure x := by intro _; rfl) :
    SE X L W (.ListComp elt [⟨tg, iter, ifs, 0⟩] scope pos) (eLc p (own.map (·.2)) it g t x) := by
  refine ⟨⟨fun pins s σ H Q I h => ?_⟩, pure_lc hi.pu hw (ht X.s_0 X.H_0 0 [] []).pu (he X.s_0 X.H_0 0 [] []).pu⟩
  exact (pe_lc (te := tE X.K L noX x) (g := tG X.K L (keptS X.N.length (own.map (·.2))) g) (tt := tT X.K L noX t) hc hN hi.run ok (fun s H C cl fp => (hg s H C cl fp).run) (fun s H C cl fp => (ht s H C cl fp).run) (fun s H C cl fp => (he s H C cl fp).run) hs).run pins s σ H Q I (tLc_of (Inv.slots I) hw h)
theorem ss_setLc (p : Bool) (i : Nat) {fx : List Nat} {y : Str} {py spos : Pos} (hc : X.calm = true) (hN : X.N.Nodup) (hi : SI X L W tg iter it) (ok : BlkOk X.N X.env.scope scope own) (hw : TgW (own.map (·.2)) g)
    (hg : ∀ (s : Shared) (H : Hp) (C : Addr) (cl : List (Str × Addr)) (fp : List Addr), SG (X.blk s H scope (compEnvC scope cl C X.env) fp) L (keptS X.N.length (own.map (·.2))) tg g)
    (ht : ∀ (s : Shared) (H : Hp) (C : Addr) (cl : List (Str × Addr)) (fp : List Addr), STs (X.blk s H scope (compEnvC scope cl C X.env) fp) L ifs t)
    (he : ∀ (s : Shared) (H : Hp) (C : Addr) (cl : List (Str × Addr)) (fp : List Addr), SE (X.blk s H scope (compEnvC scope cl C X.env) fp) L noX elt x)
    (hsw : swapsWith (.ListComp elt [⟨tg, iter, ifs, 0⟩] scope pos) (some (.Name y py)) spos.line X.env = pure true) (hy : X.N[i]? = some y := by rfl) (hyl : X.env.scope.names.lookup y = some .local := by rfl) (hfx : i ∉ fx := by decide)
    (hs : ∀ x, foldedSetIterable iter X.env x = pure x := by intro _; rfl) :
    SS X L fx W (.Assign [.Name y py] (.ListComp elt [⟨tg, iter, ifs, 0⟩] scope pos) spos) (sSet i (eLc p (own.map (·.2)) it g t x)) := by
  refine ⟨⟨fun pins s σ H Z I h => ?_⟩⟩
  refine (ps_setLc (te := tE X.K L noX x) (g := tG X.K L (keptS X.N.length (own.map (·.2))) g) (tt := tT X.K L noX t) hc hN hy hyl hsw hi.run ok (fun s H C cl fp => (hg s H C cl fp).run) (fun s H C cl fp => (ht s H C cl fp).run) (fun s H C cl fp => (he s H C cl fp).run) hs).run pins s σ H Z I ?_
  obtain ⟨B, Fr, ρ, ok0, st, h⟩ := h
  have h : PostS X.K L fx W B Fr Z σ (sSet i (eLc p (own.map (·.2)) it g t x) ρ) := h
  exact tLc_of (W := W) (p := p) (it := it) (t := t) (x := x) (Inv.slots I) hw (tE_of ok0 st (x := eLc p (own.map (·.2)) it g t x) (k := fun r => if r.1.stb = true then .ok (.next, r.2.set i r.1) else .stuck) h fun r v H' Fr' sf st' ok' p => set_end hfx sf st' ok' p)
end
end Ev

/-! C14: calls of defs. -/
namespace Ev
open PySem PySem.Spec L2
open PyProof.Rows hiding St

/-- a value made shared -/
def eFr (x : Ex) : Ex := ⟨x.pu, fun ρ => (x.f ρ).bind fun r => if r.1.canFz = true then .ok (r.1.frz, r.2) else .stuck⟩
theorem pure_fr {x : Ex} (h : Pure x) : Pure (eFr x) := fun pu ρ r e => by
  have e : (x.f ρ).bind (fun r => if r.1.canFz = true then .ok (r.1.frz, r.2) else (.stuck : Out (D × List D))) = .ok r := e
  cases e1 : x.f ρ with
  | exc ex r => rw [e1] at e; cases e
  | stuck => rw [e1] at e; cases e
  | ok q =>
    rw [e1, Out.bind_ok] at e
    split at e
    · injection e with e; rw [← e]; exact h pu _ q e1
    · cases e
theorem se_fr {X : Cx} {L : Hp} {W : WX} {e : Expr} {x : Ex} (h : SE X L W e x) : SE X L W e (eFr x) := by
  refine ⟨h.run.imp fun σ H Q ⟨B, Fr, ρ, ok, st, k⟩ => ⟨B, Fr, ρ, ok, st, ?_⟩, pure_fr h.pu⟩
  have k : (match (x.f ρ).bind (fun r => if r.1.canFz = true then .ok (r.1.frz, r.2) else (.stuck : Out (D × List D))) with
    | .ok r => ∀ v H' Fr', Sub Fr Fr' → (x.pu = true → Sub H H') → stbs r.2 = true → Ok X.K L B Fr' H' (some v :: σ) (r.1 :: r.2) → Q v H'
    | .exc e r => Err X.K L W B Fr σ e r
    | .stuck => False) := k
  cases e1 : x.f ρ with
  | exc ex r => rw [e1] at k; exact k
  | stuck => rw [e1] at k; exact k
  | ok r =>
    rw [e1, Out.bind_ok] at k
    intro v H1 Fr1 sf pu st1 ok1
    by_cases c : r.1.canFz = true
    · rw [if_pos c] at k
      obtain ⟨Fr2, sf2, rd, ok2⟩ := ok1.pull c
      exact k v H1 Fr2 (sf.trans sf2) pu st1 (ok2.pushF rd)
    · rw [if_neg c] at k; exact k.elim

/-! ### arguments -/
/-- by value (or a look); an owned list of a name: lent, or given to be changed -/
inductive Arg where
  | ex (x : Ex)
  | sl (i : Nat) (io : Bool)
/-- owned -/
def D.isOwn : D → Bool
  | .seq false .own _ => true
  | .obj .own _ _ _ => true
  | .deep .own ds => canFzs ds
  | _ => false
theorem D.isOwn_can {d : D} (h : d.isOwn = true) : d.canFz = true := by
  cases d with
  | seq t k ds => cases t <;> cases k <;> first | rfl | cases h
  | obj k c ns ds => cases k <;> first | rfl | cases h
  | deep k ds => cases k <;> first | exact h | cases h
  | _ => cases h
theorem D.isOwn_stb {d : D} (h : d.isOwn = true) : d.stb = true := D.canFz_stb (D.isOwn_can h)
def getW (ρ : List D) (i : Nat) : Option D := match ρ[i]? with
  | some d => if d.isOwn = true then some d else none
  | none => none
theorem getW_eq {ρ : List D} {i : Nat} {d : D} (h : getW ρ i = some d) : ρ[i]? = some d ∧ d.isOwn = true := by
  unfold getW at h
  split at h
  · rename_i d' e
    split at h
    · rename_i c
      cases h
      exact ⟨e, c⟩
    · cases h
  · cases h
def pusA : List Arg → Bool
  | [] => true
  | .ex x :: as => x.pu && pusA as
  | .sl _ _ :: _ => false
def evc : List Arg → List D → Out (List D × List D)
  | [], ρ => .ok ([], ρ)
  | .ex x :: as, ρ => (x.f ρ).bind fun r => if (r.1.stb || pusA as) = true then (evc as r.2).bind fun q => .ok (r.1 :: q.1, q.2) else .stuck
  | .sl i _ :: as, ρ => match getW ρ i with
    | some d => (evc as (ρ.set i .unset)).bind fun q => .ok (d :: q.1, q.2)
    | none => .stuck
/-- which values came from names -/
def Slots : List Arg → List V → St → Prop
  | [], [], _ => True
  | .ex _ :: as, _ :: vs, σ => Slots as vs σ
  | .sl i _ :: as, v :: vs, σ => σ[i]? = some (some v) ∧ Slots as vs σ
  | _, _, _ => False
def tAc (K : PySem.W.Frag) (L : Hp) (W : WX) (as : List Arg) : TA := fun σ H Q => ∃ B Fr ρ, Ok K L B Fr H σ ρ ∧ stbs ρ = true ∧ match evc as ρ with
  | .ok r => ∀ vs H' Fr', vs.length = r.1.length → Slots as vs σ → Sub Fr Fr' → (pusA as = true → Sub H H') → stbs r.2 = true → Ok K L B Fr' H' (vs.map some ++ σ) (r.1 ++ r.2) → Q vs H'
  | .exc e r => Err K L W B Fr σ e r
  | .stuck => False
structure SC (X : Cx) (L : Hp) (W : WX) (es : List Expr) (as : List Arg) : Prop where
  run : PA X es (tAc X.K L W as)
  pu : ∀ x, Arg.ex x ∈ as → Pure x
theorem evc_pure : ∀ {as : List Arg}, (∀ x, Arg.ex x ∈ as → Pure x) → pusA as = true → ∀ ρ r, evc as ρ = .ok r → r.2 = ρ
  | [], _, _, ρ, r, e => by
    have e' : (Out.ok (([] : List D), ρ)) = .ok r := e
    injection e' with e'
    rw [← e']
  | .sl _ _ :: _, _, h, _, _, _ => by cases h
  | .ex x :: as, hp, h, ρ, r, e => by
    have h' := Bool.and_eq_true_iff.mp (show (x.pu && pusA as) = true from h)
    unfold evc at e
    cases e1 : x.f ρ with
    | exc ex r => rw [e1] at e; cases e
    | stuck => rw [e1] at e; cases e
    | ok q =>
      rw [e1, Out.bind_ok] at e
      have q2 := hp x List.mem_cons_self h'.1 ρ q e1
      split at e
      · cases e2 : evc as q.2 with
        | exc ex r => rw [e2] at e; cases e
        | stuck => rw [e2] at e; cases e
        | ok z =>
          rw [e2, Out.bind_ok] at e
          injection e with e
          rw [← e]
          show z.2 = ρ
          rw [evc_pure (fun y hy => hp y (List.mem_cons_of_mem _ hy)) h'.2 _ _ e2, q2]
      · cases e
section
variable {X : Cx} {L : Hp} {W : WX} {e : Expr} {es : List Expr} {x : Ex} {as : List Arg} {n : Str} {pos : Pos}
theorem sc_nil : SC X L W [] [] := ⟨pa_nil.imp fun σ H Q ⟨B, Fr, ρ, ok, st, h⟩ => h [] H Fr rfl trivial (Sub.refl _) (fun _ => Sub.refl _) st ok, fun _ h => by cases h⟩
theorem tAc_ex {K : PySem.W.Frag} {σ : St} {H : Hp} {Q : List V → Hp → Prop} (h : tAc K L W (.ex x :: as) σ H Q) : tE K L W x σ H fun v H1 => tAc K L W as σ H1 fun vs H2 => Q (v :: vs) H2 := by
  obtain ⟨B, Fr, ρ, ok, st, h⟩ := h
  refine ⟨B, Fr, ρ, ok, st, ?_⟩
  unfold evc at h
  cases e : x.f ρ with
  | exc ex r => rw [e] at h; exact h
  | stuck => rw [e] at h; exact h
  | ok r =>
    rw [e, Out.bind_ok] at h
    by_cases c : (r.1.stb || pusA as) = true
    · rw [if_pos c] at h
      intro v H1 Fr1 sf pu st1 ok1
      obtain ⟨B', sB, ok2, back⟩ := ok1.hide
      refine ⟨B', Fr1, r.2, ok2, st1, ?_⟩
      cases e2 : evc as r.2 with
      | exc ex r' => rw [e2] at h; exact Err.more h sB ok.lb sf
      | stuck => rw [e2] at h; exact h
      | ok q =>
        rw [e2, Out.bind_ok] at h
        intro vs H2 Fr2 hl hs sf2 pu2 st2 ok3
        refine h (v :: vs) H2 Fr2 (by simp [hl]) hs (sf.trans sf2) (fun z => ?_) st2 ?_
        · have z' := Bool.and_eq_true_iff.mp (show (x.pu && pusA as) = true from z)
          exact (pu z'.1).trans (pu2 z'.2)
        · refine back sf2 ?_ ok3
          rcases Bool.or_eq_true_iff.mp c with z | z
          · exact .inl z
          · exact .inr (pu2 z)
    · rw [if_neg c] at h
      exact h.elim
theorem sc_ex (h : SE X L W e x) (t : SC X L W es as) (hs : starEach (e :: es) X.env = (false, eval e X.env) :: starEach es X.env := by rfl) : SC X L W (e :: es) (.ex x :: as) :=
  ⟨(pa_cons h.run t.run hs).imp fun _ _ _ q => tAc_ex q, fun y hy => by
    rcases List.mem_cons.mp hy with z | z
    · cases z; exact h.pu
    · exact t.pu y z⟩
theorem sc_sl (i : Nat) (io : Bool) (t : SC X L W es as) (hN : X.N[i]? = some n := by rfl) (hv : Vis X.env.scope n := by first | exact Or.inl rfl | exact Or.inr (Or.inl rfl) | exact Or.inr (Or.inr rfl)) (hd : (n == ("__debug__" : Str)) = false := by decide)
    (hcd : (n == ("__classdict__" : Str)) = false := by decide) (hs : starEach (.Name n pos :: es) X.env = (false, eval (.Name n pos) X.env) :: starEach es X.env := by rfl) : SC X L W (.Name n pos :: es) (.sl i io :: as) := by
  refine ⟨(pa_cons (pe_var hN hv hd hcd) t.run hs).imp fun σ H Q ⟨B, Fr, ρ, ok, st, h⟩ => ?_, fun y hy => by
    rcases List.mem_cons.mp hy with z | z
    · cases z
    · exact t.pu y z⟩
  unfold evc at h
  cases g : getW ρ i with
  | none => rw [g] at h; exact h.elim
  | some d =>
    rw [g] at h
    dsimp only at h
    obtain ⟨g1, g2⟩ := getW_eq g
    obtain ⟨v, ev, ok1⟩ := ok.out g1 (by intro z; rw [z] at g2; cases g2)
    obtain ⟨B', sB, ok2, back⟩ := ok1.hide
    refine ⟨v, ev, B', Fr, ρ.set i .unset, ok2, stbs_set rfl i st, ?_⟩
    cases e2 : evc as (ρ.set i .unset) with
    | exc ex r' => rw [e2] at h; exact Err.more h sB ok.lb (Sub.refl _)
    | stuck => rw [e2] at h; exact h
    | ok q =>
      rw [e2, Out.bind_ok] at h
      intro vs H2 Fr2 hl hs sf2 pu2 st2 ok3
      exact h (v :: vs) H2 Fr2 (by simp [hl]) ⟨ev, hs⟩ sf2 (fun z => nomatch z) st2 (back sf2 (.inl (D.isOwn_stb g2)) ok3)
end

/-! ### what the callee gets, what comes back -/
abbrev Fn := List D → Out (D × List D)
def pick {α : Type} : List Bool → List α → List α
  | true :: bs, x :: xs => x :: pick bs xs
  | false :: bs, _ :: xs => pick bs xs
  | _, _ => []
def hasIo : List Arg → Bool
  | [] => false
  | .sl _ true :: _ => true
  | _ :: as => hasIo as
def iops : List Arg → List Bool
  | [] => []
  | .ex _ :: as => false :: iops as
  | .sl _ b :: as => b :: iops as
/-- io: some argument of the call is to be changed -/
def passX (io : Bool) (d : D) : Option D := match d with
  | .seq t .bor ds => some (.seq t .bor ds)
  | .seq t .fz ds => some (.seq t .fz ds)
  | .seq false .scr ds => some (.seq false .scr ds)
  | .seq false .tmp ds => if io = true then none else some (.seq false .bor ds)
  | .seq _ _ _ => none
  | d => if d.isFz = true then some d else none
def passS : Bool → D → Option D
  | true, d => if d.isOwn = true then some d else none
  | false, .seq false .own ds => some (.seq false .bor ds)
  | false, _ => none
def passD (io : Bool) : Arg → D → Option D
  | .ex _, d => passX io d
  | .sl _ b, d => passS b d
def passA (io : Bool) : List Arg → List D → Option (List D)
  | [], [] => some []
  | a :: as, d :: ds => (passD io a d).bind fun d' => (passA io as ds).map (d' :: ·)
  | _, _ => none
/-- the lent lists go back as they were, the changed ones as the callee left them -/
def backA : List Arg → List D → List D → List D → Option (List D)
  | [], [], [], ρ => some ρ
  | .ex _ :: as, _ :: ds, os, ρ => backA as ds os ρ
  | .sl i false :: as, d :: ds, os, ρ => backA as ds os (ρ.set i d)
  | .sl i true :: as, _ :: ds, o :: os, ρ => if o.isOwn = true then backA as ds os (ρ.set i o) else none
  | _, _, _, _ => none
section
variable {K : PySem.W.Frag} {L B Fr H : Hp}
/-- the callee's ground: all but what is shared and what it may change -/
noncomputable def ground (H Fr : Hp) (F : List Addr) : Hp := fun a => if Fr a = none ∧ a ∉ F then H a else none
theorem ground_sub {F : List Addr} : Sub (ground H Fr F) H := fun a o e => by
  unfold ground at e
  split at e
  · exact e
  · cases e
theorem ground_in {F : List Addr} {a : Addr} {o : HO} (h : H a = some o) (h1 : Fr a = none) (h2 : a ∉ F) : ground H Fr F a = some o := by
  unfold ground
  rw [if_pos ⟨h1, h2⟩]
  exact h
theorem ground_fr {F : List Addr} (a : Addr) : Fr a = none ∨ ground H Fr F a = none := by
  by_cases c : Fr a = none
  · exact .inl c
  · right
    unfold ground
    rw [if_neg fun z => c z.1]
theorem ground_F {F : List Addr} {a : Addr} (h : a ∈ F) : ground H Fr F a = none := by
  unfold ground
  rw [if_neg fun z => z.2 h]

/-- the arguments' data behind the call -/
def mid : List Arg → List D → List D → Option (List D)
  | [], [], [] => some []
  | .ex _ :: as, _ :: ds, os => (mid as ds os).map (.unset :: ·)
  | .sl _ false :: as, d :: ds, os => (mid as ds os).map (d :: ·)
  | .sl _ true :: as, _ :: ds, o :: os => if o.isOwn = true then (mid as ds os).map (o :: ·) else none
  | _, _, _ => none
mutual
theorem Rep.reB {B2 : Hp} : ∀ {d : D} {v : V} {F : List Addr}, Rep K B Fr H d v F → d.canFz = true → Rep K B2 Fr H d v F
  | .seq t k ds, v, F, h, c => by cases k <;> first | exact h | cases c
  | .obj k c' ns ds, v, F, h, c => by cases k <;> first | exact h | cases c
  | .deep k ds, v, F, h, c => by
    cases k with
    | own =>
      obtain ⟨a, vs, G, e, eF, q, r⟩ := h
      exact ⟨a, vs, G, e, eF, q, Reps.reB r c⟩
    | _ => cases c
  | .unset, _, _, h, _ => False.elim h
  | .non, _, _, h, _ => h
  | .bl _, _, _, h, _ => h
  | .int _, _, _, h, _ => h
  | .str _, _, _, h, _ => h
  | .fn _, _, _, h, _ => h
  | .ty _, _, _, h, _ => h
theorem Reps.reB {B2 : Hp} : ∀ {ds : List D} {vs : List V} {F : List Addr}, Reps K B Fr H ds vs F → canFzs ds = true → Reps K B2 Fr H ds vs F
  | [], [], _, h, _ => h
  | [], _ :: _, _, h, _ => False.elim h
  | _ :: _, [], _, h, _ => False.elim h
  | d :: ds, v :: vs, F, h, c => by
    obtain ⟨F1, F2, e, r1, r2⟩ := h
    have c := Bool.and_eq_true_iff.mp (show (d.canFz && canFzs ds) = true from c)
    exact ⟨F1, F2, e, r1.reB c.1, r2.reB c.2⟩
end
/-- what an argument is to the callee: nothing, or a list to be changed -/
def Arg.isIo : Arg → Bool
  | .sl _ true => true
  | _ => false
/-- one argument -/
theorem passD_ok {io : Bool} {a : Arg} {d d' : D} {v : V} {F : List Addr} (fr : Sub Fr H) (r : RepS K L Fr H d (some v) F) (e : passD io a d = some d') (nf : ∀ a ∈ F, Fr a = none) {B' : Hp} (sL : Sub L B') 
    (hB : a.isIo = false → ∀ a ∈ F, ∀ o, H a = some o → B' a = some o) (hn : io = false → ∀ a ws, H a = some (.lst ws) → Fr a = none → B' a = some (.lst ws)) : RepS K B' Fr H d' (some v) (if a.isIo = true then F else []) := by
  have fz : d.isFz = true → RepS K B' Fr H d (some v) [] := fun z => by
    rcases r with ⟨u, _⟩ | ⟨w, ew, r⟩
    · subst u; cases z
    · cases ew
      exact .inr ⟨v, rfl, (r.fz z).2.rep⟩
  have own : ∀ {es : List D}, d = D.own es → ∃ a vs, v = .ref a ∧ F = [a] ∧ H a = some (.lst vs) ∧ RepFs K Fr es vs := fun {es} z => by
    subst z
    rcases r with ⟨u, _⟩ | ⟨w, ew, r⟩
    · cases u
    · cases ew
      obtain ⟨a, vs, e1, e2, q, r⟩ := r
      exact ⟨a, vs, e1, e2, q.1, r⟩
  have bor : ∀ {t : Bool} {es : List D}, d = .seq t .bor es → RepS K B' Fr H d (some v) [] := fun {t es} z => by
    subst z
    rcases r with ⟨u, _⟩ | ⟨w, ew, r⟩
    · cases u
    · cases ew
      obtain ⟨_, a, vs, e1, q, r⟩ := r
      exact .inr ⟨_, rfl, rfl, a, vs, e1, q.imp (fun z => z.sub sL) id, r⟩
  cases a with
  | sl i b =>
    cases b with
    | true =>
      obtain ⟨c, e⟩ := if_some' (show (if d.isOwn = true then some d else none) = some d' from e)
      subst e
      have c := D.isOwn_can c
      show RepS K B' Fr H d (some v) F
      rcases r with u | ⟨w, ew, r⟩
      · exact .inl u
      · exact .inr ⟨w, ew, r.reB c⟩
    | false =>
      cases d with
      | seq t k es =>
        cases t with
        | true => cases e
        | false =>
          cases k with
          | own =>
            cases e
            obtain ⟨a, vs, rfl, rfl, hv, rs⟩ := own rfl
            exact .inr ⟨_, rfl, rfl, a, vs, rfl, .inl (hB rfl a List.mem_cons_self _ hv), rs⟩
          | _ => cases e
      | _ => cases e
  | ex x =>
    show RepS K B' Fr H d' (some v) []
    cases d with
    | seq t k es =>
      cases k with
      | fz => cases e; exact fz rfl
      | own => cases t <;> cases e
      | bor => cases e; exact bor rfl
      | scr =>
        cases t with
        | true => cases e
        | false =>
          cases e
          rcases r with ⟨u, _⟩ | ⟨w, ew, r⟩
          · cases u
          · cases ew
            obtain ⟨_, et, a, vs, e1, q, r⟩ := r
            exact .inr ⟨_, rfl, rfl, et, a, vs, e1, q.imp (fun z => sqL_sub sL z) id, r⟩
      | tmp =>
        cases t with
        | true => cases e
        | false =>
          have e : (if io = true then none else some (.seq false .bor es)) = some d' := e
          cases io with
          | true => cases e
          | false =>
            cases e
            rcases r with ⟨u, _⟩ | ⟨w, ew, r⟩
            · cases u
            · cases ew
              obtain ⟨_, a, vs, e1, q, r⟩ := r
              refine .inr ⟨_, rfl, rfl, a, vs, e1, ?_, r⟩
              cases c : Fr a with
              | none => exact .inl (hn rfl a _ q c)
              | some o =>
                have := fr a o c
                rw [show H a = some (.lst vs) from q] at this
                cases this
                exact .inr c
    | obj k c ns es => cases k <;> first | (cases e; exact fz rfl) | cases e
    | deep k es => cases e
    | unset => cases e
    | non => cases e; exact fz rfl
    | bl _ => cases e; exact fz rfl
    | int _ => cases e; exact fz rfl
    | str _ => cases e; exact fz rfl
    | fn _ => cases e; exact fz rfl
    | ty _ => cases e; exact fz rfl
/-- the footprint that the callee may change -/
def ioF : List Arg → List (List Addr) → List Addr
  | a :: as, F :: Fs => (if a.isIo = true then F else []) ++ ioF as Fs
  | _, _ => []
/-- the footprints of the arguments, apart -/
def RepA (K : PySem.W.Frag) (L Fr H : Hp) : List D → List V → List (List Addr) → Prop
  | [], [], [] => True
  | d :: ds, v :: vs, F :: Fs => RepS K L Fr H d (some v) F ∧ RepA K L Fr H ds vs Fs
  | _, _, _ => False
theorem RepA.of {σ : St} {ρ : List D} : ∀ {ds : List D} {vs : List V} {F : List Addr}, RepO K L Fr H (ds ++ ρ) (vs.map some ++ σ) F → vs.length = ds.length → ∃ Fs F2, F = Fs.flatten ++ F2 ∧ RepA K L Fr H ds vs Fs ∧ RepO K L Fr H ρ σ F2
  | [], [], F, h, _ => ⟨[], F, rfl, trivial, h⟩
  | [], _ :: _, _, _, l => by cases l
  | _ :: _, [], _, _, l => by cases l
  | d :: ds, v :: vs, F, h, l => by
    obtain ⟨F1, F2, e, r1, r2⟩ := h
    obtain ⟨Fs, F3, e2, r3, r4⟩ := RepA.of r2 (Nat.succ.inj l)
    exact ⟨F1 :: Fs, F3, by rw [e, e2, List.flatten_cons, List.append_assoc], ⟨r1, r3⟩, r4⟩
theorem RepA.to {σ : St} {ρ : List D} : ∀ {ds : List D} {vs : List V} {Fs : List (List Addr)} {F2 : List Addr}, RepA K L Fr H ds vs Fs → RepO K L Fr H ρ σ F2 → RepO K L Fr H (ds ++ ρ) (vs.map some ++ σ) (Fs.flatten ++ F2)
  | [], [], [], _, _, h => h
  | d :: ds, v :: vs, F :: Fs, F2, h, t => ⟨F, Fs.flatten ++ F2, by rw [List.flatten_cons, List.append_assoc], h.1, RepA.to h.2 t⟩
  | [], _ :: _, _, _, h, _ => False.elim h
  | _ :: _, [], _, _, h, _ => False.elim h
  | [], [], _ :: _, _, h, _ => False.elim h
  | _ :: _, _ :: _, [], _, h, _ => False.elim h
theorem ioF_sub : ∀ {as : List Arg} {Fs : List (List Addr)}, ∀ a ∈ ioF as Fs, a ∈ Fs.flatten
  | [], _, a, h => by cases h
  | _ :: _, [], a, h => by cases h
  | x :: as, F :: Fs, a, h => by
    rw [List.flatten_cons]
    have h : a ∈ (if x.isIo = true then F else []) ++ ioF as Fs := h
    rcases List.mem_append.mp h with z | z
    · split at z
      · exact List.mem_append_left _ z
      · cases z
    · exact List.mem_append_right _ (ioF_sub a z)
theorem ioF_nd : ∀ {as : List Arg} {Fs : List (List Addr)}, Fs.flatten.Nodup → (ioF as Fs).Nodup
  | [], _, _ => List.nodup_nil
  | _ :: _, [], _ => List.nodup_nil
  | x :: as, F :: Fs, h => by
    rw [List.flatten_cons] at h
    have h' := List.nodup_append.mp h
    show ((if x.isIo = true then F else []) ++ ioF as Fs).Nodup
    refine List.nodup_append.mpr ⟨?_, ioF_nd h'.2.1, fun a ha b hb => ?_⟩
    · split
      · exact h'.1
      · exact List.nodup_nil
    · split at ha
      · exact h'.2.2 a ha b (ioF_sub b hb)
      · cases ha
/-- the callee's arguments -/
theorem passA_ok {io : Bool} (fr : Sub Fr H) {B' : Hp} (sL : Sub L B') (hn : io = false → ∀ a ws, H a = some (.lst ws) → Fr a = none → B' a = some (.lst ws)) : ∀ {as : List Arg} {ds ds' : List D} {vs : List V} {Fs : List (List Addr)}, RepA K L Fr H ds vs Fs → passA io as ds = some ds' →
    Fs.flatten.Nodup → (∀ a ∈ Fs.flatten, Fr a = none) → (∀ a ∈ Fs.flatten, a ∉ ioF as Fs → ∀ o, H a = some o → B' a = some o) → RepO K B' Fr H ds' (vs.map some) (ioF as Fs)
  | [], [], _, [], [], _, e, _, _, _ => by cases e; exact rfl
  | [], _ :: _, _, _, _, _, e, _, _, _ => by cases e
  | _ :: _, [], _, _, _, _, e, _, _, _ => by cases e
  | [], [], _, _ :: _, _, h, _, _, _, _ => False.elim h
  | [], [], _, [], _ :: _, h, _, _, _, _ => False.elim h
  | _ :: _, _ :: _, _, [], _, h, _, _, _, _ => False.elim h
  | _ :: _, _ :: _, _, _ :: _, [], h, _, _, _, _ => False.elim h
  | a :: as, d :: ds, ds', v :: vs, F :: Fs, h, e, nd, nf, hb => by
    have e : (passD io a d).bind (fun d' => (passA io as ds).map (d' :: ·)) = some ds' := e
    obtain ⟨d1, e1, e⟩ := Option.bind_eq_some_iff.mp e
    obtain ⟨ds1, e2, e⟩ := Option.map_eq_some_iff.mp e
    subst e
    rw [List.flatten_cons] at nd nf hb
    have nd' := List.nodup_append.mp nd
    refine ⟨_, _, rfl, passD_ok fr h.1 e1 (fun b hb' => nf b (List.mem_append_left _ hb')) sL (fun ha b hb' o q => hb b (List.mem_append_left _ hb') (fun m => ?_) o q) hn, passA_ok fr sL hn h.2 e2 nd'.2.1 (fun b hb' => nf b (List.mem_append_right _ hb')) fun b hb' m o q => hb b (List.mem_append_right _ hb') (fun m2 => ?_) o q⟩
    · have m : b ∈ (if a.isIo = true then F else []) ++ ioF as Fs := m
      rw [ha, if_neg Bool.false_ne_true, List.nil_append] at m
      exact nd'.2.2 b hb' b (ioF_sub b m) rfl
    · have m2 : b ∈ (if a.isIo = true then F else []) ++ ioF as Fs := m2
      rcases List.mem_append.mp m2 with z | z
      · split at z
        · exact nd'.2.2 b z b hb' rfl
        · cases z
      · exact m z
theorem io_none : ∀ {as : List Arg} {Fs : List (List Addr)}, hasIo as = false → ioF as Fs = []
  | [], _, _ => rfl
  | _ :: _, [], _ => rfl
  | .ex _ :: as, F :: Fs, e => io_none (as := as) (Fs := Fs) e
  | .sl _ false :: as, F :: Fs, e => io_none (as := as) (Fs := Fs) e
  | .sl _ true :: _, _ :: _, e => by cases e
theorem own_of {d : D} {v : V} {F : List Addr} (h : RepS K L Fr H d (some v) F) {es : List D} (e : d = D.own es) : ∃ a vs, v = .ref a ∧ F = [a] ∧ H a = some (.lst vs) ∧ RepFs K Fr es vs := by
  subst e
  rcases h with ⟨u, _⟩ | ⟨w, ew, r⟩
  · cases u
  · cases ew
    obtain ⟨a, vs, e1, e2, q, r⟩ := r
    exact ⟨a, vs, e1, e2, q.1, r⟩
/-- behind the call -/
theorem mid_ok {io : Bool} {Fr' H' B' : Hp} (sF : Sub Fr Fr') (sH : Sub B' H') : ∀ {as : List Arg} {ds ds' os m : List D} {vs : List V} {Fs : List (List Addr)} {G : List Addr}, RepA K L Fr H ds vs Fs → passA io as ds = some ds' → mid as ds os = some m →
    RepO K B' Fr' H' os ((pick (iops as) vs).map some) G → Fs.flatten.Nodup → G.Nodup → (∀ a ∈ G, B' a = none) → (∀ a ∈ Fs.flatten, a ∉ ioF as Fs → ∀ o, H a = some o → B' a = some o) →
    ∃ Fs', RepA K L Fr' H' m vs Fs' ∧ Fs'.flatten.Nodup ∧ ∀ a ∈ Fs'.flatten, (a ∈ Fs.flatten ∧ ∃ o, B' a = some o) ∨ a ∈ G
  | [], [], _, [], _, [], [], G, _, _, em, _, _, _, _, _ => by cases em; exact ⟨[], trivial, List.nodup_nil, fun a h => by cases h⟩
  | [], [], _, _ :: _, _, _, _, _, _, _, em, _, _, _, _, _ => by cases em
  | [], _ :: _, _, _, _, _, _, _, _, e, _, _, _, _, _, _ => by cases e
  | _ :: _, [], _, _, _, _, _, _, _, e, _, _, _, _, _, _ => by cases e
  | [], [], _, [], _, _ :: _, _, _, h, _, _, _, _, _, _, _ => False.elim h
  | [], [], _, [], _, [], _ :: _, _, h, _, _, _, _, _, _, _ => False.elim h
  | _ :: _, _ :: _, _, _, _, [], _, _, h, _, _, _, _, _, _, _ => False.elim h
  | _ :: _, _ :: _, _, _, _, _ :: _, [], _, h, _, _, _, _, _, _, _ => False.elim h
  | a :: as, d :: ds, ds', os, m, v :: vs, F :: Fs, G, h, e, em, ro, nd, ndG, nb, hb => by
    have e : (passD io a d).bind (fun d' => (passA io as ds).map (d' :: ·)) = some ds' := e
    obtain ⟨d1, e1, e⟩ := Option.bind_eq_some_iff.mp e
    obtain ⟨ds1, e2, e⟩ := Option.map_eq_some_iff.mp e
    subst e
    rw [List.flatten_cons] at nd hb
    have nd' := List.nodup_append.mp nd
    have hb2 : ∀ b ∈ Fs.flatten, b ∉ ioF as Fs → ∀ o, H b = some o → B' b = some o := fun b hb' m o q => hb b (List.mem_append_right _ hb') (fun m2 => by
      have m2 : b ∈ (if a.isIo = true then F else []) ++ ioF as Fs := m2
      rcases List.mem_append.mp m2 with z | z
      · split at z
        · exact nd'.2.2 b z b hb' rfl
        · cases z
      · exact m z) o q
    have keepF : a.isIo = false → ∀ b ∈ F, ∀ o, H b = some o → B' b = some o := fun ha b hb' o q => hb b (List.mem_append_left _ hb') (fun m => by
      have m : b ∈ (if a.isIo = true then F else []) ++ ioF as Fs := m
      rw [ha, if_neg Bool.false_ne_true, List.nil_append] at m
      exact nd'.2.2 b hb' b (ioF_sub b m) rfl) o q
    cases a with
    | ex x =>
      have em : (mid as ds os).map (.unset :: ·) = some m := em
      obtain ⟨m1, em2, e3⟩ := Option.map_eq_some_iff.mp em
      subst e3
      obtain ⟨Fs', h1, h2, h3⟩ := mid_ok sF sH h.2 e2 em2 ro nd'.2.1 ndG nb hb2
      exact ⟨[] :: Fs', ⟨.inl ⟨rfl, rfl⟩, h1⟩, h2, fun b hb' => (h3 b hb').imp (fun z => ⟨List.mem_append_right _ z.1, z.2⟩) id⟩
    | sl i b =>
      cases b with
      | false =>
        have em : (mid as ds os).map (d :: ·) = some m := em
        obtain ⟨m1, em2, e3⟩ := Option.map_eq_some_iff.mp em
        subst e3
        obtain ⟨Fs', h1, h2, h3⟩ := mid_ok sF sH h.2 e2 em2 ro nd'.2.1 ndG nb hb2
        have live : ∀ b ∈ F, ∃ o, B' b = some o := fun b hb' => by
          obtain ⟨o, ho⟩ := h.1.live b hb'
          exact ⟨o, keepF rfl b hb' o ho⟩
        obtain ⟨es, ed⟩ : ∃ es, d = D.own es := by
          cases d with
          | seq t k es =>
            cases t with
            | true => cases e1
            | false => cases k <;> first | exact ⟨es, rfl⟩ | cases e1
          | _ => cases e1
        have st : d.stb = true := by rw [ed]; rfl
        have r' : RepS K L Fr' H' d (some v) F := h.1.keep (Sub.refl _) sF (fun b hb' o q => sH _ _ (keepF rfl b hb' o q)) (.inl st)
        refine ⟨F :: Fs', ⟨r', h1⟩, ?_, fun b hb' => ?_⟩
        · rw [List.flatten_cons]
          refine List.nodup_append.mpr ⟨nd'.1, h2, fun x hx y hy exy => ?_⟩
          subst exy
          rcases h3 x hy with ⟨z, _⟩ | z
          · exact nd'.2.2 x hx x z rfl
          · obtain ⟨o, ho⟩ := live x hx
            rw [nb x z] at ho
            cases ho
        · rw [List.flatten_cons] at hb'
          rcases List.mem_append.mp hb' with z | z
          · exact .inl ⟨List.mem_append_left _ z, live b z⟩
          · exact (h3 b z).imp (fun z => ⟨List.mem_append_right _ z.1, z.2⟩) id
      | true =>
        have ro : RepO K B' Fr' H' os (some v :: (pick (iops as) vs).map some) G := ro
        cases os with
        | nil => exact False.elim ro
        | cons o1 os =>
          obtain ⟨G1, G2, eG, r1, r2⟩ := ro
          subst eG
          have ndG' := List.nodup_append.mp ndG
          obtain ⟨co, em⟩ : o1.isOwn = true ∧ (mid as ds os).map (o1 :: ·) = some m := by
            have em : (if o1.isOwn = true then (mid as ds os).map (o1 :: ·) else none) = some m := em
            split at em
            · rename_i c; exact ⟨c, em⟩
            · cases em
          obtain ⟨m1, em2, e3⟩ := Option.map_eq_some_iff.mp em
          subst e3
          obtain ⟨Fs', h1, h2, h3⟩ := mid_ok sF sH h.2 e2 em2 r2 nd'.2.1 ndG'.2.1 (fun b hb' => nb b (List.mem_append_right _ hb')) hb2
          have r1' : RepS K L Fr' H' o1 (some v) G1 := by
            rcases r1 with u | ⟨w, ew, r⟩
            · exact .inl u
            · exact .inr ⟨w, ew, r.reB (D.isOwn_can co)⟩
          refine ⟨G1 :: Fs', ⟨r1', h1⟩, ?_, fun b hb' => ?_⟩
          · rw [List.flatten_cons]
            refine List.nodup_append.mpr ⟨ndG'.1, h2, fun x hx y hy exy => ?_⟩
            subst exy
            rcases h3 x hy with ⟨_, o, ho⟩ | z
            · rw [nb x (List.mem_append_left _ hx)] at ho
              cases ho
            · exact ndG'.2.2 x hx x z rfl
          · rw [List.flatten_cons] at hb'
            rcases List.mem_append.mp hb' with z | z
            · exact .inr (List.mem_append_left _ z)
            · exact (h3 b z).imp (fun z => ⟨List.mem_append_right _ z.1, z.2⟩) (List.mem_append_right _)
theorem Slots.len : ∀ {as : List Arg} {vs : List V} {σ : St}, Slots as vs σ → vs.length = as.length
  | [], [], _, _ => rfl
  | [], _ :: _, _, h => False.elim h
  | .ex _ :: _, [], _, h => False.elim h
  | .sl _ _ :: _, [], _, h => False.elim h
  | .ex _ :: as, _ :: vs, _, h => congrArg Nat.succ (Slots.len (as := as) h)
  | .sl _ _ :: as, _ :: vs, _, h => congrArg Nat.succ (Slots.len (as := as) h.2)
theorem mid_len : ∀ {as : List Arg} {ds os m : List D}, mid as ds os = some m → m.length = as.length
  | [], [], [], _, e => by cases e; rfl
  | [], [], _ :: _, _, e => by cases e
  | [], _ :: _, _, _, e => by cases e
  | .ex _ :: _, [], _, _, e => by cases e
  | .sl _ false :: _, [], _, _, e => by cases e
  | .sl _ true :: _, [], _, _, e => by cases e
  | .ex x :: as, d :: ds, os, m, e => by
    have e : (mid as ds os).map (.unset :: ·) = some m := e
    obtain ⟨m1, e2, e3⟩ := Option.map_eq_some_iff.mp e
    subst e3
    exact congrArg Nat.succ (mid_len e2)
  | .sl i false :: as, d :: ds, os, m, e => by
    have e : (mid as ds os).map (d :: ·) = some m := e
    obtain ⟨m1, e2, e3⟩ := Option.map_eq_some_iff.mp e
    subst e3
    exact congrArg Nat.succ (mid_len e2)
  | .sl i true :: as, d :: ds, [], m, e => by cases e
  | .sl i true :: as, d :: ds, o :: os, m, e => by
    have e : (if o.isOwn = true then (mid as ds os).map (o :: ·) else none) = some m := e
    split at e
    · obtain ⟨m1, e2, e3⟩ := Option.map_eq_some_iff.mp e
      subst e3
      exact congrArg Nat.succ (mid_len e2)
    · cases e
theorem Ok.backAt {vs : List V} {m : List D} {σ : St} {ρ : List D} {i : Nat} {d : D} {v : V} (ok : Ok K L B Fr H (some v :: (vs.map some ++ σ)) (d :: (m ++ ρ))) (hl : m.length = vs.length) (hs : σ[i]? = some (some v)) : Ok K L B Fr H (vs.map some ++ σ) (m ++ ρ.set i d) := by
  have h := ok.back (i := vs.length + i) (by
    rw [List.getElem?_append_right (by rw [List.length_map]; exact Nat.le_add_right _ _), List.length_map, Nat.add_sub_cancel_left]
    exact hs)
  rw [← hl, List.set_append_right _ _ (Nat.le_add_right _ _), Nat.add_sub_cancel_left] at h
  exact h
/-- the lists go back to their names -/
theorem back_ok : ∀ {as : List Arg} {ds os m : List D} {vs : List V} {σ : St} {ρ ρ' : List D}, Ok K L B Fr H (vs.map some ++ σ) (m ++ ρ) → mid as ds os = some m → Slots as vs σ → backA as ds os ρ = some ρ' → Ok K L B Fr H σ ρ'
  | [], [], [], m, [], σ, ρ, ρ', ok, em, _, eb => by cases em; cases eb; exact ok
  | [], [], [], _, _ :: _, _, _, _, _, _, s, _ => False.elim s
  | [], [], _ :: _, _, _, _, _, _, _, em, _, _ => by cases em
  | [], _ :: _, _, _, _, _, _, _, _, em, _, _ => by cases em
  | .ex _ :: _, [], _, _, _, _, _, _, _, em, _, _ => by cases em
  | .sl _ false :: _, [], _, _, _, _, _, _, _, em, _, _ => by cases em
  | .sl _ true :: _, [], _, _, _, _, _, _, _, em, _, _ => by cases em
  | .ex _ :: _, _ :: _, _, _, [], _, _, _, _, _, s, _ => False.elim s
  | .sl _ _ :: _, _ :: _, _, _, [], _, _, _, _, _, s, _ => False.elim s
  | .ex x :: as, d :: ds, os, m, v :: vs, σ, ρ, ρ', ok, em, s, eb => by
    have em : (mid as ds os).map (.unset :: ·) = some m := em
    obtain ⟨m1, em2, e3⟩ := Option.map_eq_some_iff.mp em
    subst e3
    exact back_ok (Ok.pop ok) em2 s eb
  | .sl i false :: as, d :: ds, os, m, v :: vs, σ, ρ, ρ', ok, em, s, eb => by
    have em : (mid as ds os).map (d :: ·) = some m := em
    obtain ⟨m1, em2, e3⟩ := Option.map_eq_some_iff.mp em
    subst e3
    have eb : backA as ds os (ρ.set i d) = some ρ' := eb
    exact back_ok (Ok.backAt ok (by rw [mid_len em2, s.2.len]) s.1) em2 s.2 eb
  | .sl i true :: as, d :: ds, [], m, v :: vs, σ, ρ, ρ', ok, em, s, eb => by cases em
  | .sl i true :: as, d :: ds, o :: os, m, v :: vs, σ, ρ, ρ', ok, em, s, eb => by
    have em : (if o.isOwn = true then (mid as ds os).map (o :: ·) else none) = some m := em
    have eb : (if o.isOwn = true then backA as ds os (ρ.set i o) else none) = some ρ' := eb
    by_cases c : o.isOwn = true
    · rw [if_pos c] at em eb
      obtain ⟨m1, em2, e3⟩ := Option.map_eq_some_iff.mp em
      subst e3
      exact back_ok (Ok.backAt ok (by rw [mid_len em2, s.2.len]) s.1) em2 s.2 eb
    · rw [if_neg c] at em; cases em
theorem back_mid : ∀ {as : List Arg} {ds os ρ ρ' : List D}, backA as ds os ρ = some ρ' → ∃ m, mid as ds os = some m
  | [], [], [], _, _, _ => ⟨_, rfl⟩
  | [], [], _ :: _, _, _, e => by cases e
  | [], _ :: _, _, _, _, e => by cases e
  | .ex _ :: _, [], _, _, _, e => by cases e
  | .sl _ false :: _, [], _, _, _, e => by cases e
  | .sl _ true :: _, [], _, _, _, e => by cases e
  | .ex x :: as, d :: ds, os, ρ, ρ', e => by
    obtain ⟨m, hm⟩ := back_mid (as := as) (ds := ds) (os := os) e
    exact ⟨_, by show (mid as ds os).map (.unset :: ·) = _; rw [hm]; rfl⟩
  | .sl i false :: as, d :: ds, os, ρ, ρ', e => by
    obtain ⟨m, hm⟩ := back_mid (as := as) (ds := ds) (os := os) e
    exact ⟨_, by show (mid as ds os).map (d :: ·) = _; rw [hm]; rfl⟩
  | .sl i true :: as, d :: ds, [], ρ, ρ', e => by cases e
  | .sl i true :: as, d :: ds, o :: os, ρ, ρ', e => by
    have e : (if o.isOwn = true then backA as ds os (ρ.set i o) else none) = some ρ' := e
    by_cases c : o.isOwn = true
    · rw [if_pos c] at e
      obtain ⟨m, hm⟩ := back_mid (as := as) (ds := ds) (os := os) e
      exact ⟨_, by show (if o.isOwn = true then (mid as ds os).map (o :: ·) else none) = _; rw [if_pos c, hm]; rfl⟩
    · rw [if_neg c] at e; cases e
end
/-- a def's promise -/
def spF (K : PySem.W.Frag) (iop : List Bool) (F : Fn) : Sp := fun vs H Q E => vs.length = iop.length ∧ ∃ B Fr ds, Ok K B B Fr H (vs.map some) ds ∧ stbs ds = true ∧ match F ds with
  | .ok (d, os) => d.canFz = true ∧ ∀ v H' Fr', Sub Fr Fr' → Ok K B B Fr' H' (some v :: (pick iop vs).map some) (d :: os) → Q v H'
  | .exc e os => ∀ cls dx H' Fr', Sub Fr Fr' → Ok K B B Fr' H' ((pick iop vs).map some) os → ExnAt K Fr' cls dx e → E cls dx H'
  | .stuck => False
/-- f(..) -/
def eCall (F : Fn) (as : List Arg) : Ex := ⟨pusA as, fun ρ => (evc as ρ).bind fun r => match passA (hasIo as) as r.1 with
  | none => .stuck
  | some ds => match F ds with
    | .ok (d, os) => if d.canFz = true then match backA as r.1 os r.2 with
        | some ρ' => .ok (d, ρ')
        | none => .stuck
      else .stuck
    | .exc e os => match backA as r.1 os r.2 with
      | some ρ' => .exc e ρ'
      | none => .stuck
    | .stuck => .stuck⟩
theorem stbs_app : ∀ {ds es : List D}, stbs (ds ++ es) = true ↔ stbs ds = true ∧ stbs es = true
  | [], es => by simp [stbs]
  | d :: ds, es => by
    show (d.stb && stbs (ds ++ es)) = true ↔ (d.stb && stbs ds) = true ∧ stbs es = true
    rw [Bool.and_eq_true, Bool.and_eq_true, stbs_app, and_assoc]
section
variable {K : PySem.W.Frag} {L B Fr H : Hp} {W : WX}
theorem passD_stb {io : Bool} {a : Arg} {d d' : D} (e : passD io a d = some d') : d'.stb = true := by
  cases a with
  | sl i b =>
    cases b with
    | true =>
      obtain ⟨c, e⟩ := if_some' (show (if d.isOwn = true then some d else none) = some d' from e)
      subst e
      exact D.isOwn_stb c
    | false =>
      cases d with
      | seq t k es => cases t <;> cases k <;> first | (cases e; rfl) | cases e
      | _ => cases e
  | ex x =>
    cases d with
    | seq t k es =>
      cases k <;> cases t <;> first | (cases e; rfl) | (cases io <;> cases e; rfl) | cases e
    | obj k c ns es => cases k <;> first | (cases e; rfl) | cases e
    | deep k es => cases e
    | unset => cases e
    | _ => cases e; rfl
theorem passA_stb {io : Bool} : ∀ {as : List Arg} {ds ds' : List D}, passA io as ds = some ds' → stbs ds' = true
  | [], [], _, e => by cases e; rfl
  | [], _ :: _, _, e => by cases e
  | _ :: _, [], _, e => by cases e
  | a :: as, d :: ds, ds', e => by
    have e : (passD io a d).bind (fun d' => (passA io as ds).map (d' :: ·)) = some ds' := e
    obtain ⟨d1, e1, e⟩ := Option.bind_eq_some_iff.mp e
    obtain ⟨ds1, e2, e⟩ := Option.map_eq_some_iff.mp e
    subst e
    show (d1.stb && stbs ds1) = true
    rw [passD_stb e1, passA_stb e2]
    rfl
theorem passS_own {d d' : D} (e : passS false d = some d') : ∃ es, d = D.own es := by
  cases d with
  | seq t k es =>
    cases t with
    | true => cases e
    | false => cases k <;> first | exact ⟨es, rfl⟩ | cases e
  | _ => cases e
theorem backA_stb {io : Bool} : ∀ {as : List Arg} {ds ds' os ρ ρ' : List D}, passA io as ds = some ds' → backA as ds os ρ = some ρ' → stbs ρ = true → stbs ρ' = true
  | [], [], _, [], _, _, _, e, h => by cases e; exact h
  | [], [], _, _ :: _, _, _, _, e, _ => by cases e
  | [], _ :: _, _, _, _, _, e, _, _ => by cases e
  | _ :: _, [], _, _, _, _, e, _, _ => by cases e
  | a :: as, d :: ds, ds', os, ρ, ρ', e, eb, h => by
    have e : (passD io a d).bind (fun d' => (passA io as ds).map (d' :: ·)) = some ds' := e
    obtain ⟨d1, e1, e⟩ := Option.bind_eq_some_iff.mp e
    obtain ⟨ds1, e2, e⟩ := Option.map_eq_some_iff.mp e
    cases a with
    | ex x => exact backA_stb e2 (show backA as ds os ρ = some ρ' from eb) h
    | sl i b =>
      cases b with
      | false =>
        obtain ⟨es, rfl⟩ := passS_own (show passS false d = some d1 from e1)
        exact backA_stb e2 (show backA as ds os (ρ.set i (D.own es)) = some ρ' from eb) (stbs_set rfl i h)
      | true =>
        cases os with
        | nil => cases eb
        | cons o os =>
          have eb : (if o.isOwn = true then backA as ds os (ρ.set i o) else none) = some ρ' := eb
          by_cases c : o.isOwn = true
          · rw [if_pos c] at eb
            exact backA_stb e2 eb (stbs_set (D.isOwn_stb c) i h)
          · rw [if_neg c] at eb; cases eb
theorem backA_pure : ∀ {as : List Arg} {ds os ρ ρ' : List D}, pusA as = true → backA as ds os ρ = some ρ' → ρ' = ρ
  | [], [], [], _, _, _, e => by cases e; rfl
  | [], [], _ :: _, _, _, _, e => by cases e
  | [], _ :: _, _, _, _, _, e => by cases e
  | .ex _ :: _, [], _, _, _, _, e => by cases e
  | .sl _ _ :: _, _, _, _, _, h, _ => by cases h
  | .ex x :: as, d :: ds, os, ρ, ρ', h, e => backA_pure (as := as) (Bool.and_eq_true_iff.mp (show (x.pu && pusA as) = true from h)).2 (show backA as ds os ρ = some ρ' from e)
theorem hasIo_pure : ∀ {as : List Arg}, pusA as = true → hasIo as = false
  | [], _ => rfl
  | .sl _ _ :: _, h => by cases h
  | .ex x :: as, h => hasIo_pure (as := as) (Bool.and_eq_true_iff.mp (show (x.pu && pusA as) = true from h)).2
theorem iops_len : ∀ as : List Arg, (iops as).length = as.length
  | [] => rfl
  | .ex _ :: as => congrArg Nat.succ (iops_len as)
  | .sl _ _ :: as => congrArg Nat.succ (iops_len as)
theorem RepA.reB {B2 : Hp} : ∀ {ds : List D} {vs : List V} {Fs : List (List Addr)}, RepA K B Fr H ds vs Fs → (∀ d ∈ ds, d.canFz = true) → RepA K B2 Fr H ds vs Fs
  | [], [], [], _, _ => trivial
  | d :: ds, v :: vs, F :: Fs, h, c => by
    refine ⟨?_, RepA.reB h.2 fun d hd => c d (List.mem_cons_of_mem _ hd)⟩
    rcases h.1 with u | ⟨w, ew, r⟩
    · exact .inl u
    · exact .inr ⟨w, ew, r.reB (c d List.mem_cons_self)⟩
  | [], _ :: _, _, h, _ => False.elim h
  | _ :: _, [], _, h, _ => False.elim h
  | [], [], _ :: _, h, _ => False.elim h
  | _ :: _, _ :: _, [], h, _ => False.elim h
/-- into the callee and back -/
theorem call_ok {io : Bool} {as : List Arg} {ds ds' : List D} {vs : List V} {σ : St} {ρ : List D} (ok : Ok K L B Fr H (vs.map some ++ σ) (ds ++ ρ)) (st : stbs ρ = true) (hl : vs.length = ds.length) (hs : Slots as vs σ) (e : passA io as ds = some ds')
    (hio : io = false → ∀ Fs, RepA K L Fr H ds vs Fs → ∀ a ∈ ioF as Fs, ∀ ws, H a ≠ some (.lst ws)) :
    ∃ B', Ok K B' B' Fr H (vs.map some) ds' ∧ (hasIo as = false → ∀ Fr' H', Sub Fr Fr' → Sub Fr' H' → Sub B' H' → Sub H H') ∧
      ∀ (Fr' H' : Hp) (td : List D) (tv : List V) (os ρ' : List D), Sub Fr Fr' → tv.length = td.length → (∀ d ∈ td, d.canFz = true) → Ok K B' B' Fr' H' (tv.map some ++ (pick (iops as) vs).map some) (td ++ os) → backA as ds os ρ = some ρ' → Ok K L B Fr' H' (tv.map some ++ σ) (td ++ ρ') := by
  obtain ⟨F, r, nd, k⟩ := ok.rep
  obtain ⟨Fs, F2, eF, ra, rρ⟩ := RepA.of r hl
  subst eF
  have nd' := List.nodup_append.mp nd
  have kG : ∀ a ∈ ioF as Fs, Fr a = none ∧ B a = none := fun a ha => k a (List.mem_append_left _ (ioF_sub a ha))
  have sBg : Sub B (ground H Fr (ioF as Fs)) := fun a o h => ground_in (ok.br a o h) (by
    rcases ok.dj a with z | z
    · exact z
    · rw [h] at z; cases z) fun m => by rw [(kG a m).2] at h; cases h
  have sLg : Sub L (ground H Fr (ioF as Fs)) := ok.lb.trans sBg
  have hn : io = false → ∀ a ws, H a = some (.lst ws) → Fr a = none → ground H Fr (ioF as Fs) a = some (.lst ws) := fun z a ws h1 h2 => ground_in h1 h2 fun m => hio z Fs ra a m ws h1
  have hb : ∀ a ∈ Fs.flatten, a ∉ ioF as Fs → ∀ o, H a = some o → ground H Fr (ioF as Fs) a = some o := fun a ha m o h => ground_in h (k a (List.mem_append_left _ ha)).1 m
  refine ⟨ground H Fr (ioF as Fs), ⟨ok.fr, ground_sub, Sub.refl _, ground_fr, ioF as Fs, passA_ok ok.fr sLg hn ra e nd'.1 (fun a ha => (k a (List.mem_append_left _ ha)).1) hb, ioF_nd nd'.1, fun a ha => ⟨(kG a ha).1, ground_F ha⟩⟩, fun z Fr' H' sF sFH sBH a o h => ?_, ?_⟩
  · cases c : Fr a with
    | none => exact sBH a o (ground_in h c (by rw [io_none z]; simp))
    | some o' =>
      have := ok.fr a o' c
      rw [h] at this
      cases this
      exact sFH a o (sF a o c)
  · intro Fr' H' td tv os ρ' sF htl hc okr eb
    obtain ⟨m, em⟩ := back_mid eb
    obtain ⟨G, rG, ndG, kG2⟩ := okr.rep
    obtain ⟨Ts, G2, eG, rt, ro⟩ := RepA.of rG htl
    subst eG
    have ndG' := List.nodup_append.mp ndG
    obtain ⟨Fs', rm, ndm, hm⟩ := mid_ok sF okr.br ra e em ro nd'.1 ndG'.2.1 (fun a ha => (kG2 a (List.mem_append_right _ ha)).2) hb
    have liveρ : ∀ a ∈ F2, ∃ o, H a = some o ∧ ground H Fr (ioF as Fs) a = some o := fun a ha => by
      obtain ⟨o, ho⟩ := rρ.live a ha
      exact ⟨o, ho, ground_in ho (k a (List.mem_append_right _ ha)).1 fun m => nd'.2.2 a (ioF_sub a m) a ha rfl⟩
    have rρ' : RepO K L Fr' H' ρ σ F2 := rρ.keep (Sub.refl _) sF (fun a ha o q => by
      obtain ⟨o', h1, h2⟩ := liveρ a ha
      rw [q] at h1
      cases h1
      exact okr.br a _ h2) (.inl st)
    have frn : ∀ a o, ground H Fr (ioF as Fs) a = some o → Fr' a = none := fun a o h => by
      rcases okr.dj a with z | z
      · exact z
      · rw [h] at z; cases z
    have ok2 : Ok K L B Fr' H' (tv.map some ++ (vs.map some ++ σ)) (td ++ (m ++ ρ)) := by
      refine ⟨okr.fr, sBg.trans okr.br, ok.lb, fun a => (okr.dj a).imp id (none_sub sBg), Ts.flatten ++ (Fs'.flatten ++ F2), (rt.reB hc).to (rm.to rρ'), ?_, fun a ha => ?_⟩
      · refine List.nodup_append.mpr ⟨ndG'.1, List.nodup_append.mpr ⟨ndm, nd'.2.1, fun a ha b hb' eab => ?_⟩, fun a ha b hb' eab => ?_⟩
        · subst eab
          obtain ⟨o, h1, h2⟩ := liveρ a hb'
          rcases hm a ha with ⟨z, _⟩ | z
          · exact nd'.2.2 a z a hb' rfl
          · rw [(kG2 a (List.mem_append_right _ z)).2] at h2
            cases h2
        · subst eab
          have na := (kG2 a (List.mem_append_left _ ha)).2
          rcases List.mem_append.mp hb' with z | z
          · rcases hm a z with ⟨_, o, ho⟩ | z2
            · rw [na] at ho; cases ho
            · exact ndG'.2.2 a ha a z2 rfl
          · obtain ⟨o, h1, h2⟩ := liveρ a z
            rw [na] at h2
            cases h2
      · rcases List.mem_append.mp ha with z | z
        · have z2 := kG2 a (List.mem_append_left _ z)
          exact ⟨z2.1, none_sub sBg z2.2⟩
        · rcases List.mem_append.mp z with z | z
          · rcases hm a z with ⟨z2, o, ho⟩ | z2
            · exact ⟨frn a o ho, (k a (List.mem_append_left _ z2)).2⟩
            · have z3 := kG2 a (List.mem_append_right _ z2)
              exact ⟨z3.1, none_sub sBg z3.2⟩
          · obtain ⟨o, h1, h2⟩ := liveρ a z
            exact ⟨frn a o h2, (k a (List.mem_append_right _ z)).2⟩
    -- the top aside
    have fin : ∀ {td : List D} {tv : List V} {B : Hp}, tv.length = td.length → (∀ d ∈ td, d.canFz = true) → Ok K L B Fr' H' (tv.map some ++ (vs.map some ++ σ)) (td ++ (m ++ ρ)) → Ok K L B Fr' H' (tv.map some ++ σ) (td ++ ρ') := by
      intro td
      induction td with
      | nil => intro tv B hl _ o; cases tv with
        | nil =>
          have o : Ok K L B Fr' H' (vs.map some ++ σ) (m ++ ρ) := o
          have o2 : Ok K L B Fr' H' σ ρ' := back_ok o em hs eb
          exact o2
        | cons _ _ => cases hl
      | cons d td ih => intro tv B hl c o; cases tv with
        | nil => cases hl
        | cons v tv =>
          obtain ⟨B2, sB2, o2, back⟩ := Ok.hide o
          exact back (Sub.refl _) (.inl (D.canFz_stb (c d List.mem_cons_self))) (ih (Nat.succ.inj hl) (fun d hd => c d (List.mem_cons_of_mem _ hd)) o2)
    exact fin htl hc ok2
theorem tE_call {F : Fn} {as : List Arg} {σ : St} {H : Hp} {Q : VK} (h : tE K L W (eCall F as) σ H Q) : tAc K L W as σ H fun vs H1 => spF K (iops as) F vs H1 Q (WE W σ) := by
  obtain ⟨B, Fr, ρ, ok, st, h⟩ := h
  refine ⟨B, Fr, ρ, ok, st, ?_⟩
  unfold eCall at h
  dsimp only at h
  cases e1 : evc as ρ with
  | exc ex r => rw [e1] at h; exact h
  | stuck => rw [e1] at h; exact h
  | ok r =>
    rw [e1, Out.bind_ok] at h
    intro vs H1 Fr1 hl hs sf pu st1 ok1
    cases e2 : passA (hasIo as) as r.1 with
    | none => rw [e2] at h; exact h.elim
    | some ds =>
      rw [e2] at h
      dsimp only at h
      obtain ⟨B', okc, hp, back⟩ := call_ok ok1 st1 hl hs e2 fun z Fs _ a m => by rw [io_none z] at m; cases m
      refine ⟨by rw [iops_len, hs.len], B', Fr1, ds, okc, passA_stb e2, ?_⟩
      cases e3 : F ds with
      | stuck => rw [e3] at h; exact h.elim
      | exc ex os =>
        rw [e3] at h
        dsimp only at h ⊢
        cases e4 : backA as r.1 os r.2 with
        | none => rw [e4] at h; exact h.elim
        | some ρ' =>
          rw [e4] at h
          intro cls dx H' Fr' sF okr xa
          exact h cls dx H' Fr' (sf.trans sF) (backA_stb e2 e4 st1) (back Fr' H' [] [] os ρ' sF rfl (fun _ h => by cases h) okr e4) xa
      | ok q =>
        obtain ⟨d, os⟩ := q
        rw [e3] at h
        dsimp only at h ⊢
        by_cases c : d.canFz = true
        · rw [if_pos c] at h
          cases e4 : backA as r.1 os r.2 with
          | none => rw [e4] at h; exact h.elim
          | some ρ' =>
            rw [e4] at h
            refine ⟨c, fun v H' Fr' sF okr => ?_⟩
            refine h v H' Fr' (sf.trans sF) (fun z => (pu z).trans (hp (hasIo_pure z) Fr' H' sF okr.fr okr.br)) (backA_stb e2 e4 st1) ?_
            exact back Fr' H' [d] [v] os ρ' sF rfl (fun d' hd => by rw [List.mem_singleton.mp hd]; exact c) okr e4
        · rw [if_neg c] at h; exact h.elim
theorem pure_call {F : Fn} {as : List Arg} (hp : ∀ x, Arg.ex x ∈ as → Pure x) : Pure (eCall F as) := fun pu ρ r e => by
  unfold eCall at e
  dsimp only at e
  cases e1 : evc as ρ with
  | exc ex r => rw [e1] at e; cases e
  | stuck => rw [e1] at e; cases e
  | ok q =>
    rw [e1, Out.bind_ok] at e
    have q2 := evc_pure hp pu ρ q e1
    split at e
    · cases e
    · split at e
      · split at e
        · split at e
          · rename_i eb
            injection e with e
            rw [← e]
            show _ = ρ
            rw [backA_pure pu eb, q2]
          · cases e
        · cases e
      · split at e <;> cases e
      · cases e
end
section
variable {X : Cx} {L : Hp} {W : WX} {k : Nat} {f : Addr} {fd : FuncData} {ps : List Str} {x : Str} {p pos : Pos} {e : Expr} {es : List Expr} {as : List Arg} {F : Fn}
theorem se_call (FO : FnOk X.prog X.w X.K X.mg X.base (L2.CX X.prog X.w) k f fd ps (spF X.K (iops as) F)) (hr : Room k X.A) (tk : Takes X W) (hg : Gl X x) (hm : X.mg x = some (.ref f)) (hk : PySem.W.keepIn X.K (.ref f) = true) (hb : Binds X.K fd ps []) (ha : SC X L W (e :: es) as)
    (hdb : (x == ("__debug__" : Str)) = false := by decide) (he : starEach (e :: es) X.env = (false, eval e X.env) :: starEach es X.env := by rfl) (hpl : (backTo pos (starEach es X.env)).any (·.1) = false := by rfl) :
    SE X L W (.Call (.Name x p) (e :: es) [] pos) (eCall F as) :=
  ⟨(pe_callS FO hr hg hm hk hb (fun σ => passAt tk σ) ha.run hdb he hpl).imp fun _ _ _ h => tE_call h, pure_call ha.pu⟩
end
end Ev

/-! C15: defs, methods, properties, objects. -/
namespace Ev
open PySem PySem.Spec L2
open PyProof.Rows hiding St

/-! ### a def by its body -/
/-- the data of the names at the entry -/
def frameD (n : Nat) (ds : List D) : List D := ds ++ List.replicate (n - ds.length) .unset
def fnOf (iop : List Bool) (n : Nat) (b : Blk) : Fn := fun ds => match b (frameD n ds) with
  | .ok (.ret d, ρ) => if d.canFz = true then .ok (d, pick iop ρ) else .stuck
  | .ok (.next, ρ) => .ok (.non, pick iop ρ)
  | .ok (_, _) => .stuck
  | .exc e ρ => .exc e (pick iop ρ)
  | .stuck => .stuck
theorem pick_length : ∀ {α : Type} (bs : List Bool) (xs : List α), (pick bs xs).length ≤ bs.length
  | _, [], _ => by unfold pick; exact Nat.zero_le _
  | _, true :: bs, [] => by unfold pick; exact Nat.zero_le _
  | _, false :: bs, [] => by unfold pick; exact Nat.zero_le _
  | _, true :: bs, x :: xs => by unfold pick; exact Nat.succ_le_succ (pick_length bs xs)
  | _, false :: bs, x :: xs => by unfold pick; exact Nat.le_succ_of_le (pick_length bs xs)
theorem pick_map {α β : Type} (f : α → β) : ∀ (bs : List Bool) (xs : List α), (pick bs xs).map f = pick bs (xs.map f)
  | [], _ => by unfold pick; rfl
  | true :: bs, [] => by unfold pick; rfl
  | false :: bs, [] => by unfold pick; rfl
  | true :: bs, x :: xs => by
    show f x :: (pick bs xs).map f = f x :: pick bs (xs.map f)
    rw [pick_map f bs xs]
  | false :: bs, x :: xs => pick_map f bs xs
/-- what the picked places hold -/
theorem pick_eq {α : Type} : ∀ {bs : List Bool} {xs ys : List α}, xs.length = bs.length → bs.length ≤ ys.length → (∀ i : Nat, bs[i]? = some true → ys[i]? = xs[i]?) → pick bs ys = pick bs xs
  | [], _, _, _, _, _ => by unfold pick; rfl
  | true :: _, [], _, h, _, _ => by cases h
  | false :: _, [], _, h, _, _ => by cases h
  | _ :: _, _ :: _, [], _, h, _ => by cases h
  | true :: bs, x :: xs, y :: ys, h1, h2, h => by
    have h0 : y = x := by simpa using h 0 rfl
    show y :: pick bs ys = x :: pick bs xs
    rw [h0, pick_eq (Nat.succ.inj h1) (Nat.le_of_succ_le_succ h2) fun i hi => by simpa using h (i + 1) (by simpa using hi)]
  | false :: bs, x :: xs, y :: ys, h1, h2, h => pick_eq (bs := bs) (Nat.succ.inj h1) (Nat.le_of_succ_le_succ h2) fun i hi => by simpa using h (i + 1) (by simpa using hi)
section
variable {K : PySem.W.Frag} {L B Fr H : Hp}
theorem RepO.pick : ∀ {bs : List Bool} {ds : List D} {os : List (Option V)} {F : List Addr}, RepO K L Fr H ds os F → ∃ F', F'.Sublist F ∧ RepO K L Fr H (Ev.pick bs ds) (Ev.pick bs os) F'
  | [], ds, os, F, _ => ⟨[], List.nil_sublist _, by unfold Ev.pick; exact rfl⟩
  | true :: bs, [], [], F, h => ⟨[], List.nil_sublist _, by unfold Ev.pick; exact rfl⟩
  | false :: bs, [], [], F, h => ⟨[], List.nil_sublist _, by unfold Ev.pick; exact rfl⟩
  | _ :: _, [], _ :: _, _, h => False.elim h
  | _ :: _, _ :: _, [], _, h => False.elim h
  | true :: bs, d :: ds, o :: os, F, h => by
    obtain ⟨F1, F2, e, r1, r2⟩ := h
    obtain ⟨F', s, r⟩ := RepO.pick (bs := bs) r2
    exact ⟨F1 ++ F', by rw [e]; exact (List.Sublist.refl F1).append s, F1, F', rfl, r1, r⟩
  | false :: bs, d :: ds, o :: os, F, h => by
    obtain ⟨F1, F2, e, r1, r2⟩ := h
    obtain ⟨F', s, r⟩ := RepO.pick (bs := bs) r2
    exact ⟨F', by rw [e]; exact s.trans (List.sublist_append_right _ _), r⟩
theorem Ok.pick {os : List (Option V)} {ds : List D} (x : Ok K L B Fr H os ds) (bs : List Bool) : Ok K L B Fr H (Ev.pick bs os) (Ev.pick bs ds) := by
  obtain ⟨F, r, nd, k⟩ := x.rep
  obtain ⟨F', s, r'⟩ := r.pick (bs := bs)
  exact ⟨x.fr, x.br, x.lb, x.dj, F', r', nd.sublist s, fun a ha => k a (s.subset ha)⟩
theorem Ok.pick1 {o : Option V} {os : List (Option V)} {d : D} {ds : List D} (x : Ok K L B Fr H (o :: os) (d :: ds)) (bs : List Bool) : Ok K L B Fr H (o :: Ev.pick bs os) (d :: Ev.pick bs ds) := x.pick (true :: bs)
theorem Ok.frame {vs : List V} {ds : List D} (x : Ok K L B Fr H (vs.map some) ds) (n : Nat) : Ok K L B Fr H (vs.map some ++ List.replicate n none) (ds ++ List.replicate n .unset) := by
  obtain ⟨F, r, nd, k⟩ := x.rep
  have un : ∀ n, RepO K L Fr H (List.replicate n .unset) (List.replicate n none) [] := fun n => by
    induction n with
    | zero => exact rfl
    | succ n ih => exact ⟨[], [], rfl, .inl ⟨rfl, rfl⟩, ih⟩
  have go : ∀ {ds : List D} {os : List (Option V)} {F : List Addr}, RepO K L Fr H ds os F → RepO K L Fr H (ds ++ List.replicate n .unset) (os ++ List.replicate n none) F := by
    intro ds
    induction ds with
    | nil => intro os F h; cases os with
      | nil => rw [show F = [] from h]; exact un n
      | cons _ _ => exact False.elim h
    | cons d ds ih => intro os F h; cases os with
      | nil => exact False.elim h
      | cons o os =>
        obtain ⟨F1, F2, e, r1, r2⟩ := h
        exact ⟨F1, F2, e, r1, ih r2⟩
  exact ⟨x.fr, x.br, x.lb, x.dj, F, go r, nd, k⟩
theorem stbs_un : ∀ n : Nat, stbs (List.replicate n .unset) = true
  | 0 => rfl
  | n + 1 => stbs_un n
end
/-- the wish of a def's body about exceptions -/
abbrev WB (E : XK) : WX := fun cls d _ H => E cls d H
abbrev BX (P : Program) (w : World) (K : PySem.W.Frag) (mg : Str → Option Value) (base : Heap) (N : List Str) (qual : Str) (scope : Scope) (f : Addr) (cd : Value) (A : Around) (outer : List Env) (s : Shared) (H : Hp) (E : XK) : Cx :=
  cxOf (L2.CX P w) P w K mg base N qual scope f cd A outer s H E
section
variable {P : Program} {w : World} {K : PySem.W.Frag} {mg : Str → Option Value} {base : Heap} {x qual : Str} {params : Arguments} {body : List Stmt} {scope : Scope} {f : Addr} {fd : FuncData} {N ps : List Str} {k : Nat} {iop : List Bool} {fx : List Nat} {b : Blk}
theorem bx_takes {cd : Value} {A : Around} {outer : List Env} {s : Shared} {H : Hp} {E : XK} : Takes (BX P w K mg base N qual scope f cd A outer s H E) (WB E) := takes_of rfl rfl rfl rfl
theorem bx_passes {cd : Value} {A : Around} {outer : List Env} {s : Shared} {H : Hp} {E : XK} : PassesOwn (model P w) (A.deeper (envOfC qual scope s.heap.objs.size f cd)) (envOfC qual scope s.heap.objs.size f cd) (BX P w K mg base N qual scope f cd A outer s H E).xe := passes_of (X := BX P w K mg base N qual scope f cd A outer s H E) rfl
theorem blk_takes {X : Cx} {s : Shared} {H : Hp} {sc : Scope} {ce : Env} {fp : List Addr} : Takes (X.blk s H sc ce fp) noX := fun u s' ⟨_, _, _, _, _, _, _, _, _, _, _, _, _, _, _, _, z⟩ => z.elim
theorem fn_rule (F : FunD K x qual params body scope [] [] f fd) (S : FnScope N ps scope) (hio : iop.length = ps.length) (hfx : ∀ i : Nat, iop[i]? = some true → i ∈ fx)
    (hb : ∀ (cdv : Value) (A : Around) (outer : List Env) (s : Shared) (H : Hp) (E : XK) (L : Hp), Room k (A.deeper (envOfC qual scope s.heap.objs.size f cdv)) → SB (BX P w K mg base N qual scope f cdv A outer s H E) L fx (WB E) body b) :
    FnOk P w K mg base (L2.CX P w) (k + 1) f fd ps (spF K iop (fnOf iop N.length b)) := by
  refine F.ok S (fun vs H Q E h => by rw [h.1, hio]) fun cdv A outer s H vs Q E hr hsp => ?_
  obtain ⟨hl, B, Fr, ds, ok, st, h⟩ := hsp
  refine ⟨_, (hb cdv A outer s H E B hr).run, B, Fr, frameD N.length ds, ?_, ?_, ?_⟩
  · have e : start N vs = vs.map some ++ List.replicate (N.length - ds.length) none := by
      unfold L2.start
      rw [ok.len, List.length_map]
    rw [e]
    exact ok.frame _
  · unfold frameD
    exact stbs_app.mpr ⟨st, stbs_un _⟩
  · have hN : iop.length ≤ N.length := by
      have := congrArg List.length S.pre
      rw [List.length_take] at this
      omega
    have hN' : (start N vs).length = N.length := by
      unfold L2.start
      rw [List.length_append, List.length_map, List.length_replicate]
      omega
    -- the io places keep their values
    have pk : ∀ {σ' : St} {ρ : List D} {Fr' H' : Hp}, Agree fx (start N vs) σ' → Ok K B B Fr' H' σ' ρ → Ev.pick iop σ' = (Ev.pick iop vs).map some := fun {σ' ρ Fr' H'} ag ok' => by
      rw [pick_map]
      have hge : ∀ i : Nat, iop[i]? = some true → σ'[i]? = (vs.map some)[i]? := fun i hi => by
        rw [ag i (hfx i hi)]
        have hlt : i < vs.length := by
          have := (List.getElem?_eq_some_iff.mp hi).1
          omega
        unfold L2.start
        rw [List.getElem?_append_left (by rw [List.length_map]; exact hlt)]
      -- as long as the io places reach
      have go : ∀ {bs : List Bool} {xs ys : List (Option V)}, xs.length = bs.length → (∀ i : Nat, bs[i]? = some true → ys[i]? = xs[i]?) → Ev.pick bs ys = Ev.pick bs xs := by
        intro bs
        induction bs with
        | nil => intro xs ys _ _; unfold Ev.pick; rfl
        | cons b bs ih =>
          intro xs ys hl hh
          cases xs with
          | nil => cases hl
          | cons x xs =>
            cases b with
            | true =>
              have h0 := hh 0 rfl
              cases ys with
              | nil => simp at h0
              | cons y ys =>
                have h0 : y = x := by simpa using h0
                show y :: Ev.pick bs ys = x :: Ev.pick bs xs
                rw [h0, ih (Nat.succ.inj hl) fun i hi => by simpa using hh (i + 1) (by simpa using hi)]
            | false =>
              cases ys with
              | nil =>
                have e1 := ih (xs := xs) (ys := []) (Nat.succ.inj hl) fun i hi => by simpa using hh (i + 1) (by simpa using hi)
                show Ev.pick (false :: bs) [] = Ev.pick bs xs
                rw [← e1]
                cases bs with
                | nil => rfl
                | cons b bs => cases b <;> rfl
              | cons y ys =>
                show Ev.pick bs ys = Ev.pick bs xs
                exact ih (Nat.succ.inj hl) fun i hi => by simpa using hh (i + 1) (by simpa using hi)
      exact go (by rw [List.length_map]; exact hl) hge
    have h : (match (fnOf iop N.length b ds) with
      | .ok (d, os) => d.canFz = true ∧ ∀ v H' Fr', Sub Fr Fr' → Ok K B B Fr' H' (some v :: (Ev.pick iop vs).map some) (d :: os) → Q v H'
      | .exc e os => ∀ cls dx H' Fr', Sub Fr Fr' → Ok K B B Fr' H' ((Ev.pick iop vs).map some) os → ExnAt K Fr' cls dx e → E cls dx H'
      | .stuck => False) := h
    unfold fnOf at h
    cases e1 : b (frameD N.length ds) with
    | stuck => rw [e1] at h; exact h.elim
    | exc ex ρ =>
      rw [e1] at h
      intro cls dx σ' H' Fr' sF ag st' ok' xa
      have ok2 := ok'.pick iop
      rw [pk ag ok'] at ok2
      exact h cls dx H' Fr' sF ok2 xa
    | ok r =>
      obtain ⟨fl, ρ⟩ := r
      rw [e1] at h
      cases fl with
      | brk => exact h.elim
      | cont => exact h.elim
      | next =>
        obtain ⟨_, h⟩ := h
        intro σ' H' Fr' sF ag st' ok'
        have ok2 := ok'.pick iop
        rw [pk ag ok'] at ok2
        exact h .non H' Fr' sF (ok2.pushF rfl)
      | ret d =>
        dsimp only at h
        by_cases c : d.canFz = true
        · rw [if_pos c] at h
          obtain ⟨_, h⟩ := h
          intro v σ' H' Fr' sF ag st' ok'
          have ok2 := ok'.pick1 iop
          rw [pk ag ok'.pop] at ok2
          exact h v H' Fr' sF ok2
        · rw [if_neg c] at h; exact h.elim
end
end Ev

/-! C16: objects: fields, methods, properties, making. -/
namespace Ev
open PySem PySem.Spec L2
open PyProof.Rows hiding St

/-! ### fields -/
def lookD (f : Str) : List Str → List D → Option D
  | n :: ns, d :: ds => if n = f then some d else lookD f ns ds
  | _, _ => none
def D.fld (c f : Str) : D → Option D
  | .obj _ c' ns ds => if c' = c then lookD f ns ds else none
  | _ => none
theorem lookD_ok {K : PySem.W.Frag} {A : Hp} {f : Str} {d : D} : ∀ {ns : List Str} {ds : List D} {fvs : List (Str × V)}, fvs.map (·.1) = ns → RepFs K A ds (fvs.map (·.2)) → lookD f ns ds = some d → ∃ v, fvs.lookup f = some v ∧ RepF K A d v
  | [], _, _, _, _, e => by unfold lookD at e; cases e
  | _ :: _, [], _, _, _, e => by unfold lookD at e; cases e
  | _ :: _, _ :: _, [], en, _, _ => by cases en
  | n :: ns, d' :: ds, (m, v) :: fvs, en, r, e => by
    have e1 : m = n := by injection en
    have e2 : fvs.map (·.1) = ns := by injection en
    subst e1
    have e : (if m = f then some d' else lookD f ns ds) = some d := e
    by_cases c : m = f
    · rw [if_pos c] at e
      cases e
      refine ⟨v, ?_, r.1⟩
      rw [c]
      simp [List.lookup]
    · rw [if_neg c] at e
      obtain ⟨w, h1, h2⟩ := lookD_ok e2 r.2 e
      refine ⟨w, ?_, h2⟩
      have : (f == m) = false := beq_eq_false_iff_ne.mpr (Ne.symm c)
      simp only [List.lookup, this]
      exact h1
theorem lookD_none {ns : List Str} {fvs : List (Str × V)} {f : Str} (en : fvs.map (·.1) = ns) (h : ns.contains f = false) : fvs.lookup f = none := by
  induction fvs generalizing ns with
  | nil => rfl
  | cons p fvs ih =>
    obtain ⟨m, v⟩ := p
    subst en
    simp only [List.map_cons, List.contains_cons, Bool.or_eq_false_iff] at h
    simp only [List.lookup, h.1]
    exact ih rfl h.2
section
variable {K : PySem.W.Frag} {L B Fr H : Hp}
/-- an object on top -/
theorem Ok.objAt {os : List (Option V)} {ds ρ : List D} {k : Md} {c : Str} {ns : List Str} {v : V} (x : Ok K L B Fr H (some v :: os) (.obj k c ns ds :: ρ)) : ∃ a dx fvs, v = .ref a ∧ H a = some (.ins (He.ga K c) dx fvs) ∧ fvs.map (·.1) = ns ∧ RepFs K Fr ds (fvs.map (·.2)) := by
  obtain ⟨F, r⟩ := x.top (by intro z; cases z)
  cases k with
  | fz => obtain ⟨_, a, dx, fvs, e, q, n, r⟩ := r; exact ⟨a, dx, fvs, e, x.fr _ _ q, n, r⟩
  | own => obtain ⟨a, dx, fvs, e, _, q, n, r⟩ := r; exact ⟨a, dx, fvs, e, q, n, r⟩
  | tmp => obtain ⟨_, a, dx, fvs, e, q, n, r⟩ := r; exact ⟨a, dx, fvs, e, q, n, r⟩
  | bor => exact False.elim r
  | scr => exact False.elim r
def oFld (c f : Str) : List D → Option D
  | [d] => d.fld c f
  | _ => none
def rFld (K : PySem.W.Frag) (c f : Str) : V → Hp → VK → Prop := fun x H Q => ∃ a dx fs v, x = .ref a ∧ H a = some (.ins (He.ga K c) dx fs) ∧ fs.lookup f = some v ∧ Q v H
theorem oFld_ok {c f : Str} : OpS K L (oFld c f) (R1v (rFld K c f)) := by
  intro B Fr H σ ρ ds vs Q d ok hl e q
  unfold oFld at e
  split at e
  · rename_i d0
    obtain ⟨v, rfl, ok⟩ := ok1 ok hl
    cases d0 with
    | obj k c' ns es =>
      have e2 : (if c' = c then lookD f ns es else none) = some d := e
      by_cases cc : c' = c
      · rw [if_pos cc] at e2
        subst cc
        obtain ⟨a, dx, fvs, rfl, ha, hn, r⟩ := ok.objAt
        obtain ⟨w, hw, rw'⟩ := lookD_ok hn r e2
        exact ⟨_, rfl, a, dx, fvs, w, rfl, ha, hw, q w H Fr (Sub.refl _) (Sub.refl _) (ok.pop.pushF rw')⟩
      · rw [if_neg cc] at e2; cases e2
    | _ => cases e
  · cases e
/-- an own field is set -/
def putD (f : Str) (d : D) : List Str → List D → List Str × List D
  | n :: ns, e :: ds => if n = f then (n :: ns, d :: ds) else (n :: (putD f d ns ds).1, e :: (putD f d ns ds).2)
  | _, _ => ([f], [d])
theorem putD_ok {A : Hp} {f : Str} {d : D} {v : V} (r : RepF K A d v) : ∀ {ns : List Str} {ds : List D} {fvs : List (Str × V)}, fvs.map (·.1) = ns → RepFs K A ds (fvs.map (·.2)) →
    (putF f v fvs).map (·.1) = (putD f d ns ds).1 ∧ RepFs K A (putD f d ns ds).2 ((putF f v fvs).map (·.2))
  | [], [], [], _, _ => ⟨rfl, r, trivial⟩
  | [], _ :: _, [], _, h => False.elim h
  | _ :: _, _, [], en, _ => by cases en
  | [], _, _ :: _, en, _ => by cases en
  | _ :: _, [], _ :: _, _, h => False.elim h
  | n :: ns, e :: ds, (m, w) :: fvs, en, h => by
    have e1 : m = n := by injection en
    have e2 : fvs.map (·.1) = ns := by injection en
    subst e1
    unfold putF putD
    by_cases c : m = f
    · rw [if_pos c, if_pos c]
      exact ⟨by simp [e2], r, h.2⟩
    · rw [if_neg c, if_neg c]
      obtain ⟨i1, i2⟩ := putD_ok r e2 h.2
      exact ⟨by simp [i1], h.1, i2⟩
/-- the owned object on top is changed -/
theorem Ok.changeO {os : List (Option V)} {ds es es' : List D} {c : Str} {ns ns' : List Str} {p dx : Addr} {fvs fvs' : List (Str × V)} (x : Ok K L B Fr H (some (.ref p) :: os) (.obj .own c ns es :: ds)) (hp : H p = some (.ins (He.ga K c) dx fvs)) (st : stbs ds = true)
    (hn : fvs'.map (·.1) = ns') (r : RepFs K Fr es' (fvs'.map (·.2))) : Ok K L B Fr (upd H p (.ins (He.ga K c) dx fvs')) (some (.ref p) :: os) (.obj .own c ns' es' :: ds) := by
  obtain ⟨F, ⟨F1, F2, e, r1, r2⟩, nd, k⟩ := x.rep
  subst e
  rcases r1 with ⟨z, _⟩ | ⟨w, ew, r1⟩
  · cases z
  · cases ew
    obtain ⟨a, dx0, fvs0, ea, eF, q, _, _⟩ := r1
    cases ea
    subst eF
    have kp := k p (List.mem_append_left _ List.mem_cons_self)
    have nd' := List.nodup_append.mp nd
    have np : p ∉ F2 := fun m => nd'.2.2 p List.mem_cons_self p m rfl
    have sf : Sub Fr (upd H p (.ins (He.ga K c) dx fvs')) := fun a o e => by
      rw [upd_ne (fun z => by subst z; rw [kp.1] at e; cases e)]; exact x.fr _ _ e
    have sb : Sub B (upd H p (.ins (He.ga K c) dx fvs')) := fun a o e => by
      rw [upd_ne (fun z => by subst z; rw [kp.2] at e; cases e)]; exact x.br _ _ e
    refine ⟨sf, sb, x.lb, x.dj, [p] ++ F2, ⟨[p], F2, rfl, .inr ⟨_, rfl, p, dx, fvs', rfl, rfl, upd_same, hn, r⟩, r2.keep (Sub.refl _) (Sub.refl _) (fun a ha o q => ?_) (.inl st)⟩, nd, k⟩
    rw [upd_ne (fun z : a = p => np (by rw [← z]; exact ha))]
    exact q
end
section
variable {X : Cx} {L : Hp} {W : WX} {fx : List Nat} {e o : Expr} {x y : Ex} {pos pos' : Pos} {c f : Str}
theorem se_fld (c : Str) (h : SE X L W e x) (hc : Cls X.K (He.ga X.K c)) (hn : NoAttr X.K (He.ga X.K c) f) (hb : attributeBase e f X.env (eval e X.env) = eval e X.env := by rfl) : SE X L W (.Attribute e f pos) (eOp (oFld c f) [x]) :=
  ⟨(pe_fld h.run hb).imp fun _ _ _ z => (eOp_one oFld_ok z).mono fun _ _ ⟨_, e, q⟩ => by
    cases e
    obtain ⟨a, dx, fs, v, e1, e2, e3, e4⟩ := q
    exact ⟨a, _, dx, fs, v, e1, e2, hc, hn, e3, e4⟩, eOp_pure (pure1 h.pu)⟩
/-- self.f = e, self's slot i -/
def sFld (i : Nat) (c f : Str) (x : Ex) : Blk := fun ρ => (x.f ρ).bind fun r => if r.1.canFz = true then match r.2[i]? with
    | some (.obj .own c' ns ds) => if c' = c ∧ ns.length < 1000 then .ok (.next, r.2.set i (.obj .own c (putD f r.1.frz ns ds).1 (putD f r.1.frz ns ds).2)) else .stuck
    | _ => .stuck
  else .stuck
theorem ss_fld (i : Nat) (c : Str) {n : Str} (hv : SE X L W e x) (hc : Cls X.K (He.ga X.K c)) (hn : NoAttr X.K (He.ga X.K c) f) (hN : X.N[i]? = some n := by rfl) (hvis : Vis X.env.scope n := by first | exact Or.inl rfl | exact Or.inr (Or.inl rfl) | exact Or.inr (Or.inr rfl))
    (hd : (n == ("__debug__" : Str)) = false := by decide) (hcd : (n == ("__classdict__" : Str)) = false := by decide) {p1 p2 : Pos} (hs : swapsWith e (some (.Attribute (.Name n p1) f p2)) pos.line X.env = pure false := by rfl) :
    SS X L fx W (.Assign [.Attribute (.Name n p1) f p2] e pos) (sFld i c f x) := by
  refine ⟨(ps_fld (pe_var hN hvis hd hcd) hv.run hs).imp fun Z σ H ⟨B, Fr, ρ, ok, st, h⟩ => tE_of ok st (k := fun r => if r.1.canFz = true then match r.2[i]? with
    | some (.obj .own c' ns ds) => if c' = c ∧ ns.length < 1000 then .ok (.next, r.2.set i (.obj .own c (putD f r.1.frz ns ds).1 (putD f r.1.frz ns ds).2)) else .stuck
    | _ => .stuck
  else .stuck) h fun r v H1 Fr1 sf st1 ok1 p => ?_⟩
  by_cases cc : r.1.canFz = true
  · rw [if_pos cc] at p
    obtain ⟨Fr2, sf2, rd, ok2⟩ := ok1.pull cc
    cases g : r.2[i]? with
    | none => rw [g] at p; exact p.elim
    | some d =>
      rw [g] at p
      cases d with
      | obj k c' ns ds =>
        cases k with
        | own =>
          dsimp only at p
          by_cases c2 : c' = c ∧ ns.length < 1000
          · rw [if_pos c2] at p
            obtain ⟨rfl, hlen⟩ := c2
            obtain ⟨w, ew, ok3⟩ := ok2.out g (by intro z; cases z)
            obtain ⟨a, dx, fvs, rfl, ha, hns, rs⟩ := ok3.objAt
            obtain ⟨h1, h2⟩ := putD_ok (f := f) rd hns rs
            have ok4 := (ok3.changeO ha (stbs_set rfl i st1) h1 h2).back ew
            rw [List.set_set] at ok4
            exact ⟨_, ew, a, _, dx, fvs, rfl, ha, hc, hn, by rw [← hns, List.length_map] at hlen; exact hlen, p σ _ Fr2 sf2 (Agree.refl _) (stbs_set rfl i st1) ok4⟩
          · rw [if_neg c2] at p; exact p.elim
        | _ => exact p.elim
      | _ => exact p.elim
  · rw [if_neg cc] at p; exact p.elim
/-- C.f, a constant of the class -/
theorem se_ccon {C : Str} {d : D} {v : V} {u mc : Value} (hg : Gl X C) (hm : X.mg C = some (.ref (He.ga X.K C))) (hr : ClX.CRead X.K (He.ga X.K C) mc) (hv : ClX.CVal X.K (He.ga X.K C) mc f v u) (r : ∀ Fr, RepF X.K Fr d v) (hd : (C == ("__debug__" : Str)) = false := by decide)
    {p1 : Pos} (hb : attributeBase (.Name C p1) f X.env (eval (.Name C p1) X.env) = eval (.Name C p1) X.env := by rfl) : SE X L W (.Attribute (.Name C p1) f pos) (eC d) :=
  se_const ((ClX.pe_cval (pe_glob (v := V.ref (He.ga X.K C)) hg hm rfl hd) hb).imp fun _ _ _ q => ⟨_, mc, v, u, rfl, hr, hv, q⟩) r
end
/-! ### methods -/
def isObj (c m : Str) : D → Bool
  | .obj _ c' ns _ => decide (c' = c) && !ns.contains m
  | _ => false
theorem isObj_at {K : PySem.W.Frag} {L : Hp} {c m : Str} {σ : St} : ∀ B Fr H1 d ρ v, Ok K L B Fr H1 (some v :: σ) (d :: ρ) → isObj c m d = true → ∃ a dx fs, v = .ref a ∧ H1 a = some (.ins (He.ga K c) dx fs) ∧ fs.lookup m = none := fun B Fr H1 d ρ v ok h => by
  cases d with
  | obj k c' ns ds =>
    have h := Bool.and_eq_true_iff.mp (show (decide (c' = c) && !ns.contains m) = true from h)
    have e := of_decide_eq_true h.1
    subst e
    obtain ⟨a, dx, fvs, e1, e2, e3, _⟩ := ok.objAt
    exact ⟨a, dx, fvs, e1, e2, lookD_none e3 (by simpa using h.2)⟩
  | _ => cases h
section
variable {X : Cx} {CX : CXT} {k : Nat} {C f : Addr} {fd : FuncData} {ps : List Str} {sp : Sp} {E : St → XK} {m : Str} {pos apos : Pos} {e o : Expr} {es : List Expr} {ta : TE} {t : TA}
def tMethV (C : Addr) (m : Str) (sp : Sp) (E : St → XK) (ta : TE) (t : TA) : TE := fun σ H Q => ta σ H fun x H1 => (∃ a dx fs, x = .ref a ∧ H1 a = some (.ins C dx fs) ∧ fs.lookup m = none) ∧ t σ H1 fun vs H2 => sp (x :: vs) H2 Q (E σ)
theorem pe_methV {pl : Sem Bool} (he : PE X o ta) (c : Cls X.K C) (hm : Meth X.K C m f) (F : FnOk X.prog X.w X.K X.mg X.base CX k f fd ps sp) (hr : Room k X.A) (hb : Binds X.K fd ps []) (hx : ∀ σ, PassesAt CX X σ (E σ)) (ha : PA X (e :: es) t)
    (hst : starEach (e :: es) X.env = (false, eval e X.env) :: starEach es X.env := by rfl) (hpl : (backTo pos (starEach es X.env)).any (·.1) = false := by rfl)
    (ht : eval (.Call (.Attribute o m apos) (e :: es) [] pos) X.env = (do
      let ov ← eval o X.env
      standAt apos.atName
      let (f, first) ← holding [ov] (getMethod ov m pl)
      callWith pos f first (backTo pos (starEach (e :: es) X.env)) (backToKw pos (keywordEach [] X.env))) := by rfl) : PE X (.Call (.Attribute o m apos) (e :: es) [] pos) (tMethV C m sp E ta t) := by
  constructor
  intro pins s σ H Q I h
  refine PySem.W.methodCall_KW (pl := pl) (thn (he.run pins s σ H _ I h) ?_) ht
  rintro u s1 ⟨x, H1, I1, rx, ⟨a, dx, fs, rfl, ea, l⟩, q⟩
  cases rx
  refine getmeth_ok I1 ea c hm l (PySem.W.callWith_K (first := [.ref a]) (h₀ := X.base) I.ok.mod.kin hm.kp (thn (ha.run pos pins s1 σ H1 _ I1 q) ?_) hst hpl)
  rintro us s2 ⟨vs, H2, I2, r, q2⟩
  exact ⟨I2.kIn, run_fnS (us := .ref a :: us) (vs := .ref a :: vs) F hr hb (hx σ) I2 (.cons rfl r) q2⟩
theorem pe_methV0 {pl : Sem Bool} (he : PE X o ta) (c : Cls X.K C) (hm : Meth X.K C m f) (F : FnOk X.prog X.w X.K X.mg X.base CX k f fd ps sp) (hr : Room k X.A) (hb : Binds X.K fd ps []) (hx : ∀ σ, PassesAt CX X σ (E σ))
    (ht : eval (.Call (.Attribute o m apos) [] [] pos) X.env = (do
      let ov ← eval o X.env
      standAt apos.atName
      let (f, first) ← holding [ov] (getMethod ov m pl)
      callWith pos f first (backTo pos (starEach [] X.env)) (backToKw pos (keywordEach [] X.env))) := by rfl) : PE X (.Call (.Attribute o m apos) [] [] pos) (tMethV C m sp E ta tNil) := by
  constructor
  intro pins s σ H Q I h
  refine PySem.W.methodCall_KW (pl := pl) (thn (he.run pins s σ H _ I h) ?_) ht
  rintro u s1 ⟨x, H1, I1, rx, ⟨a, dx, fs, rfl, ea, l⟩, q⟩
  cases rx
  exact getmeth_ok I1 ea c hm l (PySem.W.callWith_K0 (first := [.ref a]) I1.kIn hm.kp (run_fnS (us := [.ref a]) (vs := [.ref a]) F hr hb (hx σ) I1 (.cons rfl .nil) q))
end
/-- o.m(..) of an object of the class c -/
def eMeth (c m : Str) (F : Fn) (x : Ex) (as : List Arg) : Ex := eCall F (.ex (eK (isObj c m) x) :: as)
section
variable {X : Cx} {L : Hp} {W : WX} {k : Nat} {f : Addr} {fd : FuncData} {ps : List Str} {c m : Str} {apos pos : Pos} {e o : Expr} {es : List Expr} {x : Ex} {as : List Arg} {F : Fn}
theorem tE_meth {K : PySem.W.Frag} {σ : St} {H : Hp} {Q : VK} (h : tE K L W (eMeth c m F x as) σ H Q) : tMethV (He.ga K c) m (spF K (false :: iops as) F) (WE W) (tE K L W x) (tAc K L W as) σ H Q :=
  tE_K isObj_at (tAc_ex (tE_call h))
theorem pure_meth (hx : Pure x) (ha : ∀ x, Arg.ex x ∈ as → Pure x) : Pure (eMeth c m F x as) := pure_call fun y hy => by
  rcases List.mem_cons.mp hy with z | z
  · cases z; exact pure_K hx
  · exact ha y z
theorem se_meth {pl : Sem Bool} (c : Str) (ho : SE X L W o x) (hc : Cls X.K (He.ga X.K c)) (hm : Meth X.K (He.ga X.K c) m f) (FO : FnOk X.prog X.w X.K X.mg X.base (L2.CX X.prog X.w) k f fd ps (spF X.K (false :: iops as) F)) (hr : Room k X.A) (tk : Takes X W) (hb : Binds X.K fd ps []) (ha : SC X L W (e :: es) as)
    (hst : starEach (e :: es) X.env = (false, eval e X.env) :: starEach es X.env := by rfl) (hpl : (backTo pos (starEach es X.env)).any (·.1) = false := by rfl)
    (ht : eval (.Call (.Attribute o m apos) (e :: es) [] pos) X.env = (do
      let ov ← eval o X.env
      standAt apos.atName
      let (f, first) ← holding [ov] (getMethod ov m pl)
      callWith pos f first (backTo pos (starEach (e :: es) X.env)) (backToKw pos (keywordEach [] X.env))) := by rfl) : SE X L W (.Call (.Attribute o m apos) (e :: es) [] pos) (eMeth c m F x as) :=
  ⟨(pe_methV ho.run hc hm FO hr hb (fun σ => passAt tk σ) ha.run hst hpl ht).imp fun _ _ _ h => tE_meth h, pure_meth ho.pu ha.pu⟩
theorem se_meth0 {pl : Sem Bool} (c : Str) (ho : SE X L W o x) (hc : Cls X.K (He.ga X.K c)) (hm : Meth X.K (He.ga X.K c) m f) (FO : FnOk X.prog X.w X.K X.mg X.base (L2.CX X.prog X.w) k f fd ps (spF X.K [false] F)) (hr : Room k X.A) (tk : Takes X W) (hb : Binds X.K fd ps [])
    (ht : eval (.Call (.Attribute o m apos) [] [] pos) X.env = (do
      let ov ← eval o X.env
      standAt apos.atName
      let (f, first) ← holding [ov] (getMethod ov m pl)
      callWith pos f first (backTo pos (starEach [] X.env)) (backToKw pos (keywordEach [] X.env))) := by rfl) : SE X L W (.Call (.Attribute o m apos) [] [] pos) (eMeth c m F x []) :=
  ⟨(pe_methV0 ho.run hc hm FO hr hb (fun σ => passAt tk σ) ht).imp fun _ _ _ h => by
    have h := tE_meth h
    exact h.mono fun v H1 q => ⟨q.1, by
      obtain ⟨B, Fr, ρ, ok, st, z⟩ := q.2
      exact z [] H1 Fr rfl trivial (Sub.refl _) (fun _ => Sub.refl _) st ok⟩, pure_meth ho.pu fun _ h => by cases h⟩
end
/-! ### properties -/
/-- nothing is let out -/
def eNx (x : Ex) : Ex := ⟨x.pu, fun ρ => match x.f ρ with
  | .exc _ _ => .stuck
  | o => o⟩
theorem tE_nx {K : PySem.W.Frag} {L : Hp} {W : WX} {x : Ex} {σ : St} {H : Hp} {Q : VK} (h : tE K L W (eNx x) σ H Q) : tE K L noX x σ H Q := by
  obtain ⟨B, Fr, ρ, ok, st, h⟩ := h
  refine ⟨B, Fr, ρ, ok, st, ?_⟩
  unfold eNx at h
  dsimp only at h
  cases e : x.f ρ with
  | exc ex r => rw [e] at h; exact h.elim
  | stuck => rw [e] at h; exact h
  | ok r => rw [e] at h; exact h
theorem pure_nx {x : Ex} (h : Pure x) : Pure (eNx x) := fun pu ρ r e => by
  unfold eNx at e
  dsimp only at e
  cases e1 : x.f ρ with
  | exc ex r => rw [e1] at e; cases e
  | stuck => rw [e1] at e; cases e
  | ok q => rw [e1] at e; exact h pu ρ r (e1.trans e)
def eProp (c f : Str) (F : Fn) (x : Ex) : Ex := eNx (eCall F [.ex (eK (isObj c f) x)])
section
variable {X : Cx} {L : Hp} {W : WX} {k : Nat} {p g : Addr} {fd : FuncData} {ps : List Str} {c f : Str} {pos : Pos} {e : Expr} {x : Ex} {F : Fn}
theorem se_prop (c : Str) (he : ∀ W, SE X L W e x) (hc : Cls X.K (He.ga X.K c)) (hp : PropOf X.K (He.ga X.K c) f p g) (FO : FnOk X.prog X.w X.K X.mg X.base (L2.CX X.prog X.w) k g fd ps (spF X.K [false] F)) (hr : Room (k + 1) X.A) (hb : Binds X.K fd ps [])
    (hab : attributeBase e f X.env (eval e X.env) = eval e X.env := by rfl) : SE X L W (.Attribute e f pos) (eProp c f F x) := by
  refine ⟨(pe_prop (E := fun _ _ _ => False) (he noX).run hc hp FO hr hb .nil (fun _ _ _ _ _ _ _ ⟨_, _, _, _, _, _, _, _, _, _, _, _, z⟩ => z.elim) hab).imp fun σ H Q h => ?_, pure_nx (pure_call fun y hy => by
    rcases List.mem_cons.mp hy with z | z
    · cases z; exact pure_K (he W).pu
    · cases z)⟩
  have h1 := tE_K isObj_at (tAc_ex (tE_call (tE_nx h)))
  refine h1.mono fun v H1 q => ?_
  obtain ⟨⟨a, dx, fs, rfl, ea, _⟩, B, Fr, ρ, ok, st, z⟩ := q
  exact ⟨a, dx, fs, rfl, ea, z [] H1 Fr rfl trivial (Sub.refl _) (fun _ => Sub.refl _) st ok⟩
end
end Ev

/-! C17: objects are made. -/
namespace Ev
open PySem PySem.Spec L2
open PyProof.Rows hiding St

/-- the slots one further on -/
def upA : List Arg → List Arg
  | [] => []
  | .ex x :: as => .ex x :: upA as
  | .sl i b :: as => .sl (i + 1) b :: upA as
/-- C(..): the new object, as __init__ leaves it -/
def eMake (c : Str) (F : Fn) (as : List Arg) : Ex := ⟨false, fun ρ => (evc as ρ).bind fun r => match passA (hasIo as) as r.1 with
  | none => .stuck
  | some ds => match F (.obj .own c [] [] :: ds) with
    | .ok (.non, o :: os) => if o.isOwn = true then match backA as r.1 os r.2 with
        | some ρ' => .ok (o, ρ')
        | none => .stuck
      else .stuck
    | .ok _ => .stuck
    | .exc e (o :: os) => if o.isOwn = true then match backA as r.1 os r.2 with
        | some ρ' => .exc e ρ'
        | none => .stuck
      else .stuck
    | .exc _ [] => .stuck
    | .stuck => .stuck⟩
section
variable {K : PySem.W.Frag} {L B Fr H : Hp} {W : WX}
theorem Slots.up : ∀ {as : List Arg} {vs : List V} {σ : St} {o : Option V}, Slots as vs σ → Slots (upA as) vs (o :: σ)
  | [], [], _, _, _ => trivial
  | [], _ :: _, _, _, h => False.elim h
  | .ex _ :: _, [], _, _, h => False.elim h
  | .sl _ _ :: _, [], _, _, h => False.elim h
  | .ex _ :: as, _ :: vs, _, _, h => Slots.up (as := as) h
  | .sl _ _ :: as, _ :: vs, _, _, h => ⟨by simpa using h.1, Slots.up (as := as) h.2⟩
theorem passA_up {io : Bool} : ∀ {as : List Arg} {ds : List D}, passA io (upA as) ds = passA io as ds
  | [], [] => rfl
  | [], _ :: _ => rfl
  | .ex _ :: _, [] => rfl
  | .sl _ _ :: _, [] => rfl
  | .ex x :: as, d :: ds => by
    show (passD io (.ex x) d).bind (fun d' => (passA io (upA as) ds).map (d' :: ·)) = (passD io (.ex x) d).bind fun d' => (passA io as ds).map (d' :: ·)
    rw [passA_up]
  | .sl i b :: as, d :: ds => by
    show (passD io (.sl (i + 1) b) d).bind (fun d' => (passA io (upA as) ds).map (d' :: ·)) = (passD io (.sl i b) d).bind fun d' => (passA io as ds).map (d' :: ·)
    rw [passA_up]
    rfl
theorem hasIo_up : ∀ {as : List Arg}, hasIo (upA as) = hasIo as
  | [] => rfl
  | .ex _ :: as => hasIo_up (as := as)
  | .sl _ false :: as => hasIo_up (as := as)
  | .sl _ true :: _ => rfl
theorem iops_up : ∀ as : List Arg, iops (upA as) = iops as
  | [] => rfl
  | .ex _ :: as => congrArg (false :: ·) (iops_up as)
  | .sl _ b :: as => congrArg (b :: ·) (iops_up as)
theorem backA_up : ∀ {as : List Arg} {ds os ρ ρ' : List D} {o : D}, backA as ds os ρ = some ρ' → backA (upA as) ds os (o :: ρ) = some (o :: ρ')
  | [], [], [], ρ, ρ', o, e => by cases e; rfl
  | [], [], _ :: _, _, _, _, e => by cases e
  | [], _ :: _, _, _, _, _, e => by cases e
  | .ex _ :: _, [], _, _, _, _, e => by cases e
  | .sl _ false :: _, [], _, _, _, _, e => by cases e
  | .sl _ true :: _, [], _, _, _, _, e => by cases e
  | .ex x :: as, d :: ds, os, ρ, ρ', o, e => backA_up (as := as) (ds := ds) (os := os) (ρ := ρ) e
  | .sl i false :: as, d :: ds, os, ρ, ρ', o, e => backA_up (as := as) (ds := ds) (os := os) (ρ := ρ.set i d) e
  | .sl i true :: as, d :: ds, [], ρ, ρ', o, e => by cases e
  | .sl i true :: as, d :: ds, o' :: os, ρ, ρ', o, e => by
    have e : (if o'.isOwn = true then backA as ds os (ρ.set i o') else none) = some ρ' := e
    show (if o'.isOwn = true then backA (upA as) ds os ((o :: ρ).set (i + 1) o') else none) = some (o :: ρ')
    by_cases c : o'.isOwn = true
    · rw [if_pos c] at e ⊢
      exact backA_up (as := as) e
    · rw [if_neg c] at e; cases e
/-- an entry without data in between -/
theorem Ok.put {vs : List V} {ds : List D} {σ : St} {ρ : List D} {o : Option V} (x : Ok K L B Fr H (vs.map some ++ σ) (ds ++ ρ)) (hl : vs.length = ds.length) : Ok K L B Fr H (vs.map some ++ (o :: σ)) (ds ++ (.unset :: ρ)) := by
  obtain ⟨F, r, nd, k⟩ := x.rep
  obtain ⟨Fs, F2, e, ra, ro⟩ := RepA.of r hl
  exact ⟨x.fr, x.br, x.lb, x.dj, Fs.flatten ++ ([] ++ F2), ra.to ⟨[], F2, rfl, .inl ⟨rfl, rfl⟩, ro⟩, by rw [List.nil_append, ← e]; exact nd, fun a ha => k a (by rw [e]; exact ha)⟩
theorem tE_make {c : Str} {F : Fn} {as : List Arg} {σ : St} {H : Hp} {Q : VK} (h : tE K L W (eMake c F as) σ H Q) :
    tAc K L W as σ H fun vs H1 => ∀ x dx, H1 x = none → H1 dx = none → dx ≠ x → spF K (true :: iops as) F (.ref x :: vs) (upd (upd H1 dx (.own x)) x (.ins (He.ga K c) dx [])) (fun v H2 => v = .non ∧ Q (.ref x) H2) (WE W σ) := by
  obtain ⟨B, Fr, ρ, ok, st, h⟩ := h
  refine ⟨B, Fr, ρ, ok, st, ?_⟩
  unfold eMake at h
  dsimp only at h
  cases e1 : evc as ρ with
  | exc ex r => rw [e1] at h; exact h
  | stuck => rw [e1] at h; exact h
  | ok r =>
    rw [e1, Out.bind_ok] at h
    intro vs H1 Fr1 hl hs sf pu st1 ok1 x dx hx hdx hne
    cases e2 : passA (hasIo as) as r.1 with
    | none => rw [e2] at h; exact h.elim
    | some ds =>
      rw [e2] at h
      dsimp only at h
      -- the new object
      have s1 : Sub H1 (upd H1 dx (.own x)) := sub_upd hdx
      have hx2 : upd H1 dx (.own x) x = none := by rw [upd_ne (Ne.symm hne)]; exact hx
      have s2 : Sub H1 (upd (upd H1 dx (.own x)) x (.ins (He.ga K c) dx [])) := s1.trans (sub_upd hx2)
      have okn : Ok K L B Fr1 (upd (upd H1 dx (.own x)) x (.ins (He.ga K c) dx [])) (some (.ref x) :: (vs.map some ++ σ)) (.obj .own c [] [] :: (r.1 ++ r.2)) :=
        (ok1.grow s1).newO hx2 ⟨x, dx, [], rfl, rfl, upd_same, rfl, trivial⟩
      have ok2 : Ok K L B Fr1 (upd (upd H1 dx (.own x)) x (.ins (He.ga K c) dx [])) (((V.ref x) :: vs).map some ++ (some (.ref x) :: σ)) ((.obj .own c [] [] :: r.1) ++ (.unset :: r.2)) :=
        Ok.put (vs := .ref x :: vs) (ds := .obj .own c [] [] :: r.1) okn (congrArg Nat.succ hl)
      have hs2 : Slots (.sl 0 true :: upA as) (.ref x :: vs) (some (.ref x) :: σ) := ⟨rfl, hs.up⟩
      have e3 : passA (hasIo as) (.sl 0 true :: upA as) (.obj .own c [] [] :: r.1) = some (.obj .own c [] [] :: ds) := by
        show (passD (hasIo as) (.sl 0 true) (.obj .own c [] [])).bind (fun d' => (passA (hasIo as) (upA as) r.1).map (d' :: ·)) = _
        rw [passA_up, e2]
        rfl
      obtain ⟨B', okc, _, back⟩ := call_ok ok2 (show stbs (.unset :: r.2) = true from st1) (congrArg Nat.succ hl) hs2 e3 fun z Fs ra a m ws hw => by
        cases Fs with
        | nil => cases m
        | cons F Fs =>
          have m : a ∈ F ++ ioF (upA as) Fs := m
          rw [io_none (hasIo_up.trans z), List.append_nil] at m
          rcases ra.1 with ⟨u, _⟩ | ⟨w, ew, a', dx', fvs', ea, eF, q, _⟩
          · cases u
          · cases ew
            cases ea
            rw [eF] at m
            rw [List.mem_singleton.mp m, q] at hw
            cases hw
      refine ⟨by simp [iops_len, hs.len], B', Fr1, _, okc, passA_stb e3, ?_⟩
      have bk : ∀ {Fr' H' : Hp} {o : D} {os ρ' : List D}, Sub Fr1 Fr' → o.isOwn = true → backA as r.1 os r.2 = some ρ' → Ok K B' B' Fr' H' ((Ev.pick (true :: iops as) (V.ref x :: vs)).map some) (o :: os) → Ok K L B Fr' H' (some (.ref x) :: σ) (o :: ρ') := fun {Fr' H' o os ρ'} sF ho eb okr => by
        have eb2 : backA (.sl 0 true :: upA as) (.obj .own c [] [] :: r.1) (o :: os) (.unset :: r.2) = some (o :: ρ') := by
          show (if o.isOwn = true then backA (upA as) r.1 os ((.unset :: r.2).set 0 o) else none) = _
          rw [if_pos ho]
          exact backA_up eb
        exact back Fr' H' [] [] (o :: os) (o :: ρ') sF rfl (fun _ h => by cases h) (by show Ok K B' B' Fr' H' ((Ev.pick (true :: iops (upA as)) (V.ref x :: vs)).map some) (o :: os); rw [iops_up]; exact okr) eb2
      cases e4 : F (.obj .own c [] [] :: ds) with
      | stuck => rw [e4] at h; exact h.elim
      | exc ex os0 =>
        rw [e4] at h
        cases os0 with
        | nil => exact h.elim
        | cons o os =>
          dsimp only at h ⊢
          by_cases co : o.isOwn = true
          · rw [if_pos co] at h
            cases e5 : backA as r.1 os r.2 with
            | none => rw [e5] at h; exact h.elim
            | some ρ' =>
              rw [e5] at h
              intro cls dx' H' Fr' sF okr xa
              exact h cls dx' H' Fr' (sf.trans sF) (backA_stb e2 e5 st1) (bk sF co e5 okr).pop xa
          · rw [if_neg co] at h; exact h.elim
      | ok q =>
        obtain ⟨d, os0⟩ := q
        rw [e4] at h
        cases d with
        | non =>
          cases os0 with
          | nil => exact h.elim
          | cons o os =>
            dsimp only at h ⊢
            by_cases co : o.isOwn = true
            · rw [if_pos co] at h
              cases e5 : backA as r.1 os r.2 with
              | none => rw [e5] at h; exact h.elim
              | some ρ' =>
                rw [e5] at h
                refine ⟨rfl, fun v H' Fr' sF okr => ⟨okr.topF rfl, h _ H' Fr' (sf.trans sF) (fun z => nomatch z) (backA_stb e2 e5 st1) (bk sF co e5 okr.pop)⟩⟩
            · rw [if_neg co] at h; exact h.elim
        | _ => exact h.elim
end
section
variable {X : Cx} {CX : CXT} {k : Nat} {C f : Addr} {fd : FuncData} {ps : List Str} {sp : Sp} {E : St → XK} {x : Str} {p pos : Pos} {e : Expr} {es : List Expr} {t : TA}
theorem run_makeS {pins : List (Addr × Obj)} {σ : St} {H : Hp} {s : Shared} {Q : VK} {us : List Value} {vs : List V} (M : Mk X.K C f) (F : FnOk X.prog X.w X.K X.mg X.base CX k f fd ps sp) (hr : Room (k + 1) X.A) (hb : Binds X.K fd ps []) (hx : PassesAt CX X σ (E σ)) (I : Inv X pins σ H s) (r : Vals vs us)
    (h : ∀ x dx, H x = none → H dx = none → dx ≠ x → sp (.ref x :: vs) (upd (upd H dx (.own x)) x (.ins C dx [])) (fun v H2 => v = .non ∧ Q (.ref x) H2) (E σ)) : wpAny (model X.prog X.w) X.A (call (.ref C) us) (EP X pins σ Q) X.xe s := by
  have hq := h (s.heap.objs.size + 1) s.heap.objs.size (I.hok.fresh (Nat.le_succ _)) (I.hok.fresh (Nat.le_refl _)) (Nat.ne_of_lt (Nat.lt_succ_self _))
  have I2 := Inv.made (C := C) I
  have r2 : Vals (V.ref (s.heap.objs.size + 1) :: vs) (Value.ref (s.heap.objs.size + 1) :: us) := .cons rfl r
  have hl : (Value.ref (s.heap.objs.size + 1) :: us).length = ps.length := (r2.length.symm).trans (F.len _ _ _ _ hq)
  have b0 := hb _ (Value.ref (s.heap.objs.size + 1) :: us) I2.kIn (by rw [List.append_nil]; exact hl)
  rw [List.append_nil] at b0
  have go := F.run (X.A.under (.builtin "type.__call__" ⟨.ref C :: us, []⟩)) X.stack _ _ ⟨Value.ref (s.heap.objs.size + 1) :: us, []⟩ _ _ _ (E σ) (hr.make C us []) (I2.env0.make C us []) b0 r2 hq
  refine wpAny_call (make_map (f := f) I.kIn M.makes M.init (beq_iff_eq.mp M.fn) (codeAny_mono go ?_))
  rintro (e | fl) s' hq'
  · exact hx pins _ _ e s' I2 hq'
  · cases fl with
    | ret u =>
      obtain ⟨v, H', I3, rv, rfl, q3⟩ := I2.after hq'
      exact ⟨rv, ⟨V.ref (s.heap.objs.size + 1), H', I3, rfl, q3⟩⟩
    | _ => exact hq'.elim
def tMakeS (C : Addr) (sp : Sp) (E : St → XK) (t : TA) : TE := fun σ H Q => t σ H fun vs H1 => ∀ x dx, H1 x = none → H1 dx = none → dx ≠ x → sp (.ref x :: vs) (upd (upd H1 dx (.own x)) x (.ins C dx [])) (fun v H2 => v = .non ∧ Q (.ref x) H2) (E σ)
theorem pe_makeS (M : Mk X.K C f) (F : FnOk X.prog X.w X.K X.mg X.base CX k f fd ps sp) (hr : Room (k + 1) X.A) (hg : Gl X x) (hm : X.mg x = some (.ref C)) (hb : Binds X.K fd ps []) (hx : ∀ σ, PassesAt CX X σ (E σ)) (ha : PA X (e :: es) t)
    (hdb : (x == ("__debug__" : Str)) = false := by decide) (he : starEach (e :: es) X.env = (false, eval e X.env) :: starEach es X.env := by rfl) (hpl : (backTo pos (starEach es X.env)).any (·.1) = false := by rfl) : PE X (.Call (.Name x p) (e :: es) [] pos) (tMakeS C sp E t) := by
  constructor
  intro pins s σ H Q I h
  refine wpAny_Call_Name_kw (ld_glob I hg hm (PySem.W.callWith_K (h₀ := X.base) I.ok.mod.kin M.kp (thn (ha.run pos pins s σ H _ I h) ?_) he hpl) hdb)
  rintro us s1 ⟨vs, H1, I1, r, q⟩
  exact ⟨I1.kIn, run_makeS M F hr hb (hx σ) I1 r q⟩
end
section
variable {X : Cx} {L : Hp} {W : WX} {k : Nat} {f : Addr} {fd : FuncData} {ps : List Str} {c : Str} {p pos : Pos} {e : Expr} {es : List Expr} {as : List Arg} {F : Fn}
theorem se_make (M : Mk X.K (He.ga X.K c) f) (FO : FnOk X.prog X.w X.K X.mg X.base (L2.CX X.prog X.w) k f fd ps (spF X.K (true :: iops as) F)) (hr : Room (k + 1) X.A) (tk : Takes X W) (hg : Gl X c) (hm : X.mg c = some (.ref (He.ga X.K c))) (hb : Binds X.K fd ps []) (ha : SC X L W (e :: es) as)
    (hdb : (c == ("__debug__" : Str)) = false := by decide) (he : starEach (e :: es) X.env = (false, eval e X.env) :: starEach es X.env := by rfl) (hpl : (backTo pos (starEach es X.env)).any (·.1) = false := by rfl) : SE X L W (.Call (.Name c p) (e :: es) [] pos) (eMake c F as) :=
  ⟨(pe_makeS M FO hr hg hm hb (fun σ => passAt tk σ) ha.run hdb he hpl).imp fun _ _ _ h => tE_make h, fun z => nomatch z⟩
end
end Ev

/-! C18: what is read of the state behind the top; what is known of defs. -/
namespace Ev
open PySem PySem.Spec L2
open PyProof.Rows hiding St
open PySem.W (Frag)

/-! ### where a def lies -/
inductive Loc' where
  | top (x : Str)
  | met (c m : Str)
  | get (c f : Str)
/-- the getter of a property -/
def getter (K : Frag) (c f : Str) : Addr := match PySem.W.recIn K (He.ma K (He.ga K c) f) "property" with
  | some (.ref g :: _) => g
  | _ => 0
def Loc'.adr (K : Frag) : Loc' → Addr
  | .top x => He.ga K x
  | .met c m => He.ma K (He.ga K c) m
  | .get c f => getter K c f
structure DefE where
  loc : Loc'
  name : Str
  qual : Str
  params : Arguments
  body : List Stmt
  scope : Scope
abbrev FnT : Type := Option (Str × Str × (Arguments × FuncBody) × (Scope × Addr) × List (Str × Addr) × (Value × Addr))
def DefE.got (K : Frag) (d : DefE) : FnT := match K.lookup (d.loc.adr K) with
  | some ⟨_, _, .func g, _⟩ => some (g.name, g.qualname, (g.params, g.body), (g.scope, g.globals), g.closure, (g.defaults, g.builtins))
  | _ => none
def DefE.due (d : DefE) : FnT := some (d.name, d.qual, (d.params, .stmts d.body), (d.scope, mainGlobals), [], (.none, builtinsNs))
def DefE.fine (K : Frag) (d : DefE) : Bool := match K.lookup (d.loc.adr K) with
  | some ⟨_, _, .func g, _⟩ => PySem.W.codeIn K g.code d.qual && PySem.W.keepIn K (.ref (d.loc.adr K))
  | _ => false
theorem DefE.funD {K : Frag} {d : DefE} (e : d.got K = d.due) (c : d.fine K = true) : ∃ fd, FunD K d.name d.qual d.params d.body d.scope [] [] (d.loc.adr K) fd := by
  unfold DefE.got at e
  unfold DefE.fine at c
  cases q : K.lookup (d.loc.adr K) with
  | none => rw [q] at c; cases c
  | some o =>
    obtain ⟨oc, od, dt, osl⟩ := o
    rw [q] at c e
    cases dt with
    | func fd =>
      obtain ⟨n1, n2, n3, n4, n5, n6, n7, n8, n9, n10, n11, n12, n13, n14, n15⟩ := fd
      have e2 : (some (n1, n2, (n3, n4), (n5, n6), n7, (n8, n15)) : FnT) = some (d.name, d.qual, (d.params, .stmts d.body), (d.scope, mainGlobals), [], (.none, builtinsNs)) := e
      simp only [Option.some.injEq, Prod.mk.injEq] at e2
      obtain ⟨h1, h2, ⟨h3, h4⟩, ⟨h5, h6⟩, h7, h8, h9⟩ := e2
      subst h1 h2 h3 h4 h5 h6 h7 h8 h9
      obtain ⟨k1, k2⟩ := Bool.and_eq_true_iff.mp c
      exact ⟨_, ⟨oc, od, .none, n9, n10, n11, n12, n13, n14, osl, rfl, q, k1, .inl ⟨rfl, rfl⟩, .inl rfl⟩, k2⟩
    | _ => cases c
/-! ### facts -/
inductive Fc where
  | of (f : He.Fa)
  | prop (c f : Str)
  | ccon (c f : Str) (i : Int)
def Fc.ok (K : Frag) : Fc → Bool
  | .of f => f.ok K
  | .prop c f => He.eqO (PySem.W.findIn K (.ref (He.ga K c)) f) (some (some (.ref (He.ma K (He.ga K c) f)))) && (He.eqO (PySem.W.specialIn K (.ref (He.ma K (He.ga K c) f)) "__get__") (some (some (.builtin "property.__get__"))) &&
      (decide (PySem.W.takesIn K (.ref (He.ma K (He.ga K c) f)) = some true) && (match PySem.W.recIn K (He.ma K (He.ga K c) f) "property" with
        | some (.ref g :: _) => decide (g = getter K c f)
        | _ => false)))
  | .ccon c f i => PySem.W.readsIn K (He.ga K c) (.type "type") && (He.eqO (PySem.W.specialIn K (.ref (He.ga K c)) "__getattribute__") (some (some (.builtin "type.__getattribute__"))) && (match PySem.W.findCls K (.ref (He.ga K c)) (.type "type") f with
      | some (.val (.int j _)) => decide (j = i)
      | _ => false))
theorem prop_of {K : Frag} {c f : Str} (h : (Fc.prop c f).ok K = true) : PropOf K (He.ga K c) f (He.ma K (He.ga K c) f) (getter K c f) := by
  obtain ⟨h1, h⟩ := Bool.and_eq_true_iff.mp h
  obtain ⟨h2, h⟩ := Bool.and_eq_true_iff.mp h
  obtain ⟨h3, h4⟩ := Bool.and_eq_true_iff.mp h
  refine ⟨He.eqO_ok h1, He.eqO_ok h2, of_decide_eq_true h3, ?_⟩
  split at h4
  · rename_i g rest e
    have := of_decide_eq_true h4
    subst this
    exact ⟨rest, e⟩
  · cases h4
theorem ccon_of {K : Frag} {c f : Str} {i : Int} (h : (Fc.ccon c f i).ok K = true) : ClX.CRead K (He.ga K c) (.type "type") ∧ ∃ t, ClX.CVal K (He.ga K c) (.type "type") f (.int i) (.int i t) := by
  obtain ⟨h1, h⟩ := Bool.and_eq_true_iff.mp h
  obtain ⟨h2, h3⟩ := Bool.and_eq_true_iff.mp h
  refine ⟨⟨h1, He.eqO_ok h2⟩, ?_⟩
  split at h3
  · rename_i j t e
    have := of_decide_eq_true h3
    subst this
    exact ⟨t, e, t, rfl⟩
  · cases h3
/-! ### the Hook -/
abbrev AlE : Type := Bool × List FnT
def obsX (fc : List Fc) (fn : List DefE) (K : Frag) : AlE := ((fc.all fun f => f.ok K) && fn.all fun d => d.fine K, fn.map fun d => d.got K)
def valX (fn : List DefE) : AlE := (true, fn.map DefE.due)
def SaysX (fc : List Fc) (fn : List DefE) (K : Frag) : Prop := obsX fc fn K = valX fn
def lookX (n : Nat) (fc : List Fc) (fn : List DefE) (g : Addr → Option Obj) : AlE := obsX fc fn (He.frG g (cStatics :: He.asD g n))
def hookX (n : Nat) (fc : List Fc) (fn : List DefE) : PySem.W.Hook where
  α := AlE
  obs := fun s => lookX n fc fn s.heap.get?
  val := fun _ => valX fn
  says := fun _ h => ∃ K : Frag, K.In h ∧ SaysX fc fn K
  of := fun _ _ e => ⟨_, He.frG_in, e⟩
  keeps := fun _ _ _ ⟨K, hK, c⟩ k => ⟨K, PySem.W.Frag.In.keeps hK k, c⟩
theorem lookX_eq {n : Nat} {fc : List Fc} {fn : List DefE} {g : Addr → Option Obj} {s : Shared} (h : ∀ a, g a = s.heap.get? a) : lookX n fc fn g = (hookX n fc fn).obs s := congrArg (lookX n fc fn) (funext h)
section
variable {fc : List Fc} {fn : List DefE} {K : Frag}
theorem SaysX.fact (c : SaysX fc fn K) (i : Nat) {f : Fc} (h : fc[i]? = some f := by rfl) : f.ok K = true :=
  List.all_eq_true.mp (Bool.and_eq_true_iff.mp (show ((fc.all fun f => f.ok K) && fn.all fun d => d.fine K) = true from congrArg Prod.fst c)).1 f (List.mem_of_getElem? h)
theorem SaysX.def_ (c : SaysX fc fn K) (i : Nat) {d : DefE} (h : fn[i]? = some d := by rfl) : ∃ fd, FunD K d.name d.qual d.params d.body d.scope [] [] (d.loc.adr K) fd := by
  refine DefE.funD ?_ (List.all_eq_true.mp (Bool.and_eq_true_iff.mp (show ((fc.all fun f => f.ok K) && fn.all fun d => d.fine K) = true from congrArg Prod.fst c)).2 d (List.mem_of_getElem? h))
  have e : (fn.map fun d => d.got K)[i]? = (fn.map DefE.due)[i]? := congrArg (fun z : AlE => z.2[i]?) c
  rw [List.getElem?_map, List.getElem?_map, h] at e
  exact Option.some.inj e
end
/-! ### what a def does -/
section
variable (P : Program) (w : World) (K : Frag) (mg : Str → Option Value) (base : Heap)
/-- a def of the module -/
def FnAt (k : Nat) (x : Str) (iop : List Bool) (F : Fn) : Prop := ∃ fd ps, FnOk P w K mg base (L2.CX P w) k (He.ga K x) fd ps (spF K iop F) ∧ mg x = some (.ref (He.ga K x)) ∧ PySem.W.keepIn K (.ref (He.ga K x)) = true ∧ Binds K fd ps []
/-- a method -/
def MtAt (k : Nat) (c m : Str) (iop : List Bool) (F : Fn) : Prop := ∃ f fd ps, Cls K (He.ga K c) ∧ Meth K (He.ga K c) m f ∧ FnOk P w K mg base (L2.CX P w) k f fd ps (spF K iop F) ∧ Binds K fd ps []
/-- a property -/
def PrAt (k : Nat) (c f : Str) (F : Fn) : Prop := ∃ p g fd ps, Cls K (He.ga K c) ∧ PropOf K (He.ga K c) f p g ∧ FnOk P w K mg base (L2.CX P w) k g fd ps (spF K [false] F) ∧ Binds K fd ps []
/-- a class that is made -/
def MkAt (k : Nat) (c : Str) (iop : List Bool) (F : Fn) : Prop := ∃ f fd ps, Mk K (He.ga K c) f ∧ FnOk P w K mg base (L2.CX P w) k f fd ps (spF K (true :: iop) F) ∧ mg c = some (.ref (He.ga K c)) ∧ Binds K fd ps []
end
section
variable {X : Cx} {L : Hp} {W : WX} {k j : Nat} {x c m : Str} {p pos apos : Pos} {e o : Expr} {es : List Expr} {as : List Arg} {y : Ex} {F : Fn}
theorem c_fn (f : FnAt X.prog X.w X.K X.mg X.base k x (iops as) F) (hr : Room j X.A) (hj : k ≤ j) (tk : Takes X W) (ha : SC X L W (e :: es) as) (hg : Gl X x := by rfl)
    (hdb : (x == ("__debug__" : Str)) = false := by decide) (he : starEach (e :: es) X.env = (false, eval e X.env) :: starEach es X.env := by rfl) (hpl : (backTo pos (starEach es X.env)).any (·.1) = false := by rfl) : SE X L W (.Call (.Name x p) (e :: es) [] pos) (eCall F as) := by
  obtain ⟨fd, ps, h1, h2, h3, h4⟩ := f
  exact se_call h1 (hr.mono hj) tk hg h2 h3 h4 ha hdb he hpl
theorem c_mt {pl : Sem Bool} (f : MtAt X.prog X.w X.K X.mg X.base k c m (false :: iops as) F) (hr : Room j X.A) (hj : k ≤ j) (tk : Takes X W) (ho : SE X L W o y) (ha : SC X L W (e :: es) as)
    (hst : starEach (e :: es) X.env = (false, eval e X.env) :: starEach es X.env := by rfl) (hpl : (backTo pos (starEach es X.env)).any (·.1) = false := by rfl)
    (ht : eval (.Call (.Attribute o m apos) (e :: es) [] pos) X.env = (do
      let ov ← eval o X.env
      standAt apos.atName
      let (f, first) ← holding [ov] (getMethod ov m pl)
      callWith pos f first (backTo pos (starEach (e :: es) X.env)) (backToKw pos (keywordEach [] X.env))) := by rfl) : SE X L W (.Call (.Attribute o m apos) (e :: es) [] pos) (eMeth c m F y as) := by
  obtain ⟨a, fd, ps, h0, h1, h2, h3⟩ := f
  exact se_meth c ho h0 h1 h2 (hr.mono hj) tk h3 ha hst hpl ht
theorem c_mt0 {pl : Sem Bool} (f : MtAt X.prog X.w X.K X.mg X.base k c m [false] F) (hr : Room j X.A) (hj : k ≤ j) (tk : Takes X W) (ho : SE X L W o y)
    (ht : eval (.Call (.Attribute o m apos) [] [] pos) X.env = (do
      let ov ← eval o X.env
      standAt apos.atName
      let (f, first) ← holding [ov] (getMethod ov m pl)
      callWith pos f first (backTo pos (starEach [] X.env)) (backToKw pos (keywordEach [] X.env))) := by rfl) : SE X L W (.Call (.Attribute o m apos) [] [] pos) (eMeth c m F y []) := by
  obtain ⟨a, fd, ps, h0, h1, h2, h3⟩ := f
  exact se_meth0 c ho h0 h1 h2 (hr.mono hj) tk h3 ht
theorem c_pr (f : PrAt X.prog X.w X.K X.mg X.base k c m F) (hr : Room j X.A) (hj : k + 1 ≤ j) (ho : ∀ W, SE X L W o y) (hab : attributeBase o m X.env (eval o X.env) = eval o X.env := by rfl) : SE X L W (.Attribute o m pos) (eProp c m F y) := by
  obtain ⟨p, g, fd, ps, h0, h1, h2, h3⟩ := f
  exact se_prop c ho h0 h1 h2 (hr.mono hj) h3 hab
theorem c_mk (f : MkAt X.prog X.w X.K X.mg X.base k c (iops as) F) (hr : Room j X.A) (hj : k + 1 ≤ j) (tk : Takes X W) (ha : SC X L W (e :: es) as) (hg : Gl X c := by rfl)
    (hdb : (c == ("__debug__" : Str)) = false := by decide) (he : starEach (e :: es) X.env = (false, eval e X.env) :: starEach es X.env := by rfl) (hpl : (backTo pos (starEach es X.env)).any (·.1) = false := by rfl) : SE X L W (.Call (.Name c p) (e :: es) [] pos) (eMake c F as) := by
  obtain ⟨a, fd, ps, h1, h2, h3, h4⟩ := f
  exact se_make h1 h2 (hr.mono hj) tk hg h3 h4 ha hdb he hpl
end
end Ev

/-! C19: truth as a value; short rules. -/
namespace Ev
open PySem PySem.Spec L2
open PyProof.Rows hiding St

def eAndV (x y : Ex) : Ex := ⟨x.pu && y.pu, fun ρ => (x.f ρ).bind fun r => match r.1 with
  | .bl true => y.f r.2
  | .bl false => .ok (.bl false, r.2)
  | _ => .stuck⟩
def eOrV (x y : Ex) : Ex := ⟨x.pu && y.pu, fun ρ => (x.f ρ).bind fun r => match r.1 with
  | .bl false => y.f r.2
  | .bl true => .ok (.bl true, r.2)
  | _ => .stuck⟩
def oNotV : List D → Option D
  | [.bl b] => some (.bl !b)
  | _ => none
theorem pure_andV {x y : Ex} (h1 : Pure x) (h2 : Pure y) : Pure (eAndV x y) := fun pu ρ r e => by
  have p := Bool.and_eq_true_iff.mp (show (x.pu && y.pu) = true from pu)
  unfold eAndV at e
  dsimp only at e
  cases e1 : x.f ρ with
  | exc ex r => rw [e1] at e; cases e
  | stuck => rw [e1] at e; cases e
  | ok q =>
    rw [e1, Out.bind_ok] at e
    have q2 := h1 p.1 ρ q e1
    split at e
    · rw [h2 p.2 _ _ e, q2]
    · injection e with e; rw [← e]; exact q2
    · cases e
theorem pure_orV {x y : Ex} (h1 : Pure x) (h2 : Pure y) : Pure (eOrV x y) := fun pu ρ r e => by
  have p := Bool.and_eq_true_iff.mp (show (x.pu && y.pu) = true from pu)
  unfold eOrV at e
  dsimp only at e
  cases e1 : x.f ρ with
  | exc ex r => rw [e1] at e; cases e
  | stuck => rw [e1] at e; cases e
  | ok q =>
    rw [e1, Out.bind_ok] at e
    have q2 := h1 p.1 ρ q e1
    split at e
    · rw [h2 p.2 _ _ e, q2]
    · injection e with e; rw [← e]; exact q2
    · cases e
section
variable {K : PySem.W.Frag} {L : Hp} {W : WX}
theorem tE_andV {x y : Ex} {σ : St} {H : Hp} {Q : VK} (h : tE K L W (eAndV x y) σ H Q) : tAndV (tE K L W x) (tE K L W y) σ H Q := by
  obtain ⟨B, Fr, ρ, ok, st, h⟩ := h
  refine ⟨B, Fr, ρ, ok, st, ?_⟩
  unfold eAndV at h
  dsimp only at h
  cases e : x.f ρ with
  | exc ex r => rw [e] at h; exact h
  | stuck => rw [e] at h; exact h
  | ok r =>
    rw [e, Out.bind_ok] at h
    obtain ⟨d, ρ1⟩ := r
    cases d with
    | bl b =>
      intro v H1 Fr1 sf pu st1 ok1
      have ev : v = .bl b := ok1.topF rfl
      subst ev
      refine ⟨b, rfl, ?_⟩
      cases b with
      | true =>
        rw [if_pos rfl]
        dsimp only at h
        refine ⟨B, Fr1, ρ1, ok1.pop, st1, ?_⟩
        cases e2 : y.f ρ1 with
        | exc ex r' => rw [e2] at h; exact Err.more h (Sub.refl _) ok.lb sf
        | stuck => rw [e2] at h; exact h
        | ok q => rw [e2] at h; exact fun v H2 Fr2 sf2 pu2 st2 ok2 => h v H2 Fr2 (sf.trans sf2) (fun z => (pu (Bool.and_eq_true_iff.mp z).1).trans (pu2 (Bool.and_eq_true_iff.mp z).2)) st2 ok2
      | false =>
        rw [if_neg Bool.false_ne_true]
        exact h _ H1 Fr1 sf (fun z => pu (Bool.and_eq_true_iff.mp z).1) st1 ok1
    | _ => exact h.elim
theorem tE_orV {x y : Ex} {σ : St} {H : Hp} {Q : VK} (h : tE K L W (eOrV x y) σ H Q) : tOrV (tE K L W x) (tE K L W y) σ H Q := by
  obtain ⟨B, Fr, ρ, ok, st, h⟩ := h
  refine ⟨B, Fr, ρ, ok, st, ?_⟩
  unfold eOrV at h
  dsimp only at h
  cases e : x.f ρ with
  | exc ex r => rw [e] at h; exact h
  | stuck => rw [e] at h; exact h
  | ok r =>
    rw [e, Out.bind_ok] at h
    obtain ⟨d, ρ1⟩ := r
    cases d with
    | bl b =>
      intro v H1 Fr1 sf pu st1 ok1
      have ev : v = .bl b := ok1.topF rfl
      subst ev
      refine ⟨b, rfl, ?_⟩
      cases b with
      | false =>
        rw [if_neg Bool.false_ne_true]
        dsimp only at h
        refine ⟨B, Fr1, ρ1, ok1.pop, st1, ?_⟩
        cases e2 : y.f ρ1 with
        | exc ex r' => rw [e2] at h; exact Err.more h (Sub.refl _) ok.lb sf
        | stuck => rw [e2] at h; exact h
        | ok q => rw [e2] at h; exact fun v H2 Fr2 sf2 pu2 st2 ok2 => h v H2 Fr2 (sf.trans sf2) (fun z => (pu (Bool.and_eq_true_iff.mp z).1).trans (pu2 (Bool.and_eq_true_iff.mp z).2)) st2 ok2
      | true =>
        rw [if_pos rfl]
        exact h _ H1 Fr1 sf (fun z => pu (Bool.and_eq_true_iff.mp z).1) st1 ok1
    | _ => exact h.elim
end
section
variable {X : Cx} {L : Hp} {W : WX} {a b c : Expr} {rest : List Expr} {x y z : Ex} {pos : Pos}
theorem se_one {op} (h : SE X L W a x) : SE X L W (.BoolOp op [a] pos) x := ⟨pe_one h.run, h.pu⟩
theorem se_and (h : SE X L W a x) (t : SE X L W (.BoolOp .And (b :: rest) pos) y) : SE X L W (.BoolOp .And (a :: b :: rest) pos) (eAndV x y) := ⟨(pe_and h.run t.run).imp fun _ _ _ q => tE_andV q, pure_andV h.pu t.pu⟩
theorem se_or (h : SE X L W a x) (t : SE X L W (.BoolOp .Or (b :: rest) pos) y) : SE X L W (.BoolOp .Or (a :: b :: rest) pos) (eOrV x y) := ⟨(pe_or h.run t.run).imp fun _ _ _ q => tE_orV q, pure_orV h.pu t.pu⟩
theorem oNotV_ok {K : PySem.W.Frag} : OpS K L oNotV (R1v fun x H Q => ∃ c, x = .bl c ∧ Q (.bl (!c)) H) := by
  intro B Fr H σ ρ ds vs Q d ok hl e q
  unfold oNotV at e
  split at e
  · rename_i b
    cases e
    obtain ⟨v, rfl, ok⟩ := ok1 ok hl
    exact ⟨_, rfl, b, ok.topF rfl, q _ H Fr (Sub.refl _) (Sub.refl _) (ok.pop.pushF rfl)⟩
  · cases e
theorem se_not (h : SE X L W a x) : SE X L W (.UnaryOp .Not a pos) (eOp oNotV [x]) := ⟨(pe_not h.run).imp fun _ _ _ z => (eOp_one oNotV_ok z).mono fun _ _ ⟨_, e, q⟩ => by cases e; exact q, eOp_pure (pure1 h.pu)⟩
def oNeg : List D → Option D
  | [.int i] => some (.int (-i))
  | _ => none
theorem oNeg_ok {K : PySem.W.Frag} : OpS K L oNeg (R1v (rU fun i => .int (-i))) := by
  intro B Fr H σ ρ ds vs Q d ok hl e q
  unfold oNeg at e
  split at e
  · rename_i b
    cases e
    obtain ⟨v, rfl, ok⟩ := ok1 ok hl
    exact ⟨_, rfl, b, ok.topF rfl, q _ H Fr (Sub.refl _) (Sub.refl _) (ok.pop.pushF rfl)⟩
  · cases e
theorem se_neg (h : SE X L W a x) : SE X L W (.UnaryOp .USub a pos) (eOp oNeg [x]) := se_un un_neg oNeg_ok h
end
/-! short forms -/
section
variable {X : Cx} {L : Hp} {W : WX} {a b c : Expr} {es : List Expr} {x y z : Ex} {xs : List Ex} {p pos : Pos} {fx : List Nat}
theorem q_add (ha : SE X L W a x) (hb : SE X L W b y) : SE X L W (.BinOp a .Add b pos) (eOp oAdd [x, y]) := se_bin op_add4 oAdd_ok ha hb
theorem q_sub (ha : SE X L W a x) (hb : SE X L W b y) : SE X L W (.BinOp a .Sub b pos) (eOp oSub [x, y]) := se_bin op_sub oSub_ok ha hb
theorem q_mul (ha : SE X L W a x) (hb : SE X L W b y) : SE X L W (.BinOp a .Mult b pos) (eOp oMul [x, y]) := se_bin op_mul2 oMul_ok ha hb
theorem q_mod (ha : SE X L W a x) (hb : SE X L W b y) : SE X L W (.BinOp a .Mod b pos) (eOp oMod [x, y]) := se_bin op_mod oMod_ok ha hb
theorem q_pow (ha : SE X L W a x) (hb : SE X L W b y) : SE X L W (.BinOp a .Pow b pos) (eOp oPow [x, y]) := se_bin op_pow oPow_ok ha hb
theorem q_lt (ha : SE X L W a x) (hb : SE X L W b y) : SE X L W (.Compare a [.Lt] [b] pos) (eOp oLt [x, y]) := se_cmp op_lt oLt_ok ha hb (nomark b)
theorem q_le (ha : SE X L W a x) (hb : SE X L W b y) : SE X L W (.Compare a [.LtE] [b] pos) (eOp oLe [x, y]) := se_cmp op_le oLe_ok ha hb (nomark b)
theorem q_gt (ha : SE X L W a x) (hb : SE X L W b y) : SE X L W (.Compare a [.Gt] [b] pos) (eOp oGt [x, y]) := se_cmp op_gt oGt_ok ha hb (nomark b)
theorem q_ge (ha : SE X L W a x) (hb : SE X L W b y) : SE X L W (.Compare a [.GtE] [b] pos) (eOp oGe [x, y]) := se_cmp op_ge oGe_ok ha hb (nomark b)
theorem q_eq (hu : X.A.units + 64 < cLine) (ha : SE X L W a x) (hb : SE X L W b y) : SE X L W (.Compare a [.Eq] [b] pos) (eOp oEq [x, y]) := se_cmp (op_eqb hu) oEqb_ok ha hb (nomark b)
theorem q_ne (hu : X.A.units + 64 < cLine) (ha : SE X L W a x) (hb : SE X L W b y) : SE X L W (.Compare a [.NotEq] [b] pos) (eOp oNe [x, y]) := se_cmp (op_neb hu) oEqb_ok ha hb (nomark b)
theorem q_is (ha : SE X L W a x) (hb : SE X L W b y) : SE X L W (.Compare a [.Is] [b] pos) (eOp (oIsN false) [x, y]) := se_cmp op_isNb oIsN_ok ha hb (nomark b)
theorem q_isn (ha : SE X L W a x) (hb : SE X L W b y) : SE X L W (.Compare a [.IsNot] [b] pos) (eOp (oIsN true) [x, y]) := se_cmp op_isnotNb oIsN_ok ha hb (nomark b)
theorem q_fdiv (ha : SE X L W a x) (hb : SE X L W b y) : SE X L W (.BinOp a .FloorDiv b pos) (eOp oFdiv [x, y]) := se_bin op_fdivW oFdiv_ok ha hb
theorem q_in (hu : X.A.units + 64 < cLine) (ha : SE X L W a x) (hb : SE X L W b y) (hm : behindInMarks .In b = false := by rfl) : SE X L W (.Compare a [.In] [b] pos) (eOp (oIn false) [x, y]) := se_cmp op_in_seq oIn_ok ha hb hm
theorem q_nin (hu : X.A.units + 64 < cLine) (ha : SE X L W a x) (hb : SE X L W b y) (hm : behindInMarks .NotIn b = false := by rfl) : SE X L W (.Compare a [.NotIn] [b] pos) (eOp (oIn true) [x, y]) := se_cmp op_notIn_seq oIn_ok ha hb hm
theorem o2_bl {C : Int → Int → Bool} {f : Int → Int → Bool} : ∀ ds d, o2 C (fun i j => .bl (f i j)) ds = some d → ∃ b, d = .bl b := fun ds d e => by
  unfold o2 at e
  split at e
  · exact ⟨_, (if_some e).2.symm⟩
  · cases e
theorem oEqb_bl {n : Bool} : ∀ ds d, oEqb n ds = some d → ∃ b, d = .bl b := fun ds d e => by
  unfold oEqb at e
  split at e
  · split at e
    · exact ⟨_, (if_some e).2.symm⟩
    · cases e
  · cases e
theorem oIsN_bl {n : Bool} : ∀ ds d, oIsN n ds = some d → ∃ b, d = .bl b := fun ds d e => by
  unfold oIsN at e
  split at e
  · cases e
  · cases e; exact ⟨_, rfl⟩
  · cases e
theorem oIn_bl {n : Bool} : ∀ ds d, oIn n ds = some d → ∃ b, d = .bl b := fun ds d e => by
  unfold oIn at e
  split at e
  · exact ⟨_, (if_some e).2.symm⟩
  · cases e
theorem t_lt (ha : SE X L W a x) (hb : SE X L W b y) : ST X L W (.Compare a [.Lt] [b] pos) (eOp oLt [x, y]) := st_cmp op_lt oLt_ok o2_bl ha hb (nomark b)
theorem t_le (ha : SE X L W a x) (hb : SE X L W b y) : ST X L W (.Compare a [.LtE] [b] pos) (eOp oLe [x, y]) := st_cmp op_le oLe_ok o2_bl ha hb (nomark b)
theorem t_gt (ha : SE X L W a x) (hb : SE X L W b y) : ST X L W (.Compare a [.Gt] [b] pos) (eOp oGt [x, y]) := st_cmp op_gt oGt_ok o2_bl ha hb (nomark b)
theorem t_ge (ha : SE X L W a x) (hb : SE X L W b y) : ST X L W (.Compare a [.GtE] [b] pos) (eOp oGe [x, y]) := st_cmp op_ge oGe_ok o2_bl ha hb (nomark b)
theorem t_eq (hu : X.A.units + 64 < cLine) (ha : SE X L W a x) (hb : SE X L W b y) : ST X L W (.Compare a [.Eq] [b] pos) (eOp oEq [x, y]) := st_cmp (op_eqb hu) oEqb_ok oEqb_bl ha hb (nomark b)
theorem t_ne (hu : X.A.units + 64 < cLine) (ha : SE X L W a x) (hb : SE X L W b y) : ST X L W (.Compare a [.NotEq] [b] pos) (eOp oNe [x, y]) := st_cmp (op_neb hu) oEqb_ok oEqb_bl ha hb (nomark b)
theorem t_is (ha : SE X L W a x) (hb : SE X L W b y) : ST X L W (.Compare a [.Is] [b] pos) (eOp (oIsN false) [x, y]) := st_cmp op_isNb oIsN_ok oIsN_bl ha hb (nomark b)
theorem t_isn (ha : SE X L W a x) (hb : SE X L W b y) : ST X L W (.Compare a [.IsNot] [b] pos) (eOp (oIsN true) [x, y]) := st_cmp op_isnotNb oIsN_ok oIsN_bl ha hb (nomark b)
theorem t_in (hu : X.A.units + 64 < cLine) (ha : SE X L W a x) (hb : SE X L W b y) (hm : behindInMarks .In b = false := by rfl) : ST X L W (.Compare a [.In] [b] pos) (eOp (oIn false) [x, y]) := st_cmp op_in_seq oIn_ok oIn_bl ha hb hm
theorem t_nin (hu : X.A.units + 64 < cLine) (ha : SE X L W a x) (hb : SE X L W b y) (hm : behindInMarks .NotIn b = false := by rfl) : ST X L W (.Compare a [.NotIn] [b] pos) (eOp (oIn true) [x, y]) := st_cmp op_notIn_seq oIn_ok oIn_bl ha hb hm
/-- a built-in type, by its name -/
theorem se_ty {f : Str} {n : String} (hm : X.mg f = none) (hv : bootBuiltins f = some (.type n)) (hg : Gl X f := by rfl) (hn : f ≠ "__name__" := by decide) (hd : (f == ("__debug__" : Str)) = false := by decide) : SE X L W (.Name f pos) (eC (.ty n)) := se_const (pe_bltn (v := .ty n) hg hm hv rfl hn hd) fun _ => rfl
theorem b_len (hm : X.mg "len" = none) (ha : SA X L W (a :: es) xs) (hg : Gl X "len" := by rfl) (hs : starEach (a :: es) X.env = (false, eval a X.env) :: starEach es X.env := by rfl) (hp : (backTo pos (starEach es X.env)).any (·.1) = false := by rfl) : SE X L W (.Call (.Name "len" p) (a :: es) [] pos) (eOp oLen xs) := se_callB call_len oLen_ok hg hm (by decide +kernel) ha (by decide) (by decide) hs hp
theorem b_abs (hm : X.mg "abs" = none) (ha : SA X L W (a :: es) xs) (hg : Gl X "abs" := by rfl) (hs : starEach (a :: es) X.env = (false, eval a X.env) :: starEach es X.env := by rfl) (hp : (backTo pos (starEach es X.env)).any (·.1) = false := by rfl) : SE X L W (.Call (.Name "abs" p) (a :: es) [] pos) (eOp oAbs xs) := se_callB call_abs oAbs_ok hg hm (by decide +kernel) ha (by decide) (by decide) hs hp
theorem b_sum (hc : X.calm = true) (hm : X.mg "sum" = none) (ha : SA X L W (a :: es) xs) (hg : Gl X "sum" := by rfl) (hs : starEach (a :: es) X.env = (false, eval a X.env) :: starEach es X.env := by rfl) (hp : (backTo pos (starEach es X.env)).any (·.1) = false := by rfl) : SE X L W (.Call (.Name "sum" p) (a :: es) [] pos) (eOp oSum xs) := se_callB (cr_sum2 hc) oSum_ok hg hm (by decide +kernel) ha (by decide) (by decide) hs hp
theorem b_min (hc : X.calm = true) (hm : X.mg "min" = none) (ha : SA X L W (a :: es) xs) (hg : Gl X "min" := by rfl) (hs : starEach (a :: es) X.env = (false, eval a X.env) :: starEach es X.env := by rfl) (hp : (backTo pos (starEach es X.env)).any (·.1) = false := by rfl) : SE X L W (.Call (.Name "min" p) (a :: es) [] pos) (eOp oMin xs) := se_callB (cr_min3 hc) oMin_ok hg hm (by decide +kernel) ha (by decide) (by decide) hs hp
theorem b_max (hc : X.calm = true) (hm : X.mg "max" = none) (ha : SA X L W (a :: es) xs) (hg : Gl X "max" := by rfl) (hs : starEach (a :: es) X.env = (false, eval a X.env) :: starEach es X.env := by rfl) (hp : (backTo pos (starEach es X.env)).any (·.1) = false := by rfl) : SE X L W (.Call (.Name "max" p) (a :: es) [] pos) (eOp oMax xs) := se_callB (cr_max3 hc) oMax_ok hg hm (by decide +kernel) ha (by decide) (by decide) hs hp
theorem b_any (hc : X.calm = true) (hm : X.mg "any" = none) (ha : SA X L W (a :: es) xs) (hg : Gl X "any" := by rfl) (hs : starEach (a :: es) X.env = (false, eval a X.env) :: starEach es X.env := by rfl) (hp : (backTo pos (starEach es X.env)).any (·.1) = false := by rfl) : SE X L W (.Call (.Name "any" p) (a :: es) [] pos) (eOp oAnyL xs) := se_callB (cr_any hc) oAnyL_ok hg hm (by decide +kernel) ha (by decide) (by decide) hs hp
theorem b_all (hc : X.calm = true) (hm : X.mg "all" = none) (ha : SA X L W (a :: es) xs) (hg : Gl X "all" := by rfl) (hs : starEach (a :: es) X.env = (false, eval a X.env) :: starEach es X.env := by rfl) (hp : (backTo pos (starEach es X.env)).any (·.1) = false := by rfl) : SE X L W (.Call (.Name "all" p) (a :: es) [] pos) (eOp oAllL xs) := se_callB (cr_all hc) oAllL_ok hg hm (by decide +kernel) ha (by decide) (by decide) hs hp
theorem b_sorted (hm : X.mg "sorted" = none) (ha : SA X L W (a :: es) xs) (hg : Gl X "sorted" := by rfl) (hs : starEach (a :: es) X.env = (false, eval a X.env) :: starEach es X.env := by rfl) (hp : (backTo pos (starEach es X.env)).any (·.1) = false := by rfl) : SE X L W (.Call (.Name "sorted" p) (a :: es) [] pos) (eOp oSortedI xs) := se_callB cr_sortedI oSortedI_ok hg hm (by decide +kernel) ha (by decide) (by decide) hs hp
theorem b_isi (hm : X.mg "isinstance" = none) (ha : SA X L W (a :: es) xs) (hg : Gl X "isinstance" := by rfl) (hs : starEach (a :: es) X.env = (false, eval a X.env) :: starEach es X.env := by rfl) (hp : (backTo pos (starEach es X.env)).any (·.1) = false := by rfl) : SE X L W (.Call (.Name "isinstance" p) (a :: es) [] pos) (eOp oIsi xs) := se_callB call_isi oIsi_ok hg hm (by decide +kernel) ha (by decide) (by decide) hs hp
theorem b_list (hm : X.mg "list" = none) (ha : SA X L W (a :: es) xs) (hg : Gl X "list" := by rfl) (hs : starEach (a :: es) X.env = (false, eval a X.env) :: starEach es X.env := by rfl) (hp : (backTo pos (starEach es X.env)).any (·.1) = false := by rfl) : SE X L W (.Call (.Name "list" p) (a :: es) [] pos) (eOp oListOf xs) := se_callTy call_list_of oListOf_ok hg hm (by decide +kernel) ha (by decide) (by decide) hs hp
theorem b_tuple (hm : X.mg "tuple" = none) (ha : SA X L W (a :: es) xs) (hg : Gl X "tuple" := by rfl) (hs : starEach (a :: es) X.env = (false, eval a X.env) :: starEach es X.env := by rfl) (hp : (backTo pos (starEach es X.env)).any (·.1) = false := by rfl) : SE X L W (.Call (.Name "tuple" p) (a :: es) [] pos) (eOp oTupOf xs) := se_callTy cr_tuple oTupOf_ok hg hm (by decide +kernel) ha (by decide) (by decide) hs hp
theorem b_int (hm : X.mg "int" = none) (ha : SA X L W (a :: es) xs) (hg : Gl X "int" := by rfl) (hs : starEach (a :: es) X.env = (false, eval a X.env) :: starEach es X.env := by rfl) (hp : (backTo pos (starEach es X.env)).any (·.1) = false := by rfl) : SE X L W (.Call (.Name "int" p) (a :: es) [] pos) (eOp oInt xs) := se_callTy call_int1 oInt_ok hg hm (by decide +kernel) ha (by decide) (by decide) hs hp
theorem b_str (hm : X.mg "str" = none) (ha : SA X L W (a :: es) xs) (hg : Gl X "str" := by rfl) (hs : starEach (a :: es) X.env = (false, eval a X.env) :: starEach es X.env := by rfl) (hp : (backTo pos (starEach es X.env)).any (·.1) = false := by rfl) : SE X L W (.Call (.Name "str" p) (a :: es) [] pos) (eOp oStrI xs) := se_callTy call_str_int oStrI_ok hg hm (by decide +kernel) ha (by decide) (by decide) hs hp
variable {pl : Pc} {o : Expr} {apos cpos : Pos}
theorem m_append (ho : SP X L o pl) (ha : SA X L W (a :: es) xs) (hbase : attributeBase o "append" X.env (eval o X.env) = eval o X.env := by rfl)
    (hfew : ((backTo cpos (starEach (a :: es) X.env)).all (fun x => !x.1) && (backToKw cpos (keywordEach [] X.env)).all (fun x => x.1.isSome) && decide ((a :: es).length + ([] : List Keyword).length + (if ([] : List Keyword).isEmpty then 0 else 1) < 30)) = true := by rfl)
    (hline : (apos.endLine == cpos.line) = true := by rfl) (hs : starEach (a :: es) X.env = (false, eval a X.env) :: starEach es X.env := by rfl) (hp : (backTo cpos (starEach es X.env)).any (·.1) = false := by rfl) :
    SE X L W (.Call (.Attribute o "append" apos) (a :: es) [] cpos) (eMut pl mAppend xs) := se_mut PySem.F.slot_list_append PySem.F.type_list_append mt_append mAppend_ok ho ha hbase hfew hline hs hp
theorem m_extend (ho : SP X L o pl) (ha : SA X L W (a :: es) xs) (hbase : attributeBase o "extend" X.env (eval o X.env) = eval o X.env := by rfl)
    (hfew : ((backTo cpos (starEach (a :: es) X.env)).all (fun x => !x.1) && (backToKw cpos (keywordEach [] X.env)).all (fun x => x.1.isSome) && decide ((a :: es).length + ([] : List Keyword).length + (if ([] : List Keyword).isEmpty then 0 else 1) < 30)) = true := by rfl)
    (hline : (apos.endLine == cpos.line) = true := by rfl) (hs : starEach (a :: es) X.env = (false, eval a X.env) :: starEach es X.env := by rfl) (hp : (backTo cpos (starEach es X.env)).any (·.1) = false := by rfl) :
    SE X L W (.Call (.Attribute o "extend" apos) (a :: es) [] cpos) (eMut pl mExtend xs) := se_mut PySem.F.slot_list_extend PySem.F.type_list_extend mt_extend mExtend_ok ho ha hbase hfew hline hs hp
theorem m_insert (ho : SP X L o pl) (ha : SA X L W (a :: es) xs) (hbase : attributeBase o "insert" X.env (eval o X.env) = eval o X.env := by rfl)
    (hfew : ((backTo cpos (starEach (a :: es) X.env)).all (fun x => !x.1) && (backToKw cpos (keywordEach [] X.env)).all (fun x => x.1.isSome) && decide ((a :: es).length + ([] : List Keyword).length + (if ([] : List Keyword).isEmpty then 0 else 1) < 30)) = true := by rfl)
    (hline : (apos.endLine == cpos.line) = true := by rfl) (hs : starEach (a :: es) X.env = (false, eval a X.env) :: starEach es X.env := by rfl) (hp : (backTo cpos (starEach es X.env)).any (·.1) = false := by rfl) :
    SE X L W (.Call (.Attribute o "insert" apos) (a :: es) [] cpos) (eMut pl mInsert xs) := se_mut PySem.F.slot_list_insert PySem.F.type_list_insert mt_insert mInsert_ok ho ha hbase hfew hline hs hp
theorem m_pop (ho : SP X L o pl) (ha : SA X L W (a :: es) xs) (hbase : attributeBase o "pop" X.env (eval o X.env) = eval o X.env := by rfl)
    (hfew : ((backTo cpos (starEach (a :: es) X.env)).all (fun x => !x.1) && (backToKw cpos (keywordEach [] X.env)).all (fun x => x.1.isSome) && decide ((a :: es).length + ([] : List Keyword).length + (if ([] : List Keyword).isEmpty then 0 else 1) < 30)) = true := by rfl)
    (hline : (apos.endLine == cpos.line) = true := by rfl) (hs : starEach (a :: es) X.env = (false, eval a X.env) :: starEach es X.env := by rfl) (hp : (backTo cpos (starEach es X.env)).any (·.1) = false := by rfl) :
    SE X L W (.Call (.Attribute o "pop" apos) (a :: es) [] cpos) (eMut pl mPop xs) := se_mut PySem.F.slot_list_pop PySem.F.type_list_pop mt_pop2 mPop_ok ho ha hbase hfew hline hs hp
theorem m_pop0 (ho : SP X L o pl) (hbase : attributeBase o "pop" X.env (eval o X.env) = eval o X.env := by rfl) (hline : (apos.endLine == cpos.line) = true := by rfl) : SE X L W (.Call (.Attribute o "pop" apos) [] [] cpos) (eMut pl mPop []) := se_mut0 PySem.F.slot_list_pop PySem.F.type_list_pop mt_pop2 mPop_ok ho hbase hline
theorem m_reverse (ho : SP X L o pl) (hbase : attributeBase o "reverse" X.env (eval o X.env) = eval o X.env := by rfl) (hline : (apos.endLine == cpos.line) = true := by rfl) : SE X L W (.Call (.Attribute o "reverse" apos) [] [] cpos) (eMut pl mReverse []) := se_mut0 PySem.F.slot_list_reverse PySem.F.type_list_reverse mt_reverse mReverse_ok ho hbase hline
theorem m_countT (ho : SE X L W o x) (ha : SA X L W (a :: es) xs) (hbase : attributeBase o "count" X.env (eval o X.env) = eval o X.env := by rfl)
    (hfew : ((backTo cpos (starEach (a :: es) X.env)).all (fun x => !x.1) && (backToKw cpos (keywordEach [] X.env)).all (fun x => x.1.isSome) && decide ((a :: es).length + ([] : List Keyword).length + (if ([] : List Keyword).isEmpty then 0 else 1) < 30)) = true := by rfl)
    (hline : (apos.endLine == cpos.line) = true := by rfl) (hs : starEach (a :: es) X.env = (false, eval a X.env) :: starEach es X.env := by rfl) (hp : (backTo cpos (starEach es X.env)).any (·.1) = false := by rfl) :
    SE X L W (.Call (.Attribute o "count" apos) (a :: es) [] cpos) (eOp oCountT (eK D.isTupK x :: xs)) := se_rdT PySem.F.slot_tuple_count PySem.F.type_tuple_count mt_tcount oCountT_ok ho ha hbase hfew hline hs hp
theorem m_countL (ho : SE X L W o x) (ha : SA X L W (a :: es) xs) (hbase : attributeBase o "count" X.env (eval o X.env) = eval o X.env := by rfl)
    (hfew : ((backTo cpos (starEach (a :: es) X.env)).all (fun x => !x.1) && (backToKw cpos (keywordEach [] X.env)).all (fun x => x.1.isSome) && decide ((a :: es).length + ([] : List Keyword).length + (if ([] : List Keyword).isEmpty then 0 else 1) < 30)) = true := by rfl)
    (hline : (apos.endLine == cpos.line) = true := by rfl) (hs : starEach (a :: es) X.env = (false, eval a X.env) :: starEach es X.env := by rfl) (hp : (backTo cpos (starEach es X.env)).any (·.1) = false := by rfl) :
    SE X L W (.Call (.Attribute o "count" apos) (a :: es) [] cpos) (eOp oCountL (eK D.isLst x :: xs)) := se_rdL PySem.F.slot_list_count PySem.F.type_list_count mt_lcount oCountL_ok ho ha hbase hfew hline hs hp
/-- op= -/
theorem a_add (i : Nat) {v : Str} {tpos : Pos} (hN : X.N.Nodup) (he : SE X L W b x) (hi : X.N[i]? = some v := by rfl) (hx : Loc X.env.scope v := by first | exact Or.inl rfl | exact Or.inr rfl) (hfx : i ∉ fx := by decide)
    (hf : X.fn v = true ∨ X.env.scope.names.lookup v = some .local := by first | exact .inl rfl | exact .inr rfl) : SS X L fx W (.AugAssign (.Name v tpos) .Add b pos) (sAug i (o2 (fun _ _ => true) fun i j => .int (i + j)) x) :=
  ss_aug i hN ip_add (o2_ok (gv := fun i j => .int (i + j)) (fun _ _ _ => rfl) fun i j H Q _ q => ⟨i, j, rfl, rfl, q⟩) he hi hx hfx hf
theorem a_sub (i : Nat) {v : Str} {tpos : Pos} (hN : X.N.Nodup) (he : SE X L W b x) (hi : X.N[i]? = some v := by rfl) (hx : Loc X.env.scope v := by first | exact Or.inl rfl | exact Or.inr rfl) (hfx : i ∉ fx := by decide)
    (hf : X.fn v = true ∨ X.env.scope.names.lookup v = some .local := by first | exact .inl rfl | exact .inr rfl) : SS X L fx W (.AugAssign (.Name v tpos) .Sub b pos) (sAug i (o2 (fun _ _ => true) fun i j => .int (i - j)) x) :=
  ss_aug i hN ip_sub (o2_ok (gv := fun i j => .int (i - j)) (fun _ _ _ => rfl) fun i j H Q _ q => ⟨i, j, rfl, rfl, q⟩) he hi hx hfx hf
theorem a_addS {i : Expr} {idx : Ex} {tpos : Pos} (ho : SP X L o pl) (hi : SE X L W i idx) (he : SE X L W b x) (ha : ∀ ov iv new, augStore i ov iv new = (do holding [new, ov, iv] (setItem ov iv new); release [new, ov, iv] []; pure .next) := by intros; rfl) :
    SS X L fx W (.AugAssign (.Subscript o i tpos) .Add b pos) (sAugS pl idx (o2 (fun _ _ => true) fun i j => .int (i + j)) x) := ss_augS ip_add (o2_ok (gv := fun i j => .int (i + j)) (fun _ _ _ => rfl) fun i j H Q _ q => ⟨i, j, rfl, rfl, q⟩) ho hi he ha
theorem a_subS {i : Expr} {idx : Ex} {tpos : Pos} (ho : SP X L o pl) (hi : SE X L W i idx) (he : SE X L W b x) (ha : ∀ ov iv new, augStore i ov iv new = (do holding [new, ov, iv] (setItem ov iv new); release [new, ov, iv] []; pure .next) := by intros; rfl) :
    SS X L fx W (.AugAssign (.Subscript o i tpos) .Sub b pos) (sAugS pl idx (o2 (fun _ _ => true) fun i j => .int (i - j)) x) := ss_augS ip_sub (o2_ok (gv := fun i j => .int (i - j)) (fun _ _ _ => rfl) fun i j H Q _ q => ⟨i, j, rfl, rfl, q⟩) ho hi he ha
end
theorem c_con {X : Cx} {L : Hp} {W : WX} {C f : Str} {i : Int} {p1 pos : Pos} (k : ClX.CRead X.K (He.ga X.K C) (.type "type") ∧ ∃ t, ClX.CVal X.K (He.ga X.K C) (.type "type") f (.int i) (.int i t)) (hm : X.mg C = some (.ref (He.ga X.K C))) (hg : Gl X C := by rfl) (hd : (C == ("__debug__" : Str)) = false := by decide)
    (hb : attributeBase (.Name C p1) f X.env (eval (.Name C p1) X.env) = eval (.Name C p1) X.env := by rfl) : SE X L W (.Attribute (.Name C p1) f pos) (eC (.int i)) := by
  obtain ⟨h1, t, h2⟩ := k
  exact se_ccon (d := .int i) hg hm h1 h2 (fun _ => rfl) hd hb
/-- a deep list display: its members are kept apart -/
def oDeep (ds : List D) : Option D := if (ds.all D.isOwn && decide (ds.length ≤ sizeLine)) = true then some (.deep .own ds) else none
section
variable {K : PySem.W.Frag} {L : Hp}
theorem RepA.reps {Fr H : Hp} : ∀ {ds : List D} {vs : List V} {Fs : List (List Addr)}, RepA K L Fr H ds vs Fs → ds.all D.isOwn = true → Reps K L Fr H ds vs Fs.flatten
  | [], [], [], _, _ => rfl
  | d :: ds, v :: vs, F :: Fs, h, c => by
    have c := Bool.and_eq_true_iff.mp (show (d.isOwn && ds.all D.isOwn) = true from c)
    refine ⟨F, Fs.flatten, List.flatten_cons, ?_, RepA.reps h.2 c.2⟩
    rcases h.1 with ⟨u, _⟩ | ⟨w, ew, r⟩
    · subst u; cases c.1
    · cases ew; exact r
  | [], _ :: _, _, h, _ => False.elim h
  | _ :: _, [], _, h, _ => False.elim h
  | [], [], _ :: _, h, _ => False.elim h
  | _ :: _, _ :: _, [], h, _ => False.elim h
theorem owns_stb : ∀ {ds : List D}, ds.all D.isOwn = true → stbs ds = true
  | [], _ => rfl
  | d :: ds, c => by
    have c := Bool.and_eq_true_iff.mp (show (d.isOwn && ds.all D.isOwn) = true from c)
    show (d.stb && stbs ds) = true
    rw [D.isOwn_stb c.1, owns_stb c.2]
    rfl
theorem oDeep_ok : OpS K L oDeep (fun vs H Q => vs.length ≤ sizeLine ∧ ∀ p, H p = none → Q (.ref p) (upd H p (.lst vs))) := by
  intro B Fr H σ ρ ds vs Q d ok hl e q
  obtain ⟨c, e⟩ := if_some' (show (if (ds.all D.isOwn && decide (ds.length ≤ sizeLine)) = true then some (.deep .own ds) else none) = some d from e)
  subst e
  rw [Bool.and_eq_true, decide_eq_true_eq] at c
  refine ⟨by rw [hl]; exact c.2, fun p hp => q _ _ Fr (Sub.refl _) (sub_upd hp) ?_⟩
  obtain ⟨F, r, nd, k⟩ := ok.rep
  obtain ⟨Fs, F2, eF, ra, ro⟩ := RepA.of r hl
  subst eF
  have s := sub_upd (o := .lst vs) hp
  have g : ∀ {F : List Addr} {a : Addr}, a ∈ F → ∀ o, H a = some o → upd H p (.lst vs) a = some o := fun _ o h => s _ _ h
  have np : p ∉ Fs.flatten ++ F2 := fun m => by
    obtain ⟨o, ho⟩ := r.live p m
    rw [hp] at ho
    cases ho
  refine ⟨ok.fr.trans s, ok.br.trans s, ok.lb, ok.dj, (p :: Fs.flatten) ++ F2, ⟨p :: Fs.flatten, F2, rfl, .inr ⟨_, rfl, p, vs, Fs.flatten, rfl, rfl, upd_same, ?_⟩, ro.keep (Sub.refl _) (Sub.refl _) (fun a _ o h => s a o h) (.inr s)⟩, List.nodup_cons.mpr ⟨np, nd⟩, fun a ha => ?_⟩
  · exact Reps.keep (Sub.refl _) (Sub.refl _) (ra.reps c.1) (fun a _ o h => s a o h) (.inr s)
  · rcases List.mem_cons.mp ha with z | z
    · rw [z]; exact ⟨none_sub ok.fr hp, none_sub ok.br hp⟩
    · exact k a z
theorem se_deep {X : Cx} {W : WX} {es : List Expr} {xs : List Ex} {pos : Pos} (h : SA X L W es xs) : SE X L W (.List es pos) (eOp oDeep xs) := ⟨(pe_lst h.run).imp fun _ _ _ z => eOp_tAs oDeep_ok z, eOp_pure h.pu⟩
end
end Ev

/-! C20: how mirrors are reckoned. -/
namespace Ev
open PySem PySem.Spec L2
open PyProof.Rows hiding St
theorem f_eC {d : D} {ρ : List D} : (eC d).f ρ = .ok (d, ρ) := rfl
theorem f_eV {i : Nat} {ρ : List D} : (eV i).f ρ = (getD ρ i).bind fun d => .ok (d.look, ρ) := rfl
theorem f_eMv {i : Nat} {ρ : List D} : (eMv i).f ρ = (getD ρ i).bind fun d => .ok (d, ρ.set i .unset) := rfl
theorem f_eFz {i : Nat} {ρ : List D} : (eFz i).f ρ = (getD ρ i).bind fun d => if d.canFz = true then .ok (d.frz, ρ.set i d.frz) else .stuck := rfl
theorem f_eOp {op : List D → Option D} {xs : List Ex} {ρ : List D} : (eOp op xs).f ρ = (evs xs ρ).bind fun r => give (op r.1) r.2 := rfl
theorem evs_nil {ρ : List D} : evs [] ρ = .ok ([], ρ) := rfl
theorem evs_cons {x : Ex} {xs : List Ex} {ρ : List D} : evs (x :: xs) ρ = (x.f ρ).bind fun r => if (r.1.stb || pus xs) = true then (evs xs r.2).bind fun q => .ok (r.1 :: q.1, q.2) else .stuck := rfl
theorem f_eAnd {x y : Ex} {ρ : List D} : (eAnd x y).f ρ = (x.f ρ).bind fun r => match truth r.1 with
  | some true => y.f r.2
  | some false => .ok (.bl false, r.2)
  | none => .stuck := rfl
theorem f_eOr {x y : Ex} {ρ : List D} : (eOr x y).f ρ = (x.f ρ).bind fun r => match truth r.1 with
  | some false => y.f r.2
  | some true => .ok (.bl true, r.2)
  | none => .stuck := rfl
theorem f_eNot {x : Ex} {ρ : List D} : (eNot x).f ρ = (evs [x] ρ).bind fun r => give (oNot r.1) r.2 := rfl
theorem f_eIf {c x y : Ex} {ρ : List D} : (eIf c x y).f ρ = (c.f ρ).bind fun r => match truth r.1 with
  | some true => x.f r.2
  | some false => y.f r.2
  | none => .stuck := rfl
theorem f_tru1 {x : Ex} {ρ : List D} : (tru1 x).f ρ = (x.f ρ).bind fun r => match r.1 with
  | .str z => if z.length ≤ sizeLine then .ok r else .stuck
  | _ => .ok r := rfl
theorem f_eCh {c1 c2 : Int → Int → Bool} {x y z : Ex} {ρ : List D} : (eCh c1 c2 x y z).f ρ = (x.f ρ).bind fun r1 => match r1.1 with
  | .int i => (y.f r1.2).bind fun r2 => match r2.1 with
    | .int j => if c1 i j = true then (z.f r2.2).bind fun r3 => match r3.1 with
        | .int k => .ok (.bl (c2 j k), r3.2)
        | _ => .stuck
      else .ok (.bl false, r2.2)
    | _ => .stuck
  | _ => .stuck := rfl
theorem f_eFr {x : Ex} {ρ : List D} : (eFr x).f ρ = (x.f ρ).bind fun r => if r.1.canFz = true then .ok (r.1.frz, r.2) else .stuck := rfl
theorem f_eAndV {x y : Ex} {ρ : List D} : (eAndV x y).f ρ = (x.f ρ).bind fun r => match r.1 with
  | .bl true => y.f r.2
  | .bl false => .ok (.bl false, r.2)
  | _ => .stuck := rfl
theorem f_eOrV {x y : Ex} {ρ : List D} : (eOrV x y).f ρ = (x.f ρ).bind fun r => match r.1 with
  | .bl false => y.f r.2
  | .bl true => .ok (.bl true, r.2)
  | _ => .stuck := rfl
theorem f_eK {kd : D → Bool} {x : Ex} {ρ : List D} : (eK kd x).f ρ = (x.f ρ).bind fun r => if kd r.1 = true then .ok r else .stuck := rfl
theorem f_eNx {x : Ex} {ρ : List D} : (eNx x).f ρ = match x.f ρ with
  | .exc _ _ => .stuck
  | o => o := rfl
theorem f_eMut {pl : Pc} {op : Mu} {xs : List Ex} {ρ : List D} : (eMut pl op xs).f ρ = match pl.get ρ with
  | none => .stuck
  | some _ => if (!pl.dp || pus xs) = true then (evs xs ρ).bind fun r => match pl.get r.2 with
    | none => .stuck
    | some es => match op es r.1 with
      | none => .stuck
      | some q => .ok (q.1, pl.put r.2 q.2)
    else .stuck := rfl
theorem f_eCall {F : Fn} {as : List Arg} {ρ : List D} : (eCall F as).f ρ = (evc as ρ).bind fun r => match passA (hasIo as) as r.1 with
  | none => .stuck
  | some ds => match F ds with
    | .ok (d, os) => if d.canFz = true then match backA as r.1 os r.2 with
        | some ρ' => .ok (d, ρ')
        | none => .stuck
      else .stuck
    | .exc e os => match backA as r.1 os r.2 with
      | some ρ' => .exc e ρ'
      | none => .stuck
    | .stuck => .stuck := rfl
theorem f_eProp {c f : Str} {F : Fn} {x : Ex} {ρ : List D} : (eProp c f F x).f ρ = match (eCall F [.ex (eK (isObj c f) x)]).f ρ with
  | .exc _ _ => .stuck
  | o => o := rfl
theorem f_eMeth {c m : Str} {F : Fn} {x : Ex} {as : List Arg} {ρ : List D} : (eMeth c m F x as).f ρ = (eCall F (.ex (eK (isObj c m) x) :: as)).f ρ := rfl
theorem f_eLc {p : Bool} {vs : List Nat} {it : Its} {g : Tg} {t x : Ex} {ρ : List D} : (eLc p vs it g t x).f ρ = if (!it.tm || (t.pu && x.pu)) = true then (it.f ρ).bind fun r => if (!p || unAt r.2 vs) = true then (lcL vs g t x r.1 [] (wipeD r.2 vs)).bind fun q => .ok (D.own q.1, q.2) else .stuck else .stuck := rfl
theorem f_itOp {tm : Bool} {k : List D → Option (List D)} {xs : List Ex} {ρ : List D} : (itOp tm k xs).f ρ = (evs xs ρ).bind fun r => match k r.1 with
  | some ds => .ok (ds, r.2)
  | none => .stuck := rfl
theorem f_itSeq {tm : Bool} {x : Ex} {ρ : List D} : (itSeq tm x).f ρ = (x.f ρ).bind fun r => match r.1.walk tm with
  | some ds => .ok (ds, r.2)
  | none => .stuck := rfl
theorem pu_eC {d : D} : (eC d).pu = true := rfl
theorem pu_eV {i : Nat} : (eV i).pu = true := rfl
theorem pu_eOp {op : List D → Option D} {xs : List Ex} : (eOp op xs).pu = pus xs := rfl
theorem pu_eK {kd : D → Bool} {x : Ex} : (eK kd x).pu = x.pu := rfl
theorem pu_eFr {x : Ex} : (eFr x).pu = x.pu := rfl
theorem pu_eCall {F : Fn} {as : List Arg} : (eCall F as).pu = pusA as := rfl
theorem pu_eMeth {c m : Str} {F : Fn} {x : Ex} {as : List Arg} : (eMeth c m F x as).pu = (x.pu && pusA as) := rfl
theorem pu_eProp {c f : Str} {F : Fn} {x : Ex} : (eProp c f F x).pu = (x.pu && true) := rfl
theorem pu_eCh {c1 c2 : Int → Int → Bool} {x y z : Ex} : (eCh c1 c2 x y z).pu = (x.pu && (y.pu && z.pu)) := rfl
theorem pu_eIf {x y z : Ex} : (eIf x y z).pu = (x.pu && (y.pu && z.pu)) := rfl
theorem pus_nil : pus [] = true := rfl
theorem pus_cons {x : Ex} {xs : List Ex} : pus (x :: xs) = (x.pu && pus xs) := rfl
theorem fr_ret {iop : List Bool} {n : Nat} {b : Blk} {ds ρ : List D} {d : D} (h : b (frameD n ds) = .ok (.ret d, ρ)) (c : d.canFz = true) : fnOf iop n b ds = .ok (d, pick iop ρ) := by
  unfold fnOf
  rw [h]
  show (if d.canFz = true then Out.ok (d, pick iop ρ) else .stuck) = _
  rw [if_pos c]
theorem fr_next {iop : List Bool} {n : Nat} {b : Blk} {ds ρ : List D} (h : b (frameD n ds) = .ok (.next, ρ)) : fnOf iop n b ds = .ok (.non, pick iop ρ) := by
  unfold fnOf
  rw [h]
theorem getD_0 {d : D} {ρ : List D} : getD (d :: ρ) 0 = if d.isUn = true then .stuck else .ok d := by
  cases d <;> rfl
theorem getD_S {d : D} {ρ : List D} {i : Nat} : getD (d :: ρ) (i + 1) = getD ρ i := rfl
theorem un_un : D.unset.isUn = true := rfl
theorem un_non : D.non.isUn = false := rfl
theorem un_bl {b : Bool} : (D.bl b).isUn = false := rfl
theorem un_int {i : Int} : (D.int i).isUn = false := rfl
theorem un_str {i : Str} : (D.str i).isUn = false := rfl
theorem un_seq {t : Bool} {k : Md} {ds : List D} : (D.seq t k ds).isUn = false := rfl
theorem un_obj {k : Md} {c : Str} {ns : List Str} {ds : List D} : (D.obj k c ns ds).isUn = false := rfl
theorem un_deep {k : Md} {ds : List D} : (D.deep k ds).isUn = false := rfl
theorem un_fn {x : Str} : (D.fn x).isUn = false := rfl
theorem un_ty {x : String} : (D.ty x).isUn = false := rfl
theorem cLt_d {i j : Int} : cLt i j = decide (i < j) := rfl
theorem cLe_d {i j : Int} : cLe i j = decide (i ≤ j) := rfl
theorem cGt_d {i j : Int} : cGt i j = decide (j < i) := rfl
theorem cGe_d {i j : Int} : cGe i j = decide (j ≤ i) := rfl
theorem lk_non : D.non.look = .non := rfl
theorem lk_bl {b : Bool} : (D.bl b).look = .bl b := rfl
theorem lk_int {i : Int} : (D.int i).look = .int i := rfl
theorem lk_str {x : Str} : (D.str x).look = .str x := rfl
theorem lk_fz {t : Bool} {ds : List D} : (D.seq t .fz ds).look = .seq t .fz ds := rfl
theorem lk_bor {t : Bool} {ds : List D} : (D.seq t .bor ds).look = .seq t .bor ds := rfl
theorem lk_own {t : Bool} {ds : List D} : (D.seq t .own ds).look = .seq t .tmp ds := rfl
theorem lk_tmp {t : Bool} {ds : List D} : (D.seq t .tmp ds).look = .seq t .tmp ds := rfl
theorem lk_scr {t : Bool} {ds : List D} : (D.seq t .scr ds).look = .seq t .scr ds := rfl
theorem lk_obj {c : Str} {ns : List Str} {ds : List D} : (D.obj .fz c ns ds).look = .obj .fz c ns ds := rfl
theorem lk_objo {c : Str} {ns : List Str} {ds : List D} : (D.obj .own c ns ds).look = .obj .tmp c ns ds := rfl
theorem lk_deep {ds : List D} : (D.deep .own ds).look = .deep .tmp (looks ds) := rfl
theorem looks_nil : looks [] = [] := rfl
theorem looks_cons {d : D} {ds : List D} : looks (d :: ds) = d.look :: looks ds := rfl
/-- a promise where nothing is let out -/
def spN (sp : Sp) : Sp := fun vs H Q _ => sp vs H Q fun _ _ _ => False
def CXN : CXT := fun _ _ _ _ _ _ => False
theorem fnN {P : Program} {w : World} {K : PySem.W.Frag} {mg : Str → Option Value} {base : Heap} {k : Nat} {f : Addr} {fd : FuncData} {ps : List Str} {sp : Sp} (F : FnOk P w K mg base (L2.CX P w) k f fd ps sp) : FnOk P w K mg base CXN k f fd ps (spN sp) := by
  refine ⟨fun vs H Q E h => F.len vs H Q _ h, fun A outer s H args us vs Q E hr e0 hb r h => ?_⟩
  refine codeAny_mono (F.run A outer s H args us vs Q _ hr e0 hb r h) ?_
  rintro (e | fl) s' hq
  · obtain ⟨_, _, _, _, _, _, _, _, _, _, _, _, z⟩ := hq
    exact z.elim
  · cases fl with
    | ret u => exact hq
    | _ => exact hq.elim
end Ev

namespace Law
open PySem PySem.Spec L2 Ev
open PyProof.Rows hiding St
abbrev prog : Program := PySem.Challenge.pw_everymorning_k00_depot_numbers
def top (i : Nat) : Stmt := prog.main.body.getD i (.Pass ⟨0, 0, 0, 0⟩)
def inn (i j : Nat) : Stmt := (C8.clsBody (top i)).getD j (.Pass ⟨0, 0, 0, 0⟩)
def fcs : List Fc := [.of (.int "MOST_DAYS" 1000000000000000000000000000000), .ccon "Depot" "MOST_PERIOD" 8, .of (.glo "Depot"), .of (.int "MOST_QUOTA" 12), .of (.free "len"), .ccon "Depot" "MOST_DRIVERS" 12, .of (.free "range"), .of (.cls "Depot"), .of (.noat "Depot" "period"), .of (.noat "Depot" "quota"), .of (.free "tuple"), .of (.noat "Depot" "firsts"), .of (.free "list"), .of (.free "sum"), .of (.free "int"), .of (.free "isinstance"), .of (.free "bool"), .of (.free "str"), .of (.free "abs"), .of (.free "min"), .of (.glo "check_days"), .of (.glo "check_numbers"), .of (.glo "check_firsts"), .of (.mkr "Depot"), .prop "Depot" "size", .prop "Depot" "places", .of (.meth "Depot" "weekday"), .of (.meth "Depot" "closings"), .of (.meth "Depot" "last_weekday"), .of (.meth "Depot" "due_places"), .of (.meth "Depot" "begun"), .of (.glo "_law_number"), .of (.glo "_law_same"), .of (.glo "_law_pool"), .of (.glo "_law_take"), .of (.glo "_law_great"), .of (.glo "_law_depot"), .of (.glo "_law_day"), .of (.glo "_law_due_numbers"), .of (.glo "_law_told_numbers"), .of (.glo "law")]
def d_check_days : DefE := ⟨.top "check_days", "check_days", "check_days", C8.fnArgs (top 7), C8.fnBody (top 7), C8.fnScope (top 7)⟩
def N_check_days : List Str := ["days"]
def d_check_numbers : DefE := ⟨.top "check_numbers", "check_numbers", "check_numbers", C8.fnArgs (top 10), C8.fnBody (top 10), C8.fnScope (top 10)⟩
def N_check_numbers : List Str := ["period", "quota"]
def d_check_firsts : DefE := ⟨.top "check_firsts", "check_firsts", "check_firsts", C8.fnArgs (top 11), C8.fnBody (top 11), C8.fnScope (top 11)⟩
def N_check_firsts : List Str := ["period", "quota", "firsts", "ones", "driver"]
def d_Depot__init : DefE := ⟨.met "Depot" "__init__", "__init__", "Depot.__init__", C8.fnArgs (inn 12 2), C8.fnBody (inn 12 2), C8.fnScope (inn 12 2)⟩
def N_Depot__init : List Str := ["self", "period", "quota", "firsts"]
def d_Depot_size : DefE := ⟨.get "Depot" "size", "size", "Depot.size", C8.fnArgs (inn 12 4), C8.fnBody (inn 12 4), C8.fnScope (inn 12 4)⟩
def N_Depot_size : List Str := ["self"]
def d_Depot_places : DefE := ⟨.get "Depot" "places", "places", "Depot.places", C8.fnArgs (inn 12 5), C8.fnBody (inn 12 5), C8.fnScope (inn 12 5)⟩
def N_Depot_places : List Str := ["self", "row", "weekday"]
def d_Depot_weekday : DefE := ⟨.met "Depot" "weekday", "weekday", "Depot.weekday", C8.fnArgs (inn 12 6), C8.fnBody (inn 12 6), C8.fnScope (inn 12 6)⟩
def N_Depot_weekday : List Str := ["self", "morning"]
def d_Depot_closings : DefE := ⟨.met "Depot" "closings", "closings", "Depot.closings", C8.fnArgs (inn 12 7), C8.fnBody (inn 12 7), C8.fnScope (inn 12 7)⟩
def N_Depot_closings : List Str := ["self", "days"]
def d_Depot_last_weekday : DefE := ⟨.met "Depot" "last_weekday", "last_weekday", "Depot.last_weekday", C8.fnArgs (inn 12 8), C8.fnBody (inn 12 8), C8.fnScope (inn 12 8)⟩
def N_Depot_last_weekday : List Str := ["self", "days"]
def d_Depot_due_places : DefE := ⟨.met "Depot" "due_places", "due_places", "Depot.due_places", C8.fnArgs (inn 12 9), C8.fnBody (inn 12 9), C8.fnScope (inn 12 9)⟩
def N_Depot_due_places : List Str := ["self", "days", "row"]
def d_Depot_begun : DefE := ⟨.met "Depot" "begun", "begun", "Depot.begun", C8.fnArgs (inn 12 10), C8.fnBody (inn 12 10), C8.fnScope (inn 12 10)⟩
def N_Depot_begun : List Str := ["self", "days", "rounds", "rest"]
def d_law_number : DefE := ⟨.top "_law_number", "_law_number", "_law_number", C8.fnArgs (top 14), C8.fnBody (top 14), C8.fnScope (top 14)⟩
def N_law_number : List Str := ["got"]
def d_law_same : DefE := ⟨.top "_law_same", "_law_same", "_law_same", C8.fnArgs (top 15), C8.fnBody (top 15), C8.fnScope (top 15)⟩
def N_law_same : List Str := ["got", "due", "k"]
def d_law_pool : DefE := ⟨.top "_law_pool", "_law_pool", "_law_pool", C8.fnArgs (top 16), C8.fnBody (top 16), C8.fnScope (top 16)⟩
def N_law_pool : List Str := ["script"]
def d_law_take : DefE := ⟨.top "_law_take", "_law_take", "_law_take", C8.fnArgs (top 17), C8.fnBody (top 17), C8.fnScope (top 17)⟩
def N_law_take : List Str := ["pool", "limit", "cell", "got", "k", "mixed"]
def d_law_great : DefE := ⟨.top "_law_great", "_law_great", "_law_great", C8.fnArgs (top 18), C8.fnBody (top 18), C8.fnScope (top 18)⟩
def N_law_great : List Str := ["pool", "most", "way", "got", "k"]
def d_law_depot : DefE := ⟨.top "_law_depot", "_law_depot", "_law_depot", C8.fnArgs (top 19), C8.fnBody (top 19), C8.fnScope (top 19)⟩
def N_law_depot : List Str := ["pool", "drivers", "period", "m", "n", "q", "firsts", "k"]
def d_law_day : DefE := ⟨.top "_law_day", "_law_day", "_law_day", C8.fnArgs (top 20), C8.fnBody (top 20), C8.fnScope (top 20)⟩
def N_law_day : List Str := ["start", "m", "c"]
def d_law_due_numbers : DefE := ⟨.top "_law_due_numbers", "_law_due_numbers", "_law_due_numbers", C8.fnArgs (top 21), C8.fnBody (top 21), C8.fnScope (top 21)⟩
def N_law_due_numbers : List Str := ["plan", "span", "start", "m", "last", "spots", "due", "begun", "front_part", "c", "first"]
def d_law_told_numbers : DefE := ⟨.top "_law_told_numbers", "_law_told_numbers", "_law_told_numbers", C8.fnArgs (top 22), C8.fnBody (top 22), C8.fnScope (top 22)⟩
def N_law_told_numbers : List Str := ["depot", "span", "start", "front_part"]
def d_law : DefE := ⟨.top "law", "law", "law", C8.fnArgs (top 23), C8.fnBody (top 23), C8.fnScope (top 23)⟩
def N_law : List Str := ["script", "pool", "plans", "spans", "starts", "given", "depots", "k", "step", "span", "start", "due"]
def fns : List DefE := [d_check_days, d_check_numbers, d_check_firsts, d_Depot__init, d_Depot_size, d_Depot_places, d_Depot_weekday, d_Depot_closings, d_Depot_last_weekday, d_Depot_due_places, d_Depot_begun, d_law_number, d_law_same, d_law_pool, d_law_take, d_law_great, d_law_depot, d_law_day, d_law_due_numbers, d_law_told_numbers, d_law]
structure Kn (K : PySem.W.Frag) (mg : Str → Option Value) : Prop where
  i_MOST_DAYS : ∃ t, mg "MOST_DAYS" = some (.int 1000000000000000000000000000000 t)
  v_Depot_MOST_PERIOD : ClX.CRead K (He.ga K "Depot") (.type "type") ∧ ∃ t, ClX.CVal K (He.ga K "Depot") (.type "type") "MOST_PERIOD" (.int 8) (.int 8 t)
  g_Depot : mg "Depot" = some (.ref (He.ga K "Depot"))
  i_MOST_QUOTA : ∃ t, mg "MOST_QUOTA" = some (.int 12 t)
  n_len : mg "len" = none
  v_Depot_MOST_DRIVERS : ClX.CRead K (He.ga K "Depot") (.type "type") ∧ ∃ t, ClX.CVal K (He.ga K "Depot") (.type "type") "MOST_DRIVERS" (.int 12) (.int 12 t)
  n_range : mg "range" = none
  c_Depot : Cls K (He.ga K "Depot")
  a_Depot_period : NoAttr K (He.ga K "Depot") "period"
  a_Depot_quota : NoAttr K (He.ga K "Depot") "quota"
  n_tuple : mg "tuple" = none
  a_Depot_firsts : NoAttr K (He.ga K "Depot") "firsts"
  n_list : mg "list" = none
  n_sum : mg "sum" = none
  n_int : mg "int" = none
  n_isinstance : mg "isinstance" = none
  n_bool : mg "bool" = none
  n_str : mg "str" = none
  n_abs : mg "abs" = none
  n_min : mg "min" = none
  g_check_days : mg "check_days" = some (.ref (He.ga K "check_days"))
  g_check_numbers : mg "check_numbers" = some (.ref (He.ga K "check_numbers"))
  g_check_firsts : mg "check_firsts" = some (.ref (He.ga K "check_firsts"))
  k_Depot : Mk K (He.ga K "Depot") (He.ma K (He.ga K "Depot") "__init__")
  p_Depot_size : PropOf K (He.ga K "Depot") "size" (He.ma K (He.ga K "Depot") "size") (getter K "Depot" "size")
  p_Depot_places : PropOf K (He.ga K "Depot") "places" (He.ma K (He.ga K "Depot") "places") (getter K "Depot" "places")
  m_Depot_weekday : Meth K (He.ga K "Depot") "weekday" (He.ma K (He.ga K "Depot") "weekday")
  m_Depot_closings : Meth K (He.ga K "Depot") "closings" (He.ma K (He.ga K "Depot") "closings")
  m_Depot_last_weekday : Meth K (He.ga K "Depot") "last_weekday" (He.ma K (He.ga K "Depot") "last_weekday")
  m_Depot_due_places : Meth K (He.ga K "Depot") "due_places" (He.ma K (He.ga K "Depot") "due_places")
  m_Depot_begun : Meth K (He.ga K "Depot") "begun" (He.ma K (He.ga K "Depot") "begun")
  g__law_number : mg "_law_number" = some (.ref (He.ga K "_law_number"))
  g__law_same : mg "_law_same" = some (.ref (He.ga K "_law_same"))
  g__law_pool : mg "_law_pool" = some (.ref (He.ga K "_law_pool"))
  g__law_take : mg "_law_take" = some (.ref (He.ga K "_law_take"))
  g__law_great : mg "_law_great" = some (.ref (He.ga K "_law_great"))
  g__law_depot : mg "_law_depot" = some (.ref (He.ga K "_law_depot"))
  g__law_day : mg "_law_day" = some (.ref (He.ga K "_law_day"))
  g__law_due_numbers : mg "_law_due_numbers" = some (.ref (He.ga K "_law_due_numbers"))
  g__law_told_numbers : mg "_law_told_numbers" = some (.ref (He.ga K "_law_told_numbers"))
  g_law : mg "law" = some (.ref (He.ga K "law"))
theorem kn_of {K : PySem.W.Frag} {mg : Str → Option Value} {h : Heap} (KX : K.In h) (G : h.Ns mainGlobals mg) (c : SaysX fcs fns K) : Kn K mg where
  i_MOST_DAYS := He.int_ok KX G (c.fact 0 (f := .of (.int "MOST_DAYS" 1000000000000000000000000000000)))
  v_Depot_MOST_PERIOD := ccon_of (c.fact 1 (f := .ccon "Depot" "MOST_PERIOD" 8))
  g_Depot := He.glo_ok KX G (c.fact 2 (f := .of (.glo "Depot")))
  i_MOST_QUOTA := He.int_ok KX G (c.fact 3 (f := .of (.int "MOST_QUOTA" 12)))
  n_len := He.free_ok KX G (c.fact 4 (f := .of (.free "len")))
  v_Depot_MOST_DRIVERS := ccon_of (c.fact 5 (f := .ccon "Depot" "MOST_DRIVERS" 12))
  n_range := He.free_ok KX G (c.fact 6 (f := .of (.free "range")))
  c_Depot := He.cls_ok (c.fact 7 (f := .of (.cls "Depot")))
  a_Depot_period := He.noat_ok (c.fact 8 (f := .of (.noat "Depot" "period")))
  a_Depot_quota := He.noat_ok (c.fact 9 (f := .of (.noat "Depot" "quota")))
  n_tuple := He.free_ok KX G (c.fact 10 (f := .of (.free "tuple")))
  a_Depot_firsts := He.noat_ok (c.fact 11 (f := .of (.noat "Depot" "firsts")))
  n_list := He.free_ok KX G (c.fact 12 (f := .of (.free "list")))
  n_sum := He.free_ok KX G (c.fact 13 (f := .of (.free "sum")))
  n_int := He.free_ok KX G (c.fact 14 (f := .of (.free "int")))
  n_isinstance := He.free_ok KX G (c.fact 15 (f := .of (.free "isinstance")))
  n_bool := He.free_ok KX G (c.fact 16 (f := .of (.free "bool")))
  n_str := He.free_ok KX G (c.fact 17 (f := .of (.free "str")))
  n_abs := He.free_ok KX G (c.fact 18 (f := .of (.free "abs")))
  n_min := He.free_ok KX G (c.fact 19 (f := .of (.free "min")))
  g_check_days := He.glo_ok KX G (c.fact 20 (f := .of (.glo "check_days")))
  g_check_numbers := He.glo_ok KX G (c.fact 21 (f := .of (.glo "check_numbers")))
  g_check_firsts := He.glo_ok KX G (c.fact 22 (f := .of (.glo "check_firsts")))
  k_Depot := He.mkr_ok (c.fact 23 (f := .of (.mkr "Depot")))
  p_Depot_size := prop_of (c.fact 24 (f := .prop "Depot" "size"))
  p_Depot_places := prop_of (c.fact 25 (f := .prop "Depot" "places"))
  m_Depot_weekday := He.meth_ok (c.fact 26 (f := .of (.meth "Depot" "weekday")))
  m_Depot_closings := He.meth_ok (c.fact 27 (f := .of (.meth "Depot" "closings")))
  m_Depot_last_weekday := He.meth_ok (c.fact 28 (f := .of (.meth "Depot" "last_weekday")))
  m_Depot_due_places := He.meth_ok (c.fact 29 (f := .of (.meth "Depot" "due_places")))
  m_Depot_begun := He.meth_ok (c.fact 30 (f := .of (.meth "Depot" "begun")))
  g__law_number := He.glo_ok KX G (c.fact 31 (f := .of (.glo "_law_number")))
  g__law_same := He.glo_ok KX G (c.fact 32 (f := .of (.glo "_law_same")))
  g__law_pool := He.glo_ok KX G (c.fact 33 (f := .of (.glo "_law_pool")))
  g__law_take := He.glo_ok KX G (c.fact 34 (f := .of (.glo "_law_take")))
  g__law_great := He.glo_ok KX G (c.fact 35 (f := .of (.glo "_law_great")))
  g__law_depot := He.glo_ok KX G (c.fact 36 (f := .of (.glo "_law_depot")))
  g__law_day := He.glo_ok KX G (c.fact 37 (f := .of (.glo "_law_day")))
  g__law_due_numbers := He.glo_ok KX G (c.fact 38 (f := .of (.glo "_law_due_numbers")))
  g__law_told_numbers := He.glo_ok KX G (c.fact 39 (f := .of (.glo "_law_told_numbers")))
  g_law := He.glo_ok KX G (c.fact 40 (f := .of (.glo "law")))
def b_check_days : Blk := sIf (eNot (eCh cLe cLe (eC (.int 0)) (eV 0) (eC (.int 1000000000000000000000000000000)))) (sNever) (sNil)
def f_check_days : Fn := fnOf [false] N_check_days.length b_check_days
def b_check_numbers : Blk := sSeq (sIf (eNot (eCh cLe cLe (eC (.int 1)) (eV 0) (eC (.int 8)))) (sNever) (sNil)) (sIf (eNot (eCh cLe cLe (eC (.int 1)) (eV 1) (eC (.int 12)))) (sNever) (sNil))
def f_check_numbers : Fn := fnOf [false, false] N_check_numbers.length b_check_numbers
def b_check_firsts : Blk := sSeq (sIf (eNot (eCh cLe cLe (eC (.int 1)) (eOp oLen [eV 2]) (eC (.int 12)))) (sNever) (sNil)) (sSeq (sSet 3 (eC (.int 0))) (sSeq (sFor (itOp false kR1 [eOp oLen [eV 2]]) (gN 4) (sSeq (sIf (eNot (eCh cLe cLe (eC (.int 1)) (eOp oIx [eV 2, eV 4]) (eV 0))) (sNever) (sNil)) (sIf (eOp oEq [eOp oIx [eV 2, eV 4], eC (.int 1)]) (sAug 3 (o2 (fun _ _ => true) fun i j => .int (i + j)) (eC (.int 1))) (sNil)))) (sIf (eOp oLt [eV 3, eV 1]) (sNever) (sNil))))
def f_check_firsts : Fn := fnOf [false, false, false] N_check_firsts.length b_check_firsts
def b_Depot__init : Blk := sSeq (sExpr (eCall f_check_numbers [.ex (eV 1), .ex (eV 2)])) (sSeq (sExpr (eCall f_check_firsts [.ex (eV 1), .ex (eV 2), .ex (eV 3)])) (sSeq (sFld 0 "Depot" "period" (eV 1)) (sSeq (sFld 0 "Depot" "quota" (eV 2)) (sFld 0 "Depot" "firsts" (eOp oTupOf [eV 3])))))
def f_Depot__init : Fn := fnOf [true, false, false, false] N_Depot__init.length b_Depot__init
def b_Depot_size : Blk := sRet (eOp oLen [eOp (oFld "Depot" "firsts") [eV 0]])
def f_Depot_size : Fn := fnOf [false] N_Depot_size.length b_Depot_size
def b_Depot_places : Blk := sSeq (sSet 1 (eLc true [2] (itOp false kR2 [eC (.int 1), eOp oAdd [eOp (oFld "Depot" "period") [eV 0], eC (.int 1)]]) (gN 2) (eC (.bl true)) (eOp oCountT (eK D.isTupK (eOp (oFld "Depot" "firsts") [eV 0]) :: [eV 2])))) (sSeq (sStore (pN 1) (eOp oSub [eOp oIx [eV 1, eC (.int 0)], eOp (oFld "Depot" "quota") [eV 0]]) (eC (.int 0))) (sRet (eOp oTupOf [eV 1])))
def f_Depot_places : Fn := fnOf [false] N_Depot_places.length b_Depot_places
def b_Depot_weekday : Blk := sSeq (sIf (eOp oLt [eV 1, eC (.int 1)]) (sNever) (sNil)) (sRet (eOp oAdd [eOp oMod [eOp oSub [eV 1, eC (.int 1)], eOp (oFld "Depot" "period") [eV 0]], eC (.int 1)]))
def f_Depot_weekday : Fn := fnOf [false, false] N_Depot_weekday.length b_Depot_weekday
def b_Depot_closings : Blk := sSeq (sExpr (eCall f_check_days [.ex (eV 1)])) (sRet (eOp oFdiv [eV 1, eOp (oFld "Depot" "period") [eV 0]]))
def f_Depot_closings : Fn := fnOf [false, false] N_Depot_closings.length b_Depot_closings
def b_Depot_last_weekday : Blk := sSeq (sExpr (eCall f_check_days [.ex (eV 1)])) (sRet (eOp oAdd [eOp oMod [eV 1, eOp (oFld "Depot" "period") [eV 0]], eC (.int 1)]))
def f_Depot_last_weekday : Fn := fnOf [false, false] N_Depot_last_weekday.length b_Depot_last_weekday
def b_Depot_due_places : Blk := sSeq (sExpr (eCall f_check_days [.ex (eV 1)])) (sSeq (sSet 2 (eOp oListOf [eProp "Depot" "places" f_Depot_places (eV 0)])) (sSeq (sAugS (pN 2) (eOp oMod [eV 1, eOp (oFld "Depot" "period") [eV 0]]) (o2 (fun _ _ => true) fun i j => .int (i + j)) (eOp (oFld "Depot" "quota") [eV 0])) (sRet (eOp oTupOf [eV 2]))))
def f_Depot_due_places : Fn := fnOf [false, false] N_Depot_due_places.length b_Depot_due_places
def b_Depot_begun : Blk := sSeq (sExpr (eCall f_check_days [.ex (eV 1)])) (sSeq (sSet 2 (eFr (eOp oFdiv [eV 1, eOp (oFld "Depot" "period") [eV 0]]))) (sSeq (sSet 3 (eFr (eOp oMod [eV 1, eOp (oFld "Depot" "period") [eV 0]]))) (sRet (eOp oAdd [eOp oMul [eV 2, eOp oSum [eProp "Depot" "places" f_Depot_places (eV 0)]], eOp oSum [eSl false true (eProp "Depot" "places" f_Depot_places (eV 0)) (eC .non) (eV 3)]]))))
def f_Depot_begun : Fn := fnOf [false, false] N_Depot_begun.length b_Depot_begun
def b_law_number : Blk := sRet (eAndV (eOp oIsi [eV 0, eC (.ty "int")]) (eOp oNotV [eOp oIsi [eV 0, eC (.ty "bool")]]))
def f_law_number : Fn := fnOf [false] N_law_number.length b_law_number
def b_law_same (fr : Fn) : Blk := sSeq (sIf (eOp (oIsN false) [eV 1, eC .non]) (sRet (eOp (oIsN false) [eV 0, eC .non])) (sNil)) (sSeq (sIf (tru1 (eOp oIsi [eV 1, eC (.ty "bool")])) (sRet (eAndV (eOp oIsi [eV 0, eC (.ty "bool")]) (eOp oEq [eV 0, eV 1]))) (sNil)) (sSeq (sIf (tru1 (eOp oIsi [eV 1, eC (.ty "int")])) (sRet (eAndV (eCall f_law_number [.ex (eV 0)]) (eOp oEq [eV 0, eV 1]))) (sNil)) (sSeq (sIf (tru1 (eOp oIsi [eV 1, eC (.ty "str")])) (sRet (eAndV (eOp oIsi [eV 0, eC (.ty "str")]) (eOp oEq [eV 0, eV 1]))) (sNil)) (sSeq (sIf (eAnd (tru1 (eOp oIsi [eV 1, eC (.ty "list")])) (eNot (tru1 (eOp oIsi [eV 0, eC (.ty "list")])))) (sRet (eC (.bl false))) (sNil)) (sSeq (sIf (eAnd (tru1 (eOp oIsi [eV 1, eC (.ty "tuple")])) (eNot (tru1 (eOp oIsi [eV 0, eC (.ty "tuple")])))) (sRet (eC (.bl false))) (sNil)) (sSeq (sIf (eOp oNe [eOp oLen [eV 0], eOp oLen [eV 1]]) (sRet (eC (.bl false))) (sNil)) (sSeq (sFor (itOp false kR1 [eOp oLen [eV 1]]) (gN 2) (sIf (eNot (tru1 (eCall fr [.ex (eOp oIx [eV 0, eV 2]), .ex (eOp oIx [eV 1, eV 2])]))) (sRet (eC (.bl false))) (sNil))) (sRet (eC (.bl true))))))))))
def f_law_same : Nat → Fn
  | 0 => fun _ => .stuck
  | n + 1 => fnOf [false, false] N_law_same.length (b_law_same (f_law_same n))
def b_law_pool : Blk := sRet (eOp oLst [eC (.int 0), eC (.int 1), eC (.int 0), eC (.int 0), eOp oListOf [eV 0]])
def f_law_pool : Fn := fnOf [false] N_law_pool.length b_law_pool
def b_law_take : Blk := sSeq (sIf (eAnd (eOp oEq [eOp oIx [eV 0, eC (.int 0)], eC (.int 0)]) (eOp oLt [eOp oIx [eV 0, eC (.int 3)], eOp oLen [eOp oIx [eV 0, eC (.int 4)]]])) (sSeq (sSet 2 (eOp oAbs [eOp oIx [eOp oIx [eV 0, eC (.int 4)], eOp oIx [eV 0, eC (.int 3)]]])) (sSeq (sStore (pN 0) (eOp oAdd [eOp oIx [eV 0, eC (.int 3)], eC (.int 1)]) (eC (.int 3))) (sIf (eOp oGe [eV 2, eOp oPow [eC (.int 10), eC (.int 18)]]) (sStore (pN 0) (eV 2) (eC (.int 0))) (sStore (pN 0) (eOp oMod [eOp oInt [eOp oAdd [eOp oAdd [eOp oMul [eOp oIx [eV 0, eC (.int 1)], eC (.int 48271)], eV 2], eC (.int 1)]], eC (.int 2147483399)]) (eC (.int 1)))))) (sNil)) (sSeq (sIf (eOp oGt [eOp oIx [eV 0, eC (.int 0)], eC (.int 0)]) (sSeq (sSet 3 (eFr (eOp oMod [eOp oInt [eOp oIx [eV 0, eC (.int 0)]], eV 1]))) (sSeq (sStore (pN 0) (eOp oFdiv [eOp oIx [eV 0, eC (.int 0)], eV 1]) (eC (.int 0))) (sRet (eV 3)))) (sNil)) (sSeq (sSet 4 (eFr (eOp oAdd [eOp oIx [eV 0, eC (.int 2)], eC (.int 1)]))) (sSeq (sStore (pN 0) (eV 4) (eC (.int 2))) (sSeq (sSet 5 (eFr (eOp oIx [eV 0, eC (.int 1)]))) (sSeq (sSet 5 (eFr (eOp oMod [eOp oInt [eOp oAdd [eOp oAdd [eOp oMul [eV 5, eV 5], eOp oMul [eV 4, eC (.int 3571)]], eC (.int 40692)]], eC (.int 2147483399)]))) (sSeq (sSet 5 (eFr (eOp oMod [eOp oInt [eOp oAdd [eOp oMul [eV 5, eV 5], eOp oFdiv [eV 5, eC (.int 97)]]], eC (.int 2147483629)]))) (sSeq (sStore (pN 0) (eV 5) (eC (.int 1))) (sRet (eOp oMod [eOp oInt [eOp oFdiv [eV 5, eC (.int 8)]], eV 1])))))))))
def f_law_take : Fn := fnOf [true, false] N_law_take.length b_law_take
def b_law_great : Blk := sSeq (sSet 2 (eCall f_law_take [.sl 0 true, .ex (eC (.int 4))])) (sSeq (sIf (eOp oLt [eV 2, eC (.int 2)]) (sRet (eOp oMin [eV 1, eCall f_law_take [.sl 0 true, .ex (eC (.int 40))]])) (sNil)) (sSeq (sIf (eOp oEq [eV 2, eC (.int 2)]) (sRet (eOp oMin [eV 1, eCall f_law_take [.sl 0 true, .ex (eC (.int 4000))]])) (sNil)) (sSeq (sIf (eOp oGt [eOp oIx [eV 0, eC (.int 0)], eV 1]) (sRet (eCall f_law_take [.sl 0 true, .ex (eOp oAdd [eV 1, eC (.int 1)])])) (sNil)) (sSeq (sSet 3 (eC (.int 0))) (sSeq (sFor (itOp false kR1 [eC (.int 4)]) (gN 4) (sSet 3 (eFr (eOp oAdd [eOp oMul [eV 3, eOp oPow [eC (.int 10), eC (.int 8)]], eCall f_law_take [.sl 0 true, .ex (eOp oPow [eC (.int 10), eC (.int 8)])]])))) (sRet (eOp oMod [eOp oInt [eV 3], eOp oAdd [eV 1, eC (.int 1)]])))))))
def f_law_great : Fn := fnOf [true, false] N_law_great.length b_law_great
def b_law_depot : Blk := sSeq (sSet 3 (eFr (eOp oAdd [eC (.int 1), eCall f_law_take [.sl 0 true, .ex (eV 2)]]))) (sSeq (sSet 4 (eFr (eOp oAdd [eC (.int 1), eCall f_law_take [.sl 0 true, .ex (eV 1)]]))) (sSeq (sSet 5 (eFr (eOp oAdd [eC (.int 1), eCall f_law_take [.sl 0 true, .ex (eV 4)]]))) (sSeq (sIf (eOp oGt [eCall f_law_take [.sl 0 true, .ex (eC (.int 3))], eC (.int 0)]) (sSet 5 (eFr (eOp oAdd [eC (.int 1), eCall f_law_take [.sl 0 true, .ex (eOp oMin [eV 4, eC (.int 2)])]]))) (sNil)) (sSeq (sSet 6 (eOp oMul [eOp oLst [eC (.int 1)], eV 5])) (sSeq (sFor (itOp false kR1 [eOp oSub [eV 4, eV 5]]) (gN 7) (sExpr (eMut (pN 6) mInsert [eCall f_law_take [.sl 0 true, .ex (eOp oAdd [eOp oLen [eV 6], eC (.int 1)])], eOp oAdd [eC (.int 1), eCall f_law_take [.sl 0 true, .ex (eV 3)]]]))) (sRet (eOp oLst [eV 3, eV 5, eFz 6])))))))
def f_law_depot : Fn := fnOf [true, false, false] N_law_depot.length b_law_depot
def b_law_day : Blk := sSeq (sFor (itOp false kR2 [eC (.int 1), eOp oAdd [eV 1, eC (.int 1)]]) (gN 2) (sIf (eOp oEq [eOp oMod [eOp oInt [eOp oSub [eV 0, eV 2]], eV 1], eC (.int 0)]) (sRet (eV 2)) (sNil))) (sRet (eC (.int 0)))
def f_law_day : Fn := fnOf [false, false] N_law_day.length b_law_day
def b_law_due_numbers : Blk := sSeq (sSet 3 (eFr (eOp oIx [eV 0, eC (.int 0)]))) (sSeq (sSet 4 (eCall f_law_day [.ex (eOp oAdd [eV 1, eC (.int 1)]), .ex (eV 3)])) (sSeq (sSet 5 (eLc true [9] (itOp false kR2 [eC (.int 1), eOp oAdd [eV 3, eC (.int 1)]]) (gN 9) (eC (.bl true)) (eOp oLen [eLc true [10] (itSeq false (eOp oIx [eV 0, eC (.int 2)])) (gN 10) (eOp oEq [eV 10, eV 9]) (eV 10)]))) (sSeq (sStore (pN 5) (eOp oSub [eOp oIx [eV 5, eC (.int 0)], eOp oIx [eV 0, eC (.int 1)]]) (eC (.int 0))) (sSeq (sSet 6 (eLc true [9] (itOp false kR2 [eC (.int 1), eOp oAdd [eV 3, eC (.int 1)]]) (gN 9) (eC (.bl true)) (eOp oAdd [eOp oIx [eV 5, eOp oSub [eV 9, eC (.int 1)]], eOp oMul [eOp oIx [eV 0, eC (.int 1)], eOp oInt [eOp oEq [eV 9, eV 4]]]]))) (sSeq (sSet 7 (eOp oSum [eLc true [9] (itOp false kR2 [eC (.int 1), eOp oAdd [eV 3, eC (.int 1)]]) (gN 9) (eC (.bl true)) (eOp oMul [eOp oIx [eV 5, eOp oSub [eV 9, eC (.int 1)]], eOp oFdiv [eOp oAdd [eOp oSub [eV 1, eV 9], eV 3], eV 3]])])) (sSeq (sSet 8 (eOp oTup [eV 3, eOp oIx [eV 0, eC (.int 1)], eOp oTupOf [eOp oIx [eV 0, eC (.int 2)]], eOp oLen [eOp oIx [eV 0, eC (.int 2)]], eOp oTupOf [eV 5], eCall f_law_day [.ex (eV 2), .ex (eV 3)]])) (sRet (eOp oAdd [eV 8, eOp oTup [eOp oFdiv [eV 1, eV 3], eV 4, eOp oTupOf [eV 6], eV 7]]))))))))
def f_law_due_numbers : Fn := fnOf [false, false, false] N_law_due_numbers.length b_law_due_numbers
def b_law_told_numbers : Blk := sSeq (sSet 3 (eOp oTup [eOp (oFld "Depot" "period") [eV 0], eOp (oFld "Depot" "quota") [eV 0], eOp (oFld "Depot" "firsts") [eV 0], eProp "Depot" "size" f_Depot_size (eV 0), eProp "Depot" "places" f_Depot_places (eV 0), eMeth "Depot" "weekday" f_Depot_weekday (eV 0) [.ex (eV 2)]])) (sRet (eOp oAdd [eV 3, eOp oTup [eMeth "Depot" "closings" f_Depot_closings (eV 0) [.ex (eV 1)], eMeth "Depot" "last_weekday" f_Depot_last_weekday (eV 0) [.ex (eV 1)], eMeth "Depot" "due_places" f_Depot_due_places (eV 0) [.ex (eV 1)], eMeth "Depot" "begun" f_Depot_begun (eV 0) [.ex (eV 1)]]]))
def f_law_told_numbers : Fn := fnOf [false, false, false] N_law_told_numbers.length b_law_told_numbers
def b_law : Blk := sSeq (sSet 1 (eCall f_law_pool [.ex (eV 0)])) (sSeq (sSet 2 (eFr (eOp oLst [eCall f_law_depot [.sl 1 true, .ex (eC (.int 12)), .ex (eC (.int 8))], eCall f_law_depot [.sl 1 true, .ex (eC (.int 12)), .ex (eC (.int 8))]]))) (sSeq (sSet 3 (eFr (eOp oLst [eCall f_law_great [.sl 1 true, .ex (eOp oPow [eC (.int 10), eC (.int 30)])], eCall f_law_great [.sl 1 true, .ex (eOp oPow [eC (.int 10), eC (.int 30)])]]))) (sSeq (sSet 4 (eOp oLst [eOp oAdd [eC (.int 1), eCall f_law_great [.sl 1 true, .ex (eOp oAdd [eOp oPow [eC (.int 10), eC (.int 30)], eC (.int 7)])]], eOp oMul [eOp oAdd [eC (.int 1), eCall f_law_great [.sl 1 true, .ex (eOp oAdd [eOp oPow [eC (.int 10), eC (.int 30)], eC (.int 7)])]], eOp oPow [eC (.int 10), eC (.int 12)]]])) (sSeq (sStore (pN 4) (eOp oAdd [eOp oIx [eV 4, eC (.int 1)], eOp oMod [eOp oInt [eOp oIx [eV 3, eC (.int 1)]], eC (.int 840)]]) (eC (.int 1))) (sSeq (sSet 5 (eOp oDeep [eOp oListOf [eOp oIx [eOp oIx [eV 2, eC (.int 0)], eC (.int 2)]], eOp oListOf [eOp oIx [eOp oIx [eV 2, eC (.int 1)], eC (.int 2)]]])) (sSeq (sSet 6 (eOp oLst [])) (sSeq (sFor (itOp false kR1 [eC (.int 2)]) (gN 7) (sIf (eOp oEq [eCall f_law_take [.sl 1 true, .ex (eC (.int 2))], eC (.int 0)]) (sExpr (eMut (pN 6) mAppend [eMake "Depot" f_Depot__init [.ex (eOp oIx [eOp oIx [eV 2, eV 7], eC (.int 0)]), .ex (eOp oIx [eOp oIx [eV 2, eV 7], eC (.int 1)]), .ex (eOp oIx [eV 5, eV 7])]])) (sExpr (eMut (pN 6) mAppend [eMake "Depot" f_Depot__init [.ex (eOp oIx [eOp oIx [eV 2, eV 7], eC (.int 0)]), .ex (eOp oIx [eOp oIx [eV 2, eV 7], eC (.int 1)]), .ex (eOp oTupOf [eOp oIx [eV 5, eV 7]])]])))) (sSeq (sFor (itSeq false (eOp oLst [eOp oTup [eC (.int 0), eC (.int 0)], eOp oTup [eC (.int 1), eC (.int 0)], eOp oTup [eC (.int 0), eC (.int 1)], eOp oTup [eC (.int 1), eC (.int 1)], eOp oTup [eC (.int 0), eC (.int 0)], eOp oTup [eC (.int 1), eC (.int 0)]])) (gN 8) (sSeq (sSet 7 (eFr (eOp oIx [eV 8, eC (.int 0)]))) (sSeq (sSet 9 (eFr (eOp oIx [eV 3, eOp oIx [eV 8, eC (.int 1)]]))) (sSeq (sSet 10 (eFr (eOp oIx [eV 4, eOp oIx [eV 8, eC (.int 1)]]))) (sSeq (sSet 11 (eFr (eCall f_law_due_numbers [.ex (eOp oIx [eV 2, eV 7]), .ex (eV 9), .ex (eV 10)]))) (sSeq (sIf (eNot (tru1 (eCall (f_law_same 4) [.ex (eFr (eCall f_law_told_numbers [.ex (eOp oIx [eV 6, eV 7]), .ex (eV 9), .ex (eV 10)])), .ex (eV 11)]))) (sRet (eC (.bl false))) (sNil)) (sSeq (sIf (eOp oEq [eOp oIx [eOp oIx [eV 5, eV 7], eC (.int 0)], eC (.int 1)]) (sExpr (eMut (pD 5 (eV 7)) mAppend [eC (.int 1)])) (sNil)) (sStore (pD 5 (eV 7)) (eOp oAdd [eC (.int 1), eOp oMod [eOp oInt [eOp oIx [eOp oIx [eV 5, eV 7], eC (.int 0)]], eC (.int 8)]]) (eC (.int 0)))))))))) (sRet (eAndV (eCall (f_law_same 4) [.ex (eC (.int 8)), .ex (eC (.int 8))]) (eCall (f_law_same 4) [.ex (eC (.int 12)), .ex (eC (.int 12))])))))))))))
def f_law : Fn := fnOf [false] N_law.length b_law
section
variable {w : World} {K : PySem.W.Frag} {mg : Str → Option Value} {base : Heap}
theorem w_check_days (kn : Kn K mg)  (cd : Value) (A : Around) (outer : List Env) (s : Shared) (H : Hp) (E : XK) (L : Hp) (hr : Room 0 (A.deeper (envOfC "check_days" (C8.fnScope (top 7)) s.heap.objs.size (d_check_days.loc.adr K) cd))) :
    SB (BX prog w K mg base N_check_days "check_days" (C8.fnScope (top 7)) (d_check_days.loc.adr K) cd A outer s H E) L [] (WB E) (C8.fnBody (top 7)) b_check_days := by
  have nd : N_check_days.Nodup := by decide
  have tk := bx_takes (P := prog) (w := w) (K := K) (mg := mg) (base := base) (N := N_check_days) (qual := "check_days") (scope := C8.fnScope (top 7)) (f := (d_check_days.loc.adr K)) (cd := cd) (A := A) (outer := outer) (s := s) (H := H) (E := E)
  exact sb_one (ss_if (st_not (st_ch op_le op_le (se_int) (se_var 0) (se_globI (by rfl) kn.i_MOST_DAYS))) (sb_one (ss_never)) (sb_nil))
theorem at_check_days (c : SaysX fcs fns K) (kn : Kn K mg)  : FnAt prog w K mg base 1 "check_days" [false] f_check_days := by
  obtain ⟨fd, F⟩ := c.def_ 0
  have S : FnScope N_check_days ["days"] (C8.fnScope (top 7)) := C8.fnScope_by (by decide +kernel)
  have bn : Binds K fd ["days"] [] := F.bindsN fun kV doc pm an cdv ct us hl => by
    obtain ⟨u0, rfl⟩ : ∃ u0, us = [u0] := by
      match us, hl with
      | [u0], _ => exact ⟨u0, rfl⟩
    rfl
  exact ⟨fd, ["days"], fn_rule (iop := [false]) (fx := []) F S rfl (fun i hi => by first | (match i, hi with | 0, hi => simp at hi | _ + 1, hi => simp at hi) | (simp at hi)) (w_check_days kn ), kn.g_check_days, F.kp, bn⟩
theorem w_check_numbers (kn : Kn K mg)  (cd : Value) (A : Around) (outer : List Env) (s : Shared) (H : Hp) (E : XK) (L : Hp) (hr : Room 0 (A.deeper (envOfC "check_numbers" (C8.fnScope (top 10)) s.heap.objs.size (d_check_numbers.loc.adr K) cd))) :
    SB (BX prog w K mg base N_check_numbers "check_numbers" (C8.fnScope (top 10)) (d_check_numbers.loc.adr K) cd A outer s H E) L [] (WB E) (C8.fnBody (top 10)) b_check_numbers := by
  have nd : N_check_numbers.Nodup := by decide
  have tk := bx_takes (P := prog) (w := w) (K := K) (mg := mg) (base := base) (N := N_check_numbers) (qual := "check_numbers") (scope := C8.fnScope (top 10)) (f := (d_check_numbers.loc.adr K)) (cd := cd) (A := A) (outer := outer) (s := s) (H := H) (E := E)
  exact sb_cons (ss_if (st_not (st_ch op_le op_le (se_int) (se_var 0) (c_con kn.v_Depot_MOST_PERIOD kn.g_Depot))) (sb_one (ss_never)) (sb_nil)) (sb_one (ss_if (st_not (st_ch op_le op_le (se_int) (se_var 1) (se_globI (by rfl) kn.i_MOST_QUOTA))) (sb_one (ss_never)) (sb_nil)))
theorem at_check_numbers (c : SaysX fcs fns K) (kn : Kn K mg)  : FnAt prog w K mg base 1 "check_numbers" [false, false] f_check_numbers := by
  obtain ⟨fd, F⟩ := c.def_ 1
  have S : FnScope N_check_numbers ["period", "quota"] (C8.fnScope (top 10)) := C8.fnScope_by (by decide +kernel)
  have bn : Binds K fd ["period", "quota"] [] := F.bindsN fun kV doc pm an cdv ct us hl => by
    obtain ⟨u0, u1, rfl⟩ : ∃ u0 u1, us = [u0, u1] := by
      match us, hl with
      | [u0, u1], _ => exact ⟨u0, u1, rfl⟩
    rfl
  exact ⟨fd, ["period", "quota"], fn_rule (iop := [false, false]) (fx := []) F S rfl (fun i hi => by first | (match i, hi with | 0, hi => simp at hi | 1, hi => simp at hi | _ + 2, hi => simp at hi) | (simp at hi)) (w_check_numbers kn ), kn.g_check_numbers, F.kp, bn⟩
theorem w_check_firsts (kn : Kn K mg)  (cd : Value) (A : Around) (outer : List Env) (s : Shared) (H : Hp) (E : XK) (L : Hp) (hr : Room 0 (A.deeper (envOfC "check_firsts" (C8.fnScope (top 11)) s.heap.objs.size (d_check_firsts.loc.adr K) cd))) :
    SB (BX prog w K mg base N_check_firsts "check_firsts" (C8.fnScope (top 11)) (d_check_firsts.loc.adr K) cd A outer s H E) L [] (WB E) (C8.fnBody (top 11)) b_check_firsts := by
  have nd : N_check_firsts.Nodup := by decide
  have tk := bx_takes (P := prog) (w := w) (K := K) (mg := mg) (base := base) (N := N_check_firsts) (qual := "check_firsts") (scope := C8.fnScope (top 11)) (f := (d_check_firsts.loc.adr K)) (cd := cd) (A := A) (outer := outer) (s := s) (H := H) (E := E)
  exact sb_cons (ss_if (st_not (st_ch op_le op_le (se_int) (b_len kn.n_len (sa_cons (se_var 2) (sa_nil))) (c_con kn.v_Depot_MOST_DRIVERS kn.g_Depot))) (sb_one (ss_never)) (sb_nil)) (sb_cons (ss_set 3 nd (se_int)) (sb_cons (ss_for bx_passes rfl (si_r1 (by rfl) kn.n_range (sa_cons (b_len kn.n_len (sa_cons (se_var 2) (sa_nil))) (sa_nil))) (sg_name 4 nd) (sb_cons (ss_if (st_not (st_ch op_le op_le (se_int) (se_ix (se_var 2) (se_var 4)) (se_var 0))) (sb_one (ss_never)) (sb_nil)) (sb_one (ss_if (t_eq hr.units (se_ix (se_var 2) (se_var 4)) (se_int)) (sb_one (a_add 3 nd (se_int))) (sb_nil))))) (sb_one (ss_if (t_lt (se_var 3) (se_var 1)) (sb_one (ss_never)) (sb_nil)))))
theorem at_check_firsts (c : SaysX fcs fns K) (kn : Kn K mg)  : FnAt prog w K mg base 1 "check_firsts" [false, false, false] f_check_firsts := by
  obtain ⟨fd, F⟩ := c.def_ 2
  have S : FnScope N_check_firsts ["period", "quota", "firsts"] (C8.fnScope (top 11)) := C8.fnScope_by (by decide +kernel)
  have bn : Binds K fd ["period", "quota", "firsts"] [] := F.bindsN fun kV doc pm an cdv ct us hl => by
    obtain ⟨u0, u1, u2, rfl⟩ : ∃ u0 u1 u2, us = [u0, u1, u2] := by
      match us, hl with
      | [u0, u1, u2], _ => exact ⟨u0, u1, u2, rfl⟩
    rfl
  exact ⟨fd, ["period", "quota", "firsts"], fn_rule (iop := [false, false, false]) (fx := []) F S rfl (fun i hi => by first | (match i, hi with | 0, hi => simp at hi | 1, hi => simp at hi | 2, hi => simp at hi | _ + 3, hi => simp at hi) | (simp at hi)) (w_check_firsts kn ), kn.g_check_firsts, F.kp, bn⟩
theorem w_Depot__init (kn : Kn K mg) (h_check_numbers : FnAt prog w K mg base 1 "check_numbers" [false, false] f_check_numbers) (h_check_firsts : FnAt prog w K mg base 1 "check_firsts" [false, false, false] f_check_firsts) (cd : Value) (A : Around) (outer : List Env) (s : Shared) (H : Hp) (E : XK) (L : Hp) (hr : Room 1 (A.deeper (envOfC "Depot.__init__" (C8.fnScope (inn 12 2)) s.heap.objs.size (d_Depot__init.loc.adr K) cd))) :
    SB (BX prog w K mg base N_Depot__init "Depot.__init__" (C8.fnScope (inn 12 2)) (d_Depot__init.loc.adr K) cd A outer s H E) L [0] (WB E) (C8.fnBody (inn 12 2)) b_Depot__init := by
  have nd : N_Depot__init.Nodup := by decide
  have tk := bx_takes (P := prog) (w := w) (K := K) (mg := mg) (base := base) (N := N_Depot__init) (qual := "Depot.__init__") (scope := C8.fnScope (inn 12 2)) (f := (d_Depot__init.loc.adr K)) (cd := cd) (A := A) (outer := outer) (s := s) (H := H) (E := E)
  exact sb_cons (ss_expr (c_fn h_check_numbers hr (by omega) tk (sc_ex (se_var 1) (sc_ex (se_var 2) (sc_nil))))) (sb_cons (ss_expr (c_fn h_check_firsts hr (by omega) tk (sc_ex (se_var 1) (sc_ex (se_var 2) (sc_ex (se_var 3) (sc_nil)))))) (sb_cons (ss_fld 0 "Depot" (se_var 1) kn.c_Depot kn.a_Depot_period) (sb_cons (ss_fld 0 "Depot" (se_var 2) kn.c_Depot kn.a_Depot_quota) (sb_one (ss_fld 0 "Depot" (b_tuple kn.n_tuple (sa_cons (se_var 3) (sa_nil))) kn.c_Depot kn.a_Depot_firsts)))))
theorem at_Depot__init (c : SaysX fcs fns K) (kn : Kn K mg) (h_check_numbers : FnAt prog w K mg base 1 "check_numbers" [false, false] f_check_numbers) (h_check_firsts : FnAt prog w K mg base 1 "check_firsts" [false, false, false] f_check_firsts) : MkAt prog w K mg base 2 "Depot" [false, false, false] f_Depot__init := by
  obtain ⟨fd, F⟩ := c.def_ 3
  have S : FnScope N_Depot__init ["self", "period", "quota", "firsts"] (C8.fnScope (inn 12 2)) := C8.fnScope_by (by decide +kernel)
  have bn : Binds K fd ["self", "period", "quota", "firsts"] [] := F.bindsN fun kV doc pm an cdv ct us hl => by
    obtain ⟨u0, u1, u2, u3, rfl⟩ : ∃ u0 u1 u2 u3, us = [u0, u1, u2, u3] := by
      match us, hl with
      | [u0, u1, u2, u3], _ => exact ⟨u0, u1, u2, u3, rfl⟩
    rfl
  exact ⟨_, fd, ["self", "period", "quota", "firsts"], kn.k_Depot, fn_rule (iop := [true, false, false, false]) (fx := [0]) F S rfl (fun i hi => by first | (match i, hi with | 0, hi => simp | 1, hi => simp at hi | 2, hi => simp at hi | 3, hi => simp at hi | _ + 4, hi => simp at hi) | (simp at hi)) (w_Depot__init kn h_check_numbers h_check_firsts), kn.g_Depot, bn⟩
theorem w_Depot_size (kn : Kn K mg)  (cd : Value) (A : Around) (outer : List Env) (s : Shared) (H : Hp) (E : XK) (L : Hp) (hr : Room 0 (A.deeper (envOfC "Depot.size" (C8.fnScope (inn 12 4)) s.heap.objs.size (d_Depot_size.loc.adr K) cd))) :
    SB (BX prog w K mg base N_Depot_size "Depot.size" (C8.fnScope (inn 12 4)) (d_Depot_size.loc.adr K) cd A outer s H E) L [] (WB E) (C8.fnBody (inn 12 4)) b_Depot_size := by
  have nd : N_Depot_size.Nodup := by decide
  have tk := bx_takes (P := prog) (w := w) (K := K) (mg := mg) (base := base) (N := N_Depot_size) (qual := "Depot.size") (scope := C8.fnScope (inn 12 4)) (f := (d_Depot_size.loc.adr K)) (cd := cd) (A := A) (outer := outer) (s := s) (H := H) (E := E)
  exact sb_one (ss_ret (b_len kn.n_len (sa_cons (se_fld "Depot" (se_var 0) kn.c_Depot kn.a_Depot_firsts) (sa_nil))))
theorem at_Depot_size (c : SaysX fcs fns K) (kn : Kn K mg)  : PrAt prog w K mg base 1 "Depot" "size" f_Depot_size := by
  obtain ⟨fd, F⟩ := c.def_ 4
  have S : FnScope N_Depot_size ["self"] (C8.fnScope (inn 12 4)) := C8.fnScope_by (by decide +kernel)
  have bn : Binds K fd ["self"] [] := F.bindsN fun kV doc pm an cdv ct us hl => by
    obtain ⟨u0, rfl⟩ : ∃ u0, us = [u0] := by
      match us, hl with
      | [u0], _ => exact ⟨u0, rfl⟩
    rfl
  exact ⟨_, _, fd, ["self"], kn.c_Depot, kn.p_Depot_size, fn_rule (iop := [false]) (fx := []) F S rfl (fun i hi => by first | (match i, hi with | 0, hi => simp at hi | _ + 1, hi => simp at hi) | (simp at hi)) (w_Depot_size kn ), bn⟩
theorem w_Depot_places (kn : Kn K mg)  (cd : Value) (A : Around) (outer : List Env) (s : Shared) (H : Hp) (E : XK) (L : Hp) (hr : Room 0 (A.deeper (envOfC "Depot.places" (C8.fnScope (inn 12 5)) s.heap.objs.size (d_Depot_places.loc.adr K) cd))) :
    SB (BX prog w K mg base N_Depot_places "Depot.places" (C8.fnScope (inn 12 5)) (d_Depot_places.loc.adr K) cd A outer s H E) L [] (WB E) (C8.fnBody (inn 12 5)) b_Depot_places := by
  have nd : N_Depot_places.Nodup := by decide
  have tk := bx_takes (P := prog) (w := w) (K := K) (mg := mg) (base := base) (N := N_Depot_places) (qual := "Depot.places") (scope := C8.fnScope (inn 12 5)) (f := (d_Depot_places.loc.adr K)) (cd := cd) (A := A) (outer := outer) (s := s) (H := H) (E := E)
  exact sb_cons (ss_setLc (own := [("weekday", 2)]) true 1 rfl nd (si_r2 (by rfl) kn.n_range (sa_cons (se_int) (sa_cons (q_add (se_fld "Depot" (se_var 0) kn.c_Depot kn.a_Depot_period) (se_int)) (sa_nil)))) (blkOk_by (by kernel_rfl)) (tgw_n) (fun _ _ _ _ _ => sg_name 2 nd (hfx := (by decide : 2 ∉ keptS N_Depot_places.length [2]))) (fun _ _ _ _ _ => sts_nil) (fun _ _ _ _ _ => m_countT (se_fld "Depot" (se_var 0) kn.c_Depot kn.a_Depot_firsts) (sa_cons (se_var 2) (sa_nil))) rfl) (sb_cons (ss_store (q_sub (se_ix (se_var 1) (se_int)) (se_fld "Depot" (se_var 0) kn.c_Depot kn.a_Depot_quota)) (sp_name 1) (se_int)) (sb_one (ss_ret (b_tuple kn.n_tuple (sa_cons (se_var 1) (sa_nil))))))
theorem at_Depot_places (c : SaysX fcs fns K) (kn : Kn K mg)  : PrAt prog w K mg base 1 "Depot" "places" f_Depot_places := by
  obtain ⟨fd, F⟩ := c.def_ 5
  have S : FnScope N_Depot_places ["self"] (C8.fnScope (inn 12 5)) := C8.fnScope_by (by decide +kernel)
  have bn : Binds K fd ["self"] [] := F.bindsN fun kV doc pm an cdv ct us hl => by
    obtain ⟨u0, rfl⟩ : ∃ u0, us = [u0] := by
      match us, hl with
      | [u0], _ => exact ⟨u0, rfl⟩
    rfl
  exact ⟨_, _, fd, ["self"], kn.c_Depot, kn.p_Depot_places, fn_rule (iop := [false]) (fx := []) F S rfl (fun i hi => by first | (match i, hi with | 0, hi => simp at hi | _ + 1, hi => simp at hi) | (simp at hi)) (w_Depot_places kn ), bn⟩
theorem w_Depot_weekday (kn : Kn K mg)  (cd : Value) (A : Around) (outer : List Env) (s : Shared) (H : Hp) (E : XK) (L : Hp) (hr : Room 0 (A.deeper (envOfC "Depot.weekday" (C8.fnScope (inn 12 6)) s.heap.objs.size (d_Depot_weekday.loc.adr K) cd))) :
    SB (BX prog w K mg base N_Depot_weekday "Depot.weekday" (C8.fnScope (inn 12 6)) (d_Depot_weekday.loc.adr K) cd A outer s H E) L [] (WB E) (C8.fnBody (inn 12 6)) b_Depot_weekday := by
  have nd : N_Depot_weekday.Nodup := by decide
  have tk := bx_takes (P := prog) (w := w) (K := K) (mg := mg) (base := base) (N := N_Depot_weekday) (qual := "Depot.weekday") (scope := C8.fnScope (inn 12 6)) (f := (d_Depot_weekday.loc.adr K)) (cd := cd) (A := A) (outer := outer) (s := s) (H := H) (E := E)
  exact sb_cons (ss_if (t_lt (se_var 1) (se_int)) (sb_one (ss_never)) (sb_nil)) (sb_one (ss_ret (q_add (q_mod (q_sub (se_var 1) (se_int)) (se_fld "Depot" (se_var 0) kn.c_Depot kn.a_Depot_period)) (se_int))))
theorem at_Depot_weekday (c : SaysX fcs fns K) (kn : Kn K mg)  : MtAt prog w K mg base 1 "Depot" "weekday" [false, false] f_Depot_weekday := by
  obtain ⟨fd, F⟩ := c.def_ 6
  have S : FnScope N_Depot_weekday ["self", "morning"] (C8.fnScope (inn 12 6)) := C8.fnScope_by (by decide +kernel)
  have bn : Binds K fd ["self", "morning"] [] := F.bindsN fun kV doc pm an cdv ct us hl => by
    obtain ⟨u0, u1, rfl⟩ : ∃ u0 u1, us = [u0, u1] := by
      match us, hl with
      | [u0, u1], _ => exact ⟨u0, u1, rfl⟩
    rfl
  exact ⟨_, fd, ["self", "morning"], kn.c_Depot, kn.m_Depot_weekday, fn_rule (iop := [false, false]) (fx := []) F S rfl (fun i hi => by first | (match i, hi with | 0, hi => simp at hi | 1, hi => simp at hi | _ + 2, hi => simp at hi) | (simp at hi)) (w_Depot_weekday kn ), bn⟩
theorem w_Depot_closings (kn : Kn K mg) (h_check_days : FnAt prog w K mg base 1 "check_days" [false] f_check_days) (cd : Value) (A : Around) (outer : List Env) (s : Shared) (H : Hp) (E : XK) (L : Hp) (hr : Room 1 (A.deeper (envOfC "Depot.closings" (C8.fnScope (inn 12 7)) s.heap.objs.size (d_Depot_closings.loc.adr K) cd))) :
    SB (BX prog w K mg base N_Depot_closings "Depot.closings" (C8.fnScope (inn 12 7)) (d_Depot_closings.loc.adr K) cd A outer s H E) L [] (WB E) (C8.fnBody (inn 12 7)) b_Depot_closings := by
  have nd : N_Depot_closings.Nodup := by decide
  have tk := bx_takes (P := prog) (w := w) (K := K) (mg := mg) (base := base) (N := N_Depot_closings) (qual := "Depot.closings") (scope := C8.fnScope (inn 12 7)) (f := (d_Depot_closings.loc.adr K)) (cd := cd) (A := A) (outer := outer) (s := s) (H := H) (E := E)
  exact sb_cons (ss_expr (c_fn h_check_days hr (by omega) tk (sc_ex (se_var 1) (sc_nil)))) (sb_one (ss_ret (q_fdiv (se_var 1) (se_fld "Depot" (se_var 0) kn.c_Depot kn.a_Depot_period))))
theorem at_Depot_closings (c : SaysX fcs fns K) (kn : Kn K mg) (h_check_days : FnAt prog w K mg base 1 "check_days" [false] f_check_days) : MtAt prog w K mg base 2 "Depot" "closings" [false, false] f_Depot_closings := by
  obtain ⟨fd, F⟩ := c.def_ 7
  have S : FnScope N_Depot_closings ["self", "days"] (C8.fnScope (inn 12 7)) := C8.fnScope_by (by decide +kernel)
  have bn : Binds K fd ["self", "days"] [] := F.bindsN fun kV doc pm an cdv ct us hl => by
    obtain ⟨u0, u1, rfl⟩ : ∃ u0 u1, us = [u0, u1] := by
      match us, hl with
      | [u0, u1], _ => exact ⟨u0, u1, rfl⟩
    rfl
  exact ⟨_, fd, ["self", "days"], kn.c_Depot, kn.m_Depot_closings, fn_rule (iop := [false, false]) (fx := []) F S rfl (fun i hi => by first | (match i, hi with | 0, hi => simp at hi | 1, hi => simp at hi | _ + 2, hi => simp at hi) | (simp at hi)) (w_Depot_closings kn h_check_days), bn⟩
theorem w_Depot_last_weekday (kn : Kn K mg) (h_check_days : FnAt prog w K mg base 1 "check_days" [false] f_check_days) (cd : Value) (A : Around) (outer : List Env) (s : Shared) (H : Hp) (E : XK) (L : Hp) (hr : Room 1 (A.deeper (envOfC "Depot.last_weekday" (C8.fnScope (inn 12 8)) s.heap.objs.size (d_Depot_last_weekday.loc.adr K) cd))) :
    SB (BX prog w K mg base N_Depot_last_weekday "Depot.last_weekday" (C8.fnScope (inn 12 8)) (d_Depot_last_weekday.loc.adr K) cd A outer s H E) L [] (WB E) (C8.fnBody (inn 12 8)) b_Depot_last_weekday := by
  have nd : N_Depot_last_weekday.Nodup := by decide
  have tk := bx_takes (P := prog) (w := w) (K := K) (mg := mg) (base := base) (N := N_Depot_last_weekday) (qual := "Depot.last_weekday") (scope := C8.fnScope (inn 12 8)) (f := (d_Depot_last_weekday.loc.adr K)) (cd := cd) (A := A) (outer := outer) (s := s) (H := H) (E := E)
  exact sb_cons (ss_expr (c_fn h_check_days hr (by omega) tk (sc_ex (se_var 1) (sc_nil)))) (sb_one (ss_ret (q_add (q_mod (se_var 1) (se_fld "Depot" (se_var 0) kn.c_Depot kn.a_Depot_period)) (se_int))))
theorem at_Depot_last_weekday (c : SaysX fcs fns K) (kn : Kn K mg) (h_check_days : FnAt prog w K mg base 1 "check_days" [false] f_check_days) : MtAt prog w K mg base 2 "Depot" "last_weekday" [false, false] f_Depot_last_weekday := by
  obtain ⟨fd, F⟩ := c.def_ 8
  have S : FnScope N_Depot_last_weekday ["self", "days"] (C8.fnScope (inn 12 8)) := C8.fnScope_by (by decide +kernel)
  have bn : Binds K fd ["self", "days"] [] := F.bindsN fun kV doc pm an cdv ct us hl => by
    obtain ⟨u0, u1, rfl⟩ : ∃ u0 u1, us = [u0, u1] := by
      match us, hl with
      | [u0, u1], _ => exact ⟨u0, u1, rfl⟩
    rfl
  exact ⟨_, fd, ["self", "days"], kn.c_Depot, kn.m_Depot_last_weekday, fn_rule (iop := [false, false]) (fx := []) F S rfl (fun i hi => by first | (match i, hi with | 0, hi => simp at hi | 1, hi => simp at hi | _ + 2, hi => simp at hi) | (simp at hi)) (w_Depot_last_weekday kn h_check_days), bn⟩
theorem w_Depot_due_places (kn : Kn K mg) (h_check_days : FnAt prog w K mg base 1 "check_days" [false] f_check_days) (h_Depot_places : PrAt prog w K mg base 1 "Depot" "places" f_Depot_places) (cd : Value) (A : Around) (outer : List Env) (s : Shared) (H : Hp) (E : XK) (L : Hp) (hr : Room 2 (A.deeper (envOfC "Depot.due_places" (C8.fnScope (inn 12 9)) s.heap.objs.size (d_Depot_due_places.loc.adr K) cd))) :
    SB (BX prog w K mg base N_Depot_due_places "Depot.due_places" (C8.fnScope (inn 12 9)) (d_Depot_due_places.loc.adr K) cd A outer s H E) L [] (WB E) (C8.fnBody (inn 12 9)) b_Depot_due_places := by
  have nd : N_Depot_due_places.Nodup := by decide
  have tk := bx_takes (P := prog) (w := w) (K := K) (mg := mg) (base := base) (N := N_Depot_due_places) (qual := "Depot.due_places") (scope := C8.fnScope (inn 12 9)) (f := (d_Depot_due_places.loc.adr K)) (cd := cd) (A := A) (outer := outer) (s := s) (H := H) (E := E)
  exact sb_cons (ss_expr (c_fn h_check_days hr (by omega) tk (sc_ex (se_var 1) (sc_nil)))) (sb_cons (ss_set 2 nd (b_list kn.n_list (sa_cons (c_pr h_Depot_places hr (by omega) (fun _ => se_var 0)) (sa_nil)))) (sb_cons (a_addS (sp_name 2) (q_mod (se_var 1) (se_fld "Depot" (se_var 0) kn.c_Depot kn.a_Depot_period)) (se_fld "Depot" (se_var 0) kn.c_Depot kn.a_Depot_quota)) (sb_one (ss_ret (b_tuple kn.n_tuple (sa_cons (se_var 2) (sa_nil)))))))
theorem at_Depot_due_places (c : SaysX fcs fns K) (kn : Kn K mg) (h_check_days : FnAt prog w K mg base 1 "check_days" [false] f_check_days) (h_Depot_places : PrAt prog w K mg base 1 "Depot" "places" f_Depot_places) : MtAt prog w K mg base 3 "Depot" "due_places" [false, false] f_Depot_due_places := by
  obtain ⟨fd, F⟩ := c.def_ 9
  have S : FnScope N_Depot_due_places ["self", "days"] (C8.fnScope (inn 12 9)) := C8.fnScope_by (by decide +kernel)
  have bn : Binds K fd ["self", "days"] [] := F.bindsN fun kV doc pm an cdv ct us hl => by
    obtain ⟨u0, u1, rfl⟩ : ∃ u0 u1, us = [u0, u1] := by
      match us, hl with
      | [u0, u1], _ => exact ⟨u0, u1, rfl⟩
    rfl
  exact ⟨_, fd, ["self", "days"], kn.c_Depot, kn.m_Depot_due_places, fn_rule (iop := [false, false]) (fx := []) F S rfl (fun i hi => by first | (match i, hi with | 0, hi => simp at hi | 1, hi => simp at hi | _ + 2, hi => simp at hi) | (simp at hi)) (w_Depot_due_places kn h_check_days h_Depot_places), bn⟩
theorem w_Depot_begun (kn : Kn K mg) (h_check_days : FnAt prog w K mg base 1 "check_days" [false] f_check_days) (h_Depot_places : PrAt prog w K mg base 1 "Depot" "places" f_Depot_places) (cd : Value) (A : Around) (outer : List Env) (s : Shared) (H : Hp) (E : XK) (L : Hp) (hr : Room 2 (A.deeper (envOfC "Depot.begun" (C8.fnScope (inn 12 10)) s.heap.objs.size (d_Depot_begun.loc.adr K) cd))) :
    SB (BX prog w K mg base N_Depot_begun "Depot.begun" (C8.fnScope (inn 12 10)) (d_Depot_begun.loc.adr K) cd A outer s H E) L [] (WB E) (C8.fnBody (inn 12 10)) b_Depot_begun := by
  have nd : N_Depot_begun.Nodup := by decide
  have tk := bx_takes (P := prog) (w := w) (K := K) (mg := mg) (base := base) (N := N_Depot_begun) (qual := "Depot.begun") (scope := C8.fnScope (inn 12 10)) (f := (d_Depot_begun.loc.adr K)) (cd := cd) (A := A) (outer := outer) (s := s) (H := H) (E := E)
  exact sb_cons (ss_expr (c_fn h_check_days hr (by omega) tk (sc_ex (se_var 1) (sc_nil)))) (sb_cons (ss_set 2 nd (se_fr (q_fdiv (se_var 1) (se_fld "Depot" (se_var 0) kn.c_Depot kn.a_Depot_period)))) (sb_cons (ss_set 3 nd (se_fr (q_mod (se_var 1) (se_fld "Depot" (se_var 0) kn.c_Depot kn.a_Depot_period)))) (sb_one (ss_ret (q_add (q_mul (se_var 2) (b_sum rfl kn.n_sum (sa_cons (c_pr h_Depot_places hr (by omega) (fun _ => se_var 0)) (sa_nil)))) (b_sum rfl kn.n_sum (sa_cons (se_sl (c_pr h_Depot_places hr (by omega) (fun _ => se_var 0)) (so_non) (so_some (se_var 3))) (sa_nil))))))))
theorem at_Depot_begun (c : SaysX fcs fns K) (kn : Kn K mg) (h_check_days : FnAt prog w K mg base 1 "check_days" [false] f_check_days) (h_Depot_places : PrAt prog w K mg base 1 "Depot" "places" f_Depot_places) : MtAt prog w K mg base 3 "Depot" "begun" [false, false] f_Depot_begun := by
  obtain ⟨fd, F⟩ := c.def_ 10
  have S : FnScope N_Depot_begun ["self", "days"] (C8.fnScope (inn 12 10)) := C8.fnScope_by (by decide +kernel)
  have bn : Binds K fd ["self", "days"] [] := F.bindsN fun kV doc pm an cdv ct us hl => by
    obtain ⟨u0, u1, rfl⟩ : ∃ u0 u1, us = [u0, u1] := by
      match us, hl with
      | [u0, u1], _ => exact ⟨u0, u1, rfl⟩
    rfl
  exact ⟨_, fd, ["self", "days"], kn.c_Depot, kn.m_Depot_begun, fn_rule (iop := [false, false]) (fx := []) F S rfl (fun i hi => by first | (match i, hi with | 0, hi => simp at hi | 1, hi => simp at hi | _ + 2, hi => simp at hi) | (simp at hi)) (w_Depot_begun kn h_check_days h_Depot_places), bn⟩
theorem w_law_number (kn : Kn K mg)  (cd : Value) (A : Around) (outer : List Env) (s : Shared) (H : Hp) (E : XK) (L : Hp) (hr : Room 0 (A.deeper (envOfC "_law_number" (C8.fnScope (top 14)) s.heap.objs.size (d_law_number.loc.adr K) cd))) :
    SB (BX prog w K mg base N_law_number "_law_number" (C8.fnScope (top 14)) (d_law_number.loc.adr K) cd A outer s H E) L [] (WB E) (C8.fnBody (top 14)) b_law_number := by
  have nd : N_law_number.Nodup := by decide
  have tk := bx_takes (P := prog) (w := w) (K := K) (mg := mg) (base := base) (N := N_law_number) (qual := "_law_number") (scope := C8.fnScope (top 14)) (f := (d_law_number.loc.adr K)) (cd := cd) (A := A) (outer := outer) (s := s) (H := H) (E := E)
  exact sb_one (ss_ret (se_and (b_isi kn.n_isinstance (sa_cons (se_var 0) (sa_cons (se_ty kn.n_int (by decide +kernel)) (sa_nil)))) (se_one (se_not (b_isi kn.n_isinstance (sa_cons (se_var 0) (sa_cons (se_ty kn.n_bool (by decide +kernel)) (sa_nil))))))))
theorem at_law_number (c : SaysX fcs fns K) (kn : Kn K mg)  : FnAt prog w K mg base 1 "_law_number" [false] f_law_number := by
  obtain ⟨fd, F⟩ := c.def_ 11
  have S : FnScope N_law_number ["got"] (C8.fnScope (top 14)) := C8.fnScope_by (by decide +kernel)
  have bn : Binds K fd ["got"] [] := F.bindsN fun kV doc pm an cdv ct us hl => by
    obtain ⟨u0, rfl⟩ : ∃ u0, us = [u0] := by
      match us, hl with
      | [u0], _ => exact ⟨u0, rfl⟩
    rfl
  exact ⟨fd, ["got"], fn_rule (iop := [false]) (fx := []) F S rfl (fun i hi => by first | (match i, hi with | 0, hi => simp at hi | _ + 1, hi => simp at hi) | (simp at hi)) (w_law_number kn ), kn.g__law_number, F.kp, bn⟩
theorem w_law_same (kn : Kn K mg) (h_law_number : FnAt prog w K mg base 1 "_law_number" [false] f_law_number) (n : Nat) (h_rec : FnAt prog w K mg base (2 + n) "_law_same" [false, false] (f_law_same n)) (cd : Value) (A : Around) (outer : List Env) (s : Shared) (H : Hp) (E : XK) (L : Hp) (hr : Room (2 + n) (A.deeper (envOfC "_law_same" (C8.fnScope (top 15)) s.heap.objs.size (d_law_same.loc.adr K) cd))) :
    SB (BX prog w K mg base N_law_same "_law_same" (C8.fnScope (top 15)) (d_law_same.loc.adr K) cd A outer s H E) L [] (WB E) (C8.fnBody (top 15)) (b_law_same (f_law_same n)) := by
  have nd : N_law_same.Nodup := by decide
  have tk := bx_takes (P := prog) (w := w) (K := K) (mg := mg) (base := base) (N := N_law_same) (qual := "_law_same") (scope := C8.fnScope (top 15)) (f := (d_law_same.loc.adr K)) (cd := cd) (A := A) (outer := outer) (s := s) (H := H) (E := E)
  exact sb_cons (ss_if (t_is (se_var 1) (se_non)) (sb_one (ss_ret (q_is (se_var 0) (se_non)))) (sb_nil)) (sb_cons (ss_if (st_val (b_isi kn.n_isinstance (sa_cons (se_var 1) (sa_cons (se_ty kn.n_bool (by decide +kernel)) (sa_nil))))) (sb_one (ss_ret (se_and (b_isi kn.n_isinstance (sa_cons (se_var 0) (sa_cons (se_ty kn.n_bool (by decide +kernel)) (sa_nil)))) (se_one (q_eq hr.units (se_var 0) (se_var 1)))))) (sb_nil)) (sb_cons (ss_if (st_val (b_isi kn.n_isinstance (sa_cons (se_var 1) (sa_cons (se_ty kn.n_int (by decide +kernel)) (sa_nil))))) (sb_one (ss_ret (se_and (c_fn h_law_number hr (by omega) tk (sc_ex (se_var 0) (sc_nil))) (se_one (q_eq hr.units (se_var 0) (se_var 1)))))) (sb_nil)) (sb_cons (ss_if (st_val (b_isi kn.n_isinstance (sa_cons (se_var 1) (sa_cons (se_ty kn.n_str (by decide +kernel)) (sa_nil))))) (sb_one (ss_ret (se_and (b_isi kn.n_isinstance (sa_cons (se_var 0) (sa_cons (se_ty kn.n_str (by decide +kernel)) (sa_nil)))) (se_one (q_eq hr.units (se_var 0) (se_var 1)))))) (sb_nil)) (sb_cons (ss_if ((sw_and (st_val (b_isi kn.n_isinstance (sa_cons (se_var 1) (sa_cons (se_ty kn.n_list (by decide +kernel)) (sa_nil))))) (sw_and1 (st_not (st_val (b_isi kn.n_isinstance (sa_cons (se_var 0) (sa_cons (se_ty kn.n_list (by decide +kernel)) (sa_nil)))))))).st) (sb_one (ss_ret (se_bl))) (sb_nil)) (sb_cons (ss_if ((sw_and (st_val (b_isi kn.n_isinstance (sa_cons (se_var 1) (sa_cons (se_ty kn.n_tuple (by decide +kernel)) (sa_nil))))) (sw_and1 (st_not (st_val (b_isi kn.n_isinstance (sa_cons (se_var 0) (sa_cons (se_ty kn.n_tuple (by decide +kernel)) (sa_nil)))))))).st) (sb_one (ss_ret (se_bl))) (sb_nil)) (sb_cons (ss_if (t_ne hr.units (b_len kn.n_len (sa_cons (se_var 0) (sa_nil))) (b_len kn.n_len (sa_cons (se_var 1) (sa_nil)))) (sb_one (ss_ret (se_bl))) (sb_nil)) (sb_cons (ss_for bx_passes rfl (si_r1 (by rfl) kn.n_range (sa_cons (b_len kn.n_len (sa_cons (se_var 1) (sa_nil))) (sa_nil))) (sg_name 2 nd) (sb_one (ss_if (st_not (st_val (c_fn h_rec hr (by omega) tk (sc_ex (se_ix (se_var 0) (se_var 2)) (sc_ex (se_ix (se_var 1) (se_var 2)) (sc_nil)))))) (sb_one (ss_ret (se_bl))) (sb_nil)))) (sb_one (ss_ret (se_bl))))))))))
theorem at_law_same (c : SaysX fcs fns K) (kn : Kn K mg) (h_law_number : FnAt prog w K mg base 1 "_law_number" [false] f_law_number) (n : Nat) : FnAt prog w K mg base (2 + n) "_law_same" [false, false] (f_law_same n) := by
  obtain ⟨fd, F⟩ := c.def_ 12
  have S : FnScope N_law_same ["got", "due"] (C8.fnScope (top 15)) := C8.fnScope_by (by decide +kernel)
  have bn : Binds K fd ["got", "due"] [] := F.bindsN fun kV doc pm an cdv ct us hl => by
    obtain ⟨u0, u1, rfl⟩ : ∃ u0 u1, us = [u0, u1] := by
      match us, hl with
      | [u0, u1], _ => exact ⟨u0, u1, rfl⟩
    rfl
  induction n with
  | zero => exact ⟨fd, ["got", "due"], ⟨fun vs H Q E h => by obtain ⟨_, _, _, _, _, _, z⟩ := h; exact z.elim, fun A outer s H args us vs Q E _ _ _ _ h => by obtain ⟨_, _, _, _, _, _, z⟩ := h; exact z.elim⟩, kn.g__law_same, F.kp, bn⟩
  | succ n ih => exact ⟨fd, ["got", "due"], fn_rule (iop := [false, false]) (fx := []) F S rfl (fun i hi => by first | (match i, hi with | 0, hi => simp at hi | 1, hi => simp at hi | _ + 2, hi => simp at hi) | (simp at hi)) (w_law_same kn h_law_number n ih), kn.g__law_same, F.kp, bn⟩
theorem w_law_pool (kn : Kn K mg)  (cd : Value) (A : Around) (outer : List Env) (s : Shared) (H : Hp) (E : XK) (L : Hp) (hr : Room 0 (A.deeper (envOfC "_law_pool" (C8.fnScope (top 16)) s.heap.objs.size (d_law_pool.loc.adr K) cd))) :
    SB (BX prog w K mg base N_law_pool "_law_pool" (C8.fnScope (top 16)) (d_law_pool.loc.adr K) cd A outer s H E) L [] (WB E) (C8.fnBody (top 16)) b_law_pool := by
  have nd : N_law_pool.Nodup := by decide
  have tk := bx_takes (P := prog) (w := w) (K := K) (mg := mg) (base := base) (N := N_law_pool) (qual := "_law_pool") (scope := C8.fnScope (top 16)) (f := (d_law_pool.loc.adr K)) (cd := cd) (A := A) (outer := outer) (s := s) (H := H) (E := E)
  exact sb_one (ss_ret (se_lst (sa_cons (se_int) (sa_cons (se_int) (sa_cons (se_int) (sa_cons (se_int) (sa_cons (b_list kn.n_list (sa_cons (se_var 0) (sa_nil))) (sa_nil))))))))
theorem at_law_pool (c : SaysX fcs fns K) (kn : Kn K mg)  : FnAt prog w K mg base 1 "_law_pool" [false] f_law_pool := by
  obtain ⟨fd, F⟩ := c.def_ 13
  have S : FnScope N_law_pool ["script"] (C8.fnScope (top 16)) := C8.fnScope_by (by decide +kernel)
  have bn : Binds K fd ["script"] [] := F.bindsN fun kV doc pm an cdv ct us hl => by
    obtain ⟨u0, rfl⟩ : ∃ u0, us = [u0] := by
      match us, hl with
      | [u0], _ => exact ⟨u0, rfl⟩
    rfl
  exact ⟨fd, ["script"], fn_rule (iop := [false]) (fx := []) F S rfl (fun i hi => by first | (match i, hi with | 0, hi => simp at hi | _ + 1, hi => simp at hi) | (simp at hi)) (w_law_pool kn ), kn.g__law_pool, F.kp, bn⟩
theorem w_law_take (kn : Kn K mg)  (cd : Value) (A : Around) (outer : List Env) (s : Shared) (H : Hp) (E : XK) (L : Hp) (hr : Room 0 (A.deeper (envOfC "_law_take" (C8.fnScope (top 17)) s.heap.objs.size (d_law_take.loc.adr K) cd))) :
    SB (BX prog w K mg base N_law_take "_law_take" (C8.fnScope (top 17)) (d_law_take.loc.adr K) cd A outer s H E) L [0] (WB E) (C8.fnBody (top 17)) b_law_take := by
  have nd : N_law_take.Nodup := by decide
  have tk := bx_takes (P := prog) (w := w) (K := K) (mg := mg) (base := base) (N := N_law_take) (qual := "_law_take") (scope := C8.fnScope (top 17)) (f := (d_law_take.loc.adr K)) (cd := cd) (A := A) (outer := outer) (s := s) (H := H) (E := E)
  exact sb_cons (ss_if ((sw_and (t_eq hr.units (se_ix (se_var 0) (se_int)) (se_int)) (sw_and1 (t_lt (se_ix (se_var 0) (se_int)) (b_len kn.n_len (sa_cons (se_ix (se_var 0) (se_int)) (sa_nil)))))).st) (sb_cons (ss_set 2 nd (b_abs kn.n_abs (sa_cons (se_ix (se_ix (se_var 0) (se_int)) (se_ix (se_var 0) (se_int))) (sa_nil)))) (sb_cons (ss_store (q_add (se_ix (se_var 0) (se_int)) (se_int)) (sp_name 0) (se_int)) (sb_one (ss_if (t_ge (se_var 2) (q_pow (se_int) (se_int))) (sb_one (ss_store (se_var 2) (sp_name 0) (se_int))) (sb_one (ss_store (q_mod (b_int kn.n_int (sa_cons (q_add (q_add (q_mul (se_ix (se_var 0) (se_int)) (se_int)) (se_var 2)) (se_int)) (sa_nil))) (se_int)) (sp_name 0) (se_int))))))) (sb_nil)) (sb_cons (ss_if (t_gt (se_ix (se_var 0) (se_int)) (se_int)) (sb_cons (ss_set 3 nd (se_fr (q_mod (b_int kn.n_int (sa_cons (se_ix (se_var 0) (se_int)) (sa_nil))) (se_var 1)))) (sb_cons (ss_store (q_fdiv (se_ix (se_var 0) (se_int)) (se_var 1)) (sp_name 0) (se_int)) (sb_one (ss_ret (se_var 3))))) (sb_nil)) (sb_cons (ss_set 4 nd (se_fr (q_add (se_ix (se_var 0) (se_int)) (se_int)))) (sb_cons (ss_store (se_var 4) (sp_name 0) (se_int)) (sb_cons (ss_set 5 nd (se_fr (se_ix (se_var 0) (se_int)))) (sb_cons (ss_set 5 nd (se_fr (q_mod (b_int kn.n_int (sa_cons (q_add (q_add (q_mul (se_var 5) (se_var 5)) (q_mul (se_var 4) (se_int))) (se_int)) (sa_nil))) (se_int)))) (sb_cons (ss_set 5 nd (se_fr (q_mod (b_int kn.n_int (sa_cons (q_add (q_mul (se_var 5) (se_var 5)) (q_fdiv (se_var 5) (se_int))) (sa_nil))) (se_int)))) (sb_cons (ss_store (se_var 5) (sp_name 0) (se_int)) (sb_one (ss_ret (q_mod (b_int kn.n_int (sa_cons (q_fdiv (se_var 5) (se_int)) (sa_nil))) (se_var 1)))))))))))
theorem at_law_take (c : SaysX fcs fns K) (kn : Kn K mg)  : FnAt prog w K mg base 1 "_law_take" [true, false] f_law_take := by
  obtain ⟨fd, F⟩ := c.def_ 14
  have S : FnScope N_law_take ["pool", "limit"] (C8.fnScope (top 17)) := C8.fnScope_by (by decide +kernel)
  have bn : Binds K fd ["pool", "limit"] [] := F.bindsN fun kV doc pm an cdv ct us hl => by
    obtain ⟨u0, u1, rfl⟩ : ∃ u0 u1, us = [u0, u1] := by
      match us, hl with
      | [u0, u1], _ => exact ⟨u0, u1, rfl⟩
    rfl
  exact ⟨fd, ["pool", "limit"], fn_rule (iop := [true, false]) (fx := [0]) F S rfl (fun i hi => by first | (match i, hi with | 0, hi => simp | 1, hi => simp at hi | _ + 2, hi => simp at hi) | (simp at hi)) (w_law_take kn ), kn.g__law_take, F.kp, bn⟩
theorem w_law_great (kn : Kn K mg) (h_law_take : FnAt prog w K mg base 1 "_law_take" [true, false] f_law_take) (cd : Value) (A : Around) (outer : List Env) (s : Shared) (H : Hp) (E : XK) (L : Hp) (hr : Room 1 (A.deeper (envOfC "_law_great" (C8.fnScope (top 18)) s.heap.objs.size (d_law_great.loc.adr K) cd))) :
    SB (BX prog w K mg base N_law_great "_law_great" (C8.fnScope (top 18)) (d_law_great.loc.adr K) cd A outer s H E) L [0] (WB E) (C8.fnBody (top 18)) b_law_great := by
  have nd : N_law_great.Nodup := by decide
  have tk := bx_takes (P := prog) (w := w) (K := K) (mg := mg) (base := base) (N := N_law_great) (qual := "_law_great") (scope := C8.fnScope (top 18)) (f := (d_law_great.loc.adr K)) (cd := cd) (A := A) (outer := outer) (s := s) (H := H) (E := E)
  exact sb_cons (ss_set 2 nd (c_fn h_law_take hr (by omega) tk (sc_sl 0 true (sc_ex (se_int) (sc_nil))))) (sb_cons (ss_if (t_lt (se_var 2) (se_int)) (sb_one (ss_ret (b_min rfl kn.n_min (sa_cons (se_var 1) (sa_cons (c_fn h_law_take hr (by omega) tk (sc_sl 0 true (sc_ex (se_int) (sc_nil)))) (sa_nil)))))) (sb_nil)) (sb_cons (ss_if (t_eq hr.units (se_var 2) (se_int)) (sb_one (ss_ret (b_min rfl kn.n_min (sa_cons (se_var 1) (sa_cons (c_fn h_law_take hr (by omega) tk (sc_sl 0 true (sc_ex (se_int) (sc_nil)))) (sa_nil)))))) (sb_nil)) (sb_cons (ss_if (t_gt (se_ix (se_var 0) (se_int)) (se_var 1)) (sb_one (ss_ret (c_fn h_law_take hr (by omega) tk (sc_sl 0 true (sc_ex (q_add (se_var 1) (se_int)) (sc_nil)))))) (sb_nil)) (sb_cons (ss_set 3 nd (se_int)) (sb_cons (ss_for bx_passes rfl (si_r1 (by rfl) kn.n_range (sa_cons (se_int) (sa_nil))) (sg_name 4 nd) (sb_one (ss_set 3 nd (se_fr (q_add (q_mul (se_var 3) (q_pow (se_int) (se_int))) (c_fn h_law_take hr (by omega) tk (sc_sl 0 true (sc_ex (q_pow (se_int) (se_int)) (sc_nil))))))))) (sb_one (ss_ret (q_mod (b_int kn.n_int (sa_cons (se_var 3) (sa_nil))) (q_add (se_var 1) (se_int))))))))))
theorem at_law_great (c : SaysX fcs fns K) (kn : Kn K mg) (h_law_take : FnAt prog w K mg base 1 "_law_take" [true, false] f_law_take) : FnAt prog w K mg base 2 "_law_great" [true, false] f_law_great := by
  obtain ⟨fd, F⟩ := c.def_ 15
  have S : FnScope N_law_great ["pool", "most"] (C8.fnScope (top 18)) := C8.fnScope_by (by decide +kernel)
  have bn : Binds K fd ["pool", "most"] [] := F.bindsN fun kV doc pm an cdv ct us hl => by
    obtain ⟨u0, u1, rfl⟩ : ∃ u0 u1, us = [u0, u1] := by
      match us, hl with
      | [u0, u1], _ => exact ⟨u0, u1, rfl⟩
    rfl
  exact ⟨fd, ["pool", "most"], fn_rule (iop := [true, false]) (fx := [0]) F S rfl (fun i hi => by first | (match i, hi with | 0, hi => simp | 1, hi => simp at hi | _ + 2, hi => simp at hi) | (simp at hi)) (w_law_great kn h_law_take), kn.g__law_great, F.kp, bn⟩
theorem w_law_depot (kn : Kn K mg) (h_law_take : FnAt prog w K mg base 1 "_law_take" [true, false] f_law_take) (cd : Value) (A : Around) (outer : List Env) (s : Shared) (H : Hp) (E : XK) (L : Hp) (hr : Room 1 (A.deeper (envOfC "_law_depot" (C8.fnScope (top 19)) s.heap.objs.size (d_law_depot.loc.adr K) cd))) :
    SB (BX prog w K mg base N_law_depot "_law_depot" (C8.fnScope (top 19)) (d_law_depot.loc.adr K) cd A outer s H E) L [0] (WB E) (C8.fnBody (top 19)) b_law_depot := by
  have nd : N_law_depot.Nodup := by decide
  have tk := bx_takes (P := prog) (w := w) (K := K) (mg := mg) (base := base) (N := N_law_depot) (qual := "_law_depot") (scope := C8.fnScope (top 19)) (f := (d_law_depot.loc.adr K)) (cd := cd) (A := A) (outer := outer) (s := s) (H := H) (E := E)
  exact sb_cons (ss_set 3 nd (se_fr (q_add (se_int) (c_fn h_law_take hr (by omega) tk (sc_sl 0 true (sc_ex (se_var 2) (sc_nil))))))) (sb_cons (ss_set 4 nd (se_fr (q_add (se_int) (c_fn h_law_take hr (by omega) tk (sc_sl 0 true (sc_ex (se_var 1) (sc_nil))))))) (sb_cons (ss_set 5 nd (se_fr (q_add (se_int) (c_fn h_law_take hr (by omega) tk (sc_sl 0 true (sc_ex (se_var 4) (sc_nil))))))) (sb_cons (ss_if (t_gt (c_fn h_law_take hr (by omega) tk (sc_sl 0 true (sc_ex (se_int) (sc_nil)))) (se_int)) (sb_one (ss_set 5 nd (se_fr (q_add (se_int) (c_fn h_law_take hr (by omega) tk (sc_sl 0 true (sc_ex (b_min rfl kn.n_min (sa_cons (se_var 4) (sa_cons (se_int) (sa_nil)))) (sc_nil)))))))) (sb_nil)) (sb_cons (ss_set 6 nd (q_mul (se_lst (sa_cons (se_int) (sa_nil))) (se_var 5))) (sb_cons (ss_for bx_passes rfl (si_r1 (by rfl) kn.n_range (sa_cons (q_sub (se_var 4) (se_var 5)) (sa_nil))) (sg_name 7 nd) (sb_one (ss_expr (m_insert (sp_name 6) (sa_cons (c_fn h_law_take hr (by omega) tk (sc_sl 0 true (sc_ex (q_add (b_len kn.n_len (sa_cons (se_var 6) (sa_nil))) (se_int)) (sc_nil)))) (sa_cons (q_add (se_int) (c_fn h_law_take hr (by omega) tk (sc_sl 0 true (sc_ex (se_var 3) (sc_nil))))) (sa_nil))))))) (sb_one (ss_ret (se_lst (sa_cons (se_var 3) (sa_cons (se_var 5) (sa_cons (se_fz 6) (sa_nil))))))))))))
theorem at_law_depot (c : SaysX fcs fns K) (kn : Kn K mg) (h_law_take : FnAt prog w K mg base 1 "_law_take" [true, false] f_law_take) : FnAt prog w K mg base 2 "_law_depot" [true, false, false] f_law_depot := by
  obtain ⟨fd, F⟩ := c.def_ 16
  have S : FnScope N_law_depot ["pool", "drivers", "period"] (C8.fnScope (top 19)) := C8.fnScope_by (by decide +kernel)
  have bn : Binds K fd ["pool", "drivers", "period"] [] := F.bindsN fun kV doc pm an cdv ct us hl => by
    obtain ⟨u0, u1, u2, rfl⟩ : ∃ u0 u1 u2, us = [u0, u1, u2] := by
      match us, hl with
      | [u0, u1, u2], _ => exact ⟨u0, u1, u2, rfl⟩
    rfl
  exact ⟨fd, ["pool", "drivers", "period"], fn_rule (iop := [true, false, false]) (fx := [0]) F S rfl (fun i hi => by first | (match i, hi with | 0, hi => simp | 1, hi => simp at hi | 2, hi => simp at hi | _ + 3, hi => simp at hi) | (simp at hi)) (w_law_depot kn h_law_take), kn.g__law_depot, F.kp, bn⟩
theorem w_law_day (kn : Kn K mg)  (cd : Value) (A : Around) (outer : List Env) (s : Shared) (H : Hp) (E : XK) (L : Hp) (hr : Room 0 (A.deeper (envOfC "_law_day" (C8.fnScope (top 20)) s.heap.objs.size (d_law_day.loc.adr K) cd))) :
    SB (BX prog w K mg base N_law_day "_law_day" (C8.fnScope (top 20)) (d_law_day.loc.adr K) cd A outer s H E) L [] (WB E) (C8.fnBody (top 20)) b_law_day := by
  have nd : N_law_day.Nodup := by decide
  have tk := bx_takes (P := prog) (w := w) (K := K) (mg := mg) (base := base) (N := N_law_day) (qual := "_law_day") (scope := C8.fnScope (top 20)) (f := (d_law_day.loc.adr K)) (cd := cd) (A := A) (outer := outer) (s := s) (H := H) (E := E)
  exact sb_cons (ss_for bx_passes rfl (si_r2 (by rfl) kn.n_range (sa_cons (se_int) (sa_cons (q_add (se_var 1) (se_int)) (sa_nil)))) (sg_name 2 nd) (sb_one (ss_if (t_eq hr.units (q_mod (b_int kn.n_int (sa_cons (q_sub (se_var 0) (se_var 2)) (sa_nil))) (se_var 1)) (se_int)) (sb_one (ss_ret (se_var 2))) (sb_nil)))) (sb_one (ss_ret (se_int)))
theorem at_law_day (c : SaysX fcs fns K) (kn : Kn K mg)  : FnAt prog w K mg base 1 "_law_day" [false, false] f_law_day := by
  obtain ⟨fd, F⟩ := c.def_ 17
  have S : FnScope N_law_day ["start", "m"] (C8.fnScope (top 20)) := C8.fnScope_by (by decide +kernel)
  have bn : Binds K fd ["start", "m"] [] := F.bindsN fun kV doc pm an cdv ct us hl => by
    obtain ⟨u0, u1, rfl⟩ : ∃ u0 u1, us = [u0, u1] := by
      match us, hl with
      | [u0, u1], _ => exact ⟨u0, u1, rfl⟩
    rfl
  exact ⟨fd, ["start", "m"], fn_rule (iop := [false, false]) (fx := []) F S rfl (fun i hi => by first | (match i, hi with | 0, hi => simp at hi | 1, hi => simp at hi | _ + 2, hi => simp at hi) | (simp at hi)) (w_law_day kn ), kn.g__law_day, F.kp, bn⟩
theorem w_law_due_numbers (kn : Kn K mg) (h_law_day : FnAt prog w K mg base 1 "_law_day" [false, false] f_law_day) (cd : Value) (A : Around) (outer : List Env) (s : Shared) (H : Hp) (E : XK) (L : Hp) (hr : Room 1 (A.deeper (envOfC "_law_due_numbers" (C8.fnScope (top 21)) s.heap.objs.size (d_law_due_numbers.loc.adr K) cd))) :
    SB (BX prog w K mg base N_law_due_numbers "_law_due_numbers" (C8.fnScope (top 21)) (d_law_due_numbers.loc.adr K) cd A outer s H E) L [] (WB E) (C8.fnBody (top 21)) b_law_due_numbers := by
  have nd : N_law_due_numbers.Nodup := by decide
  have tk := bx_takes (P := prog) (w := w) (K := K) (mg := mg) (base := base) (N := N_law_due_numbers) (qual := "_law_due_numbers") (scope := C8.fnScope (top 21)) (f := (d_law_due_numbers.loc.adr K)) (cd := cd) (A := A) (outer := outer) (s := s) (H := H) (E := E)
  exact sb_cons (ss_set 3 nd (se_fr (se_ix (se_var 0) (se_int)))) (sb_cons (ss_set 4 nd (c_fn h_law_day hr (by omega) tk (sc_ex (q_add (se_var 1) (se_int)) (sc_ex (se_var 3) (sc_nil))))) (sb_cons (ss_set 5 nd (se_lc (own := [("c", 9)]) true rfl nd (si_r2 (by rfl) kn.n_range (sa_cons (se_int) (sa_cons (q_add (se_var 3) (se_int)) (sa_nil)))) (blkOk_by (by kernel_rfl)) (tgw_n) (fun _ _ _ _ _ => sg_name 9 nd (hfx := (by decide : 9 ∉ keptS N_law_due_numbers.length [9]))) (fun _ _ _ _ _ => sts_nil) (fun _ _ _ _ _ => b_len kn.n_len (sa_cons (se_lc (own := [("first", 10)]) true rfl nd (si_seq (tm := false) (se_ix (se_var 0) (se_int))) (blkOk_by (by kernel_rfl)) (tgw_n) (fun _ _ _ _ _ => sg_name 10 nd (hfx := (by decide : 10 ∉ keptS N_law_due_numbers.length [10]))) (fun _ _ _ _ _ => sts_one (t_eq hr.units (se_var 10) (se_var 9))) (fun _ _ _ _ _ => se_var 10)) (sa_nil))))) (sb_cons (ss_store (q_sub (se_ix (se_var 5) (se_int)) (se_ix (se_var 0) (se_int))) (sp_name 5) (se_int)) (sb_cons (ss_setLc (own := [("c", 9)]) true 6 rfl nd (si_r2 (by rfl) kn.n_range (sa_cons (se_int) (sa_cons (q_add (se_var 3) (se_int)) (sa_nil)))) (blkOk_by (by kernel_rfl)) (tgw_n) (fun _ _ _ _ _ => sg_name 9 nd (hfx := (by decide : 9 ∉ keptS N_law_due_numbers.length [9]))) (fun _ _ _ _ _ => sts_nil) (fun _ _ _ _ _ => q_add (se_ix (se_var 5) (q_sub (se_var 9) (se_int))) (q_mul (se_ix (se_var 0) (se_int)) (b_int kn.n_int (sa_cons (q_eq hr.units (se_var 9) (se_var 4)) (sa_nil))))) rfl) (sb_cons (ss_set 7 nd (b_sum rfl kn.n_sum (sa_cons (se_lc (own := [("c", 9)]) true rfl nd (si_r2 (by rfl) kn.n_range (sa_cons (se_int) (sa_cons (q_add (se_var 3) (se_int)) (sa_nil)))) (blkOk_by (by kernel_rfl)) (tgw_n) (fun _ _ _ _ _ => sg_name 9 nd (hfx := (by decide : 9 ∉ keptS N_law_due_numbers.length [9]))) (fun _ _ _ _ _ => sts_nil) (fun _ _ _ _ _ => q_mul (se_ix (se_var 5) (q_sub (se_var 9) (se_int))) (q_fdiv (q_add (q_sub (se_var 1) (se_var 9)) (se_var 3)) (se_var 3)))) (sa_nil)))) (sb_cons (ss_set 8 nd (se_tup (sa_cons (se_var 3) (sa_cons (se_ix (se_var 0) (se_int)) (sa_cons (b_tuple kn.n_tuple (sa_cons (se_ix (se_var 0) (se_int)) (sa_nil))) (sa_cons (b_len kn.n_len (sa_cons (se_ix (se_var 0) (se_int)) (sa_nil))) (sa_cons (b_tuple kn.n_tuple (sa_cons (se_var 5) (sa_nil))) (sa_cons (c_fn h_law_day hr (by omega) tk (sc_ex (se_var 2) (sc_ex (se_var 3) (sc_nil)))) (sa_nil))))))))) (sb_one (ss_ret (q_add (se_var 8) (se_tup (sa_cons (q_fdiv (se_var 1) (se_var 3)) (sa_cons (se_var 4) (sa_cons (b_tuple kn.n_tuple (sa_cons (se_var 6) (sa_nil))) (sa_cons (se_var 7) (sa_nil)))))))))))))))
theorem at_law_due_numbers (c : SaysX fcs fns K) (kn : Kn K mg) (h_law_day : FnAt prog w K mg base 1 "_law_day" [false, false] f_law_day) : FnAt prog w K mg base 2 "_law_due_numbers" [false, false, false] f_law_due_numbers := by
  obtain ⟨fd, F⟩ := c.def_ 18
  have S : FnScope N_law_due_numbers ["plan", "span", "start"] (C8.fnScope (top 21)) := C8.fnScope_by (by decide +kernel)
  have bn : Binds K fd ["plan", "span", "start"] [] := F.bindsN fun kV doc pm an cdv ct us hl => by
    obtain ⟨u0, u1, u2, rfl⟩ : ∃ u0 u1 u2, us = [u0, u1, u2] := by
      match us, hl with
      | [u0, u1, u2], _ => exact ⟨u0, u1, u2, rfl⟩
    rfl
  exact ⟨fd, ["plan", "span", "start"], fn_rule (iop := [false, false, false]) (fx := []) F S rfl (fun i hi => by first | (match i, hi with | 0, hi => simp at hi | 1, hi => simp at hi | 2, hi => simp at hi | _ + 3, hi => simp at hi) | (simp at hi)) (w_law_due_numbers kn h_law_day), kn.g__law_due_numbers, F.kp, bn⟩
theorem w_law_told_numbers (kn : Kn K mg) (h_Depot_size : PrAt prog w K mg base 1 "Depot" "size" f_Depot_size) (h_Depot_places : PrAt prog w K mg base 1 "Depot" "places" f_Depot_places) (h_Depot_weekday : MtAt prog w K mg base 1 "Depot" "weekday" [false, false] f_Depot_weekday) (h_Depot_closings : MtAt prog w K mg base 2 "Depot" "closings" [false, false] f_Depot_closings) (h_Depot_last_weekday : MtAt prog w K mg base 2 "Depot" "last_weekday" [false, false] f_Depot_last_weekday) (h_Depot_due_places : MtAt prog w K mg base 3 "Depot" "due_places" [false, false] f_Depot_due_places) (h_Depot_begun : MtAt prog w K mg base 3 "Depot" "begun" [false, false] f_Depot_begun) (cd : Value) (A : Around) (outer : List Env) (s : Shared) (H : Hp) (E : XK) (L : Hp) (hr : Room 3 (A.deeper (envOfC "_law_told_numbers" (C8.fnScope (top 22)) s.heap.objs.size (d_law_told_numbers.loc.adr K) cd))) :
    SB (BX prog w K mg base N_law_told_numbers "_law_told_numbers" (C8.fnScope (top 22)) (d_law_told_numbers.loc.adr K) cd A outer s H E) L [] (WB E) (C8.fnBody (top 22)) b_law_told_numbers := by
  have nd : N_law_told_numbers.Nodup := by decide
  have tk := bx_takes (P := prog) (w := w) (K := K) (mg := mg) (base := base) (N := N_law_told_numbers) (qual := "_law_told_numbers") (scope := C8.fnScope (top 22)) (f := (d_law_told_numbers.loc.adr K)) (cd := cd) (A := A) (outer := outer) (s := s) (H := H) (E := E)
  exact sb_cons (ss_set 3 nd (se_tup (sa_cons (se_fld "Depot" (se_var 0) kn.c_Depot kn.a_Depot_period) (sa_cons (se_fld "Depot" (se_var 0) kn.c_Depot kn.a_Depot_quota) (sa_cons (se_fld "Depot" (se_var 0) kn.c_Depot kn.a_Depot_firsts) (sa_cons (c_pr h_Depot_size hr (by omega) (fun _ => se_var 0)) (sa_cons (c_pr h_Depot_places hr (by omega) (fun _ => se_var 0)) (sa_cons (c_mt h_Depot_weekday hr (by omega) tk (se_var 0) (sc_ex (se_var 2) (sc_nil))) (sa_nil))))))))) (sb_one (ss_ret (q_add (se_var 3) (se_tup (sa_cons (c_mt h_Depot_closings hr (by omega) tk (se_var 0) (sc_ex (se_var 1) (sc_nil))) (sa_cons (c_mt h_Depot_last_weekday hr (by omega) tk (se_var 0) (sc_ex (se_var 1) (sc_nil))) (sa_cons (c_mt h_Depot_due_places hr (by omega) tk (se_var 0) (sc_ex (se_var 1) (sc_nil))) (sa_cons (c_mt h_Depot_begun hr (by omega) tk (se_var 0) (sc_ex (se_var 1) (sc_nil))) (sa_nil)))))))))
theorem at_law_told_numbers (c : SaysX fcs fns K) (kn : Kn K mg) (h_Depot_size : PrAt prog w K mg base 1 "Depot" "size" f_Depot_size) (h_Depot_places : PrAt prog w K mg base 1 "Depot" "places" f_Depot_places) (h_Depot_weekday : MtAt prog w K mg base 1 "Depot" "weekday" [false, false] f_Depot_weekday) (h_Depot_closings : MtAt prog w K mg base 2 "Depot" "closings" [false, false] f_Depot_closings) (h_Depot_last_weekday : MtAt prog w K mg base 2 "Depot" "last_weekday" [false, false] f_Depot_last_weekday) (h_Depot_due_places : MtAt prog w K mg base 3 "Depot" "due_places" [false, false] f_Depot_due_places) (h_Depot_begun : MtAt prog w K mg base 3 "Depot" "begun" [false, false] f_Depot_begun) : FnAt prog w K mg base 4 "_law_told_numbers" [false, false, false] f_law_told_numbers := by
  obtain ⟨fd, F⟩ := c.def_ 19
  have S : FnScope N_law_told_numbers ["depot", "span", "start"] (C8.fnScope (top 22)) := C8.fnScope_by (by decide +kernel)
  have bn : Binds K fd ["depot", "span", "start"] [] := F.bindsN fun kV doc pm an cdv ct us hl => by
    obtain ⟨u0, u1, u2, rfl⟩ : ∃ u0 u1 u2, us = [u0, u1, u2] := by
      match us, hl with
      | [u0, u1, u2], _ => exact ⟨u0, u1, u2, rfl⟩
    rfl
  exact ⟨fd, ["depot", "span", "start"], fn_rule (iop := [false, false, false]) (fx := []) F S rfl (fun i hi => by first | (match i, hi with | 0, hi => simp at hi | 1, hi => simp at hi | 2, hi => simp at hi | _ + 3, hi => simp at hi) | (simp at hi)) (w_law_told_numbers kn h_Depot_size h_Depot_places h_Depot_weekday h_Depot_closings h_Depot_last_weekday h_Depot_due_places h_Depot_begun), kn.g__law_told_numbers, F.kp, bn⟩
theorem w_law (kn : Kn K mg) (h_law_pool : FnAt prog w K mg base 1 "_law_pool" [false] f_law_pool) (h_law_depot : FnAt prog w K mg base 2 "_law_depot" [true, false, false] f_law_depot) (h_law_great : FnAt prog w K mg base 2 "_law_great" [true, false] f_law_great) (h_law_take : FnAt prog w K mg base 1 "_law_take" [true, false] f_law_take) (h_Depot__init : MkAt prog w K mg base 2 "Depot" [false, false, false] f_Depot__init) (h_law_due_numbers : FnAt prog w K mg base 2 "_law_due_numbers" [false, false, false] f_law_due_numbers) (h_law_told_numbers : FnAt prog w K mg base 4 "_law_told_numbers" [false, false, false] f_law_told_numbers) (h_law_same : FnAt prog w K mg base (2 + 4) "_law_same" [false, false] (f_law_same 4)) (cd : Value) (A : Around) (outer : List Env) (s : Shared) (H : Hp) (E : XK) (L : Hp) (hr : Room 6 (A.deeper (envOfC "law" (C8.fnScope (top 23)) s.heap.objs.size (d_law.loc.adr K) cd))) :
    SB (BX prog w K mg base N_law "law" (C8.fnScope (top 23)) (d_law.loc.adr K) cd A outer s H E) L [] (WB E) (C8.fnBody (top 23)) b_law := by
  have nd : N_law.Nodup := by decide
  have tk := bx_takes (P := prog) (w := w) (K := K) (mg := mg) (base := base) (N := N_law) (qual := "law") (scope := C8.fnScope (top 23)) (f := (d_law.loc.adr K)) (cd := cd) (A := A) (outer := outer) (s := s) (H := H) (E := E)
  exact sb_cons (ss_set 1 nd (c_fn h_law_pool hr (by omega) tk (sc_ex (se_var 0) (sc_nil)))) (sb_cons (ss_set 2 nd (se_fr (se_lst (sa_cons (c_fn h_law_depot hr (by omega) tk (sc_sl 1 true (sc_ex (se_int) (sc_ex (se_int) (sc_nil))))) (sa_cons (c_fn h_law_depot hr (by omega) tk (sc_sl 1 true (sc_ex (se_int) (sc_ex (se_int) (sc_nil))))) (sa_nil)))))) (sb_cons (ss_set 3 nd (se_fr (se_lst (sa_cons (c_fn h_law_great hr (by omega) tk (sc_sl 1 true (sc_ex (q_pow (se_int) (se_int)) (sc_nil)))) (sa_cons (c_fn h_law_great hr (by omega) tk (sc_sl 1 true (sc_ex (q_pow (se_int) (se_int)) (sc_nil)))) (sa_nil)))))) (sb_cons (ss_set 4 nd (se_lst (sa_cons (q_add (se_int) (c_fn h_law_great hr (by omega) tk (sc_sl 1 true (sc_ex (q_add (q_pow (se_int) (se_int)) (se_int)) (sc_nil))))) (sa_cons (q_mul (q_add (se_int) (c_fn h_law_great hr (by omega) tk (sc_sl 1 true (sc_ex (q_add (q_pow (se_int) (se_int)) (se_int)) (sc_nil))))) (q_pow (se_int) (se_int))) (sa_nil))))) (sb_cons (ss_store (q_add (se_ix (se_var 4) (se_int)) (q_mod (b_int kn.n_int (sa_cons (se_ix (se_var 3) (se_int)) (sa_nil))) (se_int))) (sp_name 4) (se_int)) (sb_cons (ss_set 5 nd (se_deep (sa_cons (b_list kn.n_list (sa_cons (se_ix (se_ix (se_var 2) (se_int)) (se_int)) (sa_nil))) (sa_cons (b_list kn.n_list (sa_cons (se_ix (se_ix (se_var 2) (se_int)) (se_int)) (sa_nil))) (sa_nil))))) (sb_cons (ss_set 6 nd (se_lst (sa_nil))) (sb_cons (ss_for bx_passes rfl (si_r1 (by rfl) kn.n_range (sa_cons (se_int) (sa_nil))) (sg_name 7 nd) (sb_one (ss_if (t_eq hr.units (c_fn h_law_take hr (by omega) tk (sc_sl 1 true (sc_ex (se_int) (sc_nil)))) (se_int)) (sb_one (ss_expr (m_append (sp_name 6) (sa_cons (c_mk h_Depot__init hr (by omega) tk (sc_ex (se_ix (se_ix (se_var 2) (se_var 7)) (se_int)) (sc_ex (se_ix (se_ix (se_var 2) (se_var 7)) (se_int)) (sc_ex (se_ix (se_var 5) (se_var 7)) (sc_nil))))) (sa_nil))))) (sb_one (ss_expr (m_append (sp_name 6) (sa_cons (c_mk h_Depot__init hr (by omega) tk (sc_ex (se_ix (se_ix (se_var 2) (se_var 7)) (se_int)) (sc_ex (se_ix (se_ix (se_var 2) (se_var 7)) (se_int)) (sc_ex (b_tuple kn.n_tuple (sa_cons (se_ix (se_var 5) (se_var 7)) (sa_nil))) (sc_nil))))) (sa_nil)))))))) (sb_cons (ss_for bx_passes rfl (si_seq (tm := false) (se_lst (sa_cons (se_tup (sa_cons (se_int) (sa_cons (se_int) (sa_nil)))) (sa_cons (se_tup (sa_cons (se_int) (sa_cons (se_int) (sa_nil)))) (sa_cons (se_tup (sa_cons (se_int) (sa_cons (se_int) (sa_nil)))) (sa_cons (se_tup (sa_cons (se_int) (sa_cons (se_int) (sa_nil)))) (sa_cons (se_tup (sa_cons (se_int) (sa_cons (se_int) (sa_nil)))) (sa_cons (se_tup (sa_cons (se_int) (sa_cons (se_int) (sa_nil)))) (sa_nil))))))))) (sg_name 8 nd) (sb_cons (ss_set 7 nd (se_fr (se_ix (se_var 8) (se_int)))) (sb_cons (ss_set 9 nd (se_fr (se_ix (se_var 3) (se_ix (se_var 8) (se_int))))) (sb_cons (ss_set 10 nd (se_fr (se_ix (se_var 4) (se_ix (se_var 8) (se_int))))) (sb_cons (ss_set 11 nd (se_fr (c_fn h_law_due_numbers hr (by omega) tk (sc_ex (se_ix (se_var 2) (se_var 7)) (sc_ex (se_var 9) (sc_ex (se_var 10) (sc_nil))))))) (sb_cons (ss_if (st_not (st_val (c_fn h_law_same hr (by omega) tk (sc_ex (se_fr (c_fn h_law_told_numbers hr (by omega) tk (sc_ex (se_ix (se_var 6) (se_var 7)) (sc_ex (se_var 9) (sc_ex (se_var 10) (sc_nil)))))) (sc_ex (se_var 11) (sc_nil)))))) (sb_one (ss_ret (se_bl))) (sb_nil)) (sb_cons (ss_if (t_eq hr.units (se_ix (se_ix (se_var 5) (se_var 7)) (se_int)) (se_int)) (sb_one (ss_expr (m_append (sp_ix 5 (se_var 7) rfl) (sa_cons (se_int) (sa_nil))))) (sb_nil)) (sb_one (ss_store (q_add (se_int) (q_mod (b_int kn.n_int (sa_cons (se_ix (se_ix (se_var 5) (se_var 7)) (se_int)) (sa_nil))) (se_int))) (sp_ix 5 (se_var 7) rfl) (se_int)))))))))) (sb_one (ss_ret (se_and (c_fn h_law_same hr (by omega) tk (sc_ex (c_con kn.v_Depot_MOST_PERIOD kn.g_Depot) (sc_ex (se_int) (sc_nil)))) (se_one (c_fn h_law_same hr (by omega) tk (sc_ex (c_con kn.v_Depot_MOST_DRIVERS kn.g_Depot) (sc_ex (se_int) (sc_nil))))))))))))))))
theorem at_law (c : SaysX fcs fns K) (kn : Kn K mg) (h_law_pool : FnAt prog w K mg base 1 "_law_pool" [false] f_law_pool) (h_law_depot : FnAt prog w K mg base 2 "_law_depot" [true, false, false] f_law_depot) (h_law_great : FnAt prog w K mg base 2 "_law_great" [true, false] f_law_great) (h_law_take : FnAt prog w K mg base 1 "_law_take" [true, false] f_law_take) (h_Depot__init : MkAt prog w K mg base 2 "Depot" [false, false, false] f_Depot__init) (h_law_due_numbers : FnAt prog w K mg base 2 "_law_due_numbers" [false, false, false] f_law_due_numbers) (h_law_told_numbers : FnAt prog w K mg base 4 "_law_told_numbers" [false, false, false] f_law_told_numbers) (h_law_same : FnAt prog w K mg base (2 + 4) "_law_same" [false, false] (f_law_same 4)) : FnAt prog w K mg base 7 "law" [false] f_law := by
  obtain ⟨fd, F⟩ := c.def_ 20
  have S : FnScope N_law ["script"] (C8.fnScope (top 23)) := C8.fnScope_by (by decide +kernel)
  have bn : Binds K fd ["script"] [] := F.bindsN fun kV doc pm an cdv ct us hl => by
    obtain ⟨u0, rfl⟩ : ∃ u0, us = [u0] := by
      match us, hl with
      | [u0], _ => exact ⟨u0, rfl⟩
    rfl
  exact ⟨fd, ["script"], fn_rule (iop := [false]) (fx := []) F S rfl (fun i hi => by first | (match i, hi with | 0, hi => simp at hi | _ + 1, hi => simp at hi) | (simp at hi)) (w_law kn h_law_pool h_law_depot h_law_great h_law_take h_Depot__init h_law_due_numbers h_law_told_numbers h_law_same), kn.g_law, F.kp, bn⟩
theorem ok_all (c : SaysX fcs fns K) (kn : Kn K mg) {fd : FuncData} (F : FunD K "law" "law" (C8.fnArgs (top 23)) (C8.fnBody (top 23)) (C8.fnScope (top 23)) [] [] (d_law.loc.adr K) fd) : FnOk prog w K mg base (L2.CX prog w) 7 (d_law.loc.adr K) fd ["script"] (spF K [false] f_law) := by
  have h_check_days : FnAt prog w K mg base 1 "check_days" [false] f_check_days := at_check_days (w := w) (base := base) c kn 
  have h_check_numbers : FnAt prog w K mg base 1 "check_numbers" [false, false] f_check_numbers := at_check_numbers (w := w) (base := base) c kn 
  have h_check_firsts : FnAt prog w K mg base 1 "check_firsts" [false, false, false] f_check_firsts := at_check_firsts (w := w) (base := base) c kn 
  have h_Depot__init : MkAt prog w K mg base 2 "Depot" [false, false, false] f_Depot__init := at_Depot__init (w := w) (base := base) c kn h_check_numbers h_check_firsts
  have h_Depot_size : PrAt prog w K mg base 1 "Depot" "size" f_Depot_size := at_Depot_size (w := w) (base := base) c kn 
  have h_Depot_places : PrAt prog w K mg base 1 "Depot" "places" f_Depot_places := at_Depot_places (w := w) (base := base) c kn 
  have h_Depot_weekday : MtAt prog w K mg base 1 "Depot" "weekday" [false, false] f_Depot_weekday := at_Depot_weekday (w := w) (base := base) c kn 
  have h_Depot_closings : MtAt prog w K mg base 2 "Depot" "closings" [false, false] f_Depot_closings := at_Depot_closings (w := w) (base := base) c kn h_check_days
  have h_Depot_last_weekday : MtAt prog w K mg base 2 "Depot" "last_weekday" [false, false] f_Depot_last_weekday := at_Depot_last_weekday (w := w) (base := base) c kn h_check_days
  have h_Depot_due_places : MtAt prog w K mg base 3 "Depot" "due_places" [false, false] f_Depot_due_places := at_Depot_due_places (w := w) (base := base) c kn h_check_days h_Depot_places
  have h_Depot_begun : MtAt prog w K mg base 3 "Depot" "begun" [false, false] f_Depot_begun := at_Depot_begun (w := w) (base := base) c kn h_check_days h_Depot_places
  have h_law_number : FnAt prog w K mg base 1 "_law_number" [false] f_law_number := at_law_number (w := w) (base := base) c kn 
  have h_law_same : FnAt prog w K mg base (2 + 4) "_law_same" [false, false] (f_law_same 4) := at_law_same (w := w) (base := base) c kn h_law_number 4
  have h_law_pool : FnAt prog w K mg base 1 "_law_pool" [false] f_law_pool := at_law_pool (w := w) (base := base) c kn 
  have h_law_take : FnAt prog w K mg base 1 "_law_take" [true, false] f_law_take := at_law_take (w := w) (base := base) c kn 
  have h_law_great : FnAt prog w K mg base 2 "_law_great" [true, false] f_law_great := at_law_great (w := w) (base := base) c kn h_law_take
  have h_law_depot : FnAt prog w K mg base 2 "_law_depot" [true, false, false] f_law_depot := at_law_depot (w := w) (base := base) c kn h_law_take
  have h_law_day : FnAt prog w K mg base 1 "_law_day" [false, false] f_law_day := at_law_day (w := w) (base := base) c kn 
  have h_law_due_numbers : FnAt prog w K mg base 2 "_law_due_numbers" [false, false, false] f_law_due_numbers := at_law_due_numbers (w := w) (base := base) c kn h_law_day
  have h_law_told_numbers : FnAt prog w K mg base 4 "_law_told_numbers" [false, false, false] f_law_told_numbers := at_law_told_numbers (w := w) (base := base) c kn h_Depot_size h_Depot_places h_Depot_weekday h_Depot_closings h_Depot_last_weekday h_Depot_due_places h_Depot_begun
  have S : FnScope N_law ["script"] (C8.fnScope (top 23)) := C8.fnScope_by (by decide +kernel)
  exact fn_rule (iop := [false]) (fx := []) F S rfl (fun i hi => by first | (match i, hi with | 0, hi => simp at hi | _ + 1, hi => simp at hi) | (simp at hi)) (w_law kn h_law_pool h_law_depot h_law_great h_law_take h_Depot__init h_law_due_numbers h_law_told_numbers h_law_same)
end
abbrev R : PySem.W.OpenRow := PySem.W.OpenLaw.row PySem.Challenge.rw_everymorning_k00_depot_numbers
abbrev hk : PySem.W.Hook := hookX 6 fcs fns
def ob (s : PySem.W.SharedT) : AlE := lookX 6 fcs fns (HandSHeadRun.getT s)
theorem ob_eq (s : PySem.W.SharedT) : ob s = hk.obs s.abs := lookX_eq (HandSHeadRun.getT_eq s)
def names : List PySem.Str := ["_wall", "EverymorningError", "OutOfRange", "BadDepot", "MOST_DAYS", "check_days", "MOST_QUOTA", "check_numbers", "check_firsts", "Depot", "_law_number", "_law_same", "_law_pool", "_law_take", "_law_great", "_law_depot", "_law_day", "_law_due_numbers", "_law_told_numbers"]
theorem run (w : World) : HandSHeadRun.RunEq R (PySem.W.view R.prog [23]) hk ob 6000 names w := by
  intro os
  kernel_rfl
end Law

/-! the shared parts of the laws: the pool -/
namespace Law
open Ev
theorem eq_int (i j : Int) : oEq [.int i, .int j] = some (.bl (i == j)) := rfl
theorem lt_int (i j : Int) : oLt [.int i, .int j] = some (.bl (decide (i < j))) := rfl
theorem le_int (i j : Int) : oLe [.int i, .int j] = some (.bl (decide (i ≤ j))) := rfl
theorem gt_int (i j : Int) : oGt [.int i, .int j] = some (.bl (decide (j < i))) := rfl
theorem ge_int (i j : Int) : oGe [.int i, .int j] = some (.bl (decide (j ≤ i))) := rfl
theorem sub_int (i j : Int) : oSub [.int i, .int j] = some (.int (i - j)) := rfl
theorem add_int (i j : Int) : oAdd [.int i, .int j] = some (.int (i + j)) := rfl
theorem mod_int {i j : Int} (h : 0 < j) : oMod [.int i, .int j] = some (.int (i % j)) := by
  show (if decide (0 < j) = true then some (D.int (i % j)) else none) = _
  rw [if_pos (decide_eq_true h)]
theorem small_of {i : Int} (h0 : -(2 ^ 64) < i) (h1 : i < 2 ^ 64) : small i = true := decide_eq_true (by omega)
theorem wide_of {i : Int} (h0 : -(2 ^ 200) < i) (h1 : i < 2 ^ 200) : wide i = true := by
  have h : i.natAbs < 2 ^ 200 := by omega
  exact decide_eq_true (Nat.lt_of_lt_of_le h (Nat.pow_le_pow_right (by decide) (by decide)))
theorem mul_int {i j : Int} (h : mulOk i j = true) : oMul [.int i, .int j] = some (.int (i * j)) := by
  show (if mulOk i j = true then some (D.int (i * j)) else none) = _
  rw [if_pos h]
theorem mulL {i j : Int} (h0 : -(2 ^ 64) < i) (h1 : i < 2 ^ 64) : oMul [.int i, .int j] = some (.int (i * j)) := mul_int (by unfold mulOk; rw [small_of h0 h1]; simp)
theorem mulR {i j : Int} (h0 : -(2 ^ 64) < j) (h1 : j < 2 ^ 64) : oMul [.int i, .int j] = some (.int (i * j)) := mul_int (by unfold mulOk; rw [small_of h0 h1]; simp)
theorem fdiv_int {i j : Int} (h : 0 < j) (h1 : wide j = true) : oFdiv [.int i, .int j] = some (.int (i / j)) := by
  show (if divOk j = true then some (D.int (i / j)) else none) = _
  unfold divOk
  rw [decide_eq_true h, h1]
  rfl
theorem pow_int {i j : Int} (h : powOk i j = true) : oPow [.int i, .int j] = some (.int (i ^ j.toNat)) := by
  show (if powOk i j = true then some (D.int (i ^ j.toNat)) else none) = _
  rw [if_pos h]
theorem fn_ret {iop : List Bool} {n : Nat} {b : Blk} {ds ρ : List D} {d : D} (h : b (frameD n ds) = .ok (.ret d, ρ)) (c : d.canFz = true) : fnOf iop n b ds = .ok (d, pick iop ρ) := by
  unfold fnOf
  rw [h]
  show (if d.canFz = true then Out.ok (d, pick iop ρ) else .stuck) = _
  rw [if_pos c]
theorem fn_next {iop : List Bool} {n : Nat} {b : Blk} {ds ρ : List D} (h : b (frameD n ds) = .ok (.next, ρ)) : fnOf iop n b ds = .ok (.non, pick iop ρ) := by
  unfold fnOf
  rw [h]
theorem int_int (i : Int) : oInt [.int i] = some (.int i) := rfl
theorem abs_int (i : Int) : oAbs [.int i] = some (.int (if i < 0 then -i else i)) := rfl
theorem len_seq (t : Bool) (k : Md) (ds : List D) : oLen [.seq t k ds] = some (.int (ds.length : Nat)) := rfl
theorem ix_seq' (t : Bool) (k : Md) (ds : List D) (i : Int) : oIx [.seq t k ds, .int i] = L2.atI ds i := rfl
theorem at_nat {α : Type} (xs : List α) (j : Nat) : L2.atI xs (j : Int) = xs[j]? := by
  cases e : xs[j]? with
  | some v => exact L2.atI_nat e
  | none =>
    unfold L2.atI L2.ixN
    have := List.getElem?_eq_none_iff.mp e
    rw [if_pos (by omega), if_neg (by omega)]
    rfl
theorem at0 {α : Type} (a : α) (xs : List α) : L2.atI (a :: xs) 0 = some a := at_nat (a :: xs) 0
theorem at1 {α : Type} (a b : α) (xs : List α) : L2.atI (a :: b :: xs) 1 = some b := at_nat (a :: b :: xs) 1
theorem at2 {α : Type} (a b c : α) (xs : List α) : L2.atI (a :: b :: c :: xs) 2 = some c := at_nat (a :: b :: c :: xs) 2
theorem at3 {α : Type} (a b c d : α) (xs : List α) : L2.atI (a :: b :: c :: d :: xs) 3 = some d := at_nat (a :: b :: c :: d :: xs) 3
theorem at4 {α : Type} (a b c d e : α) (xs : List α) : L2.atI (a :: b :: c :: d :: e :: xs) 4 = some e := at_nat (a :: b :: c :: d :: e :: xs) 4
theorem ix_of {n i : Nat} (h : i < n) : L2.ixN n (i : Int) = some i := by
  unfold L2.ixN
  rw [if_pos (by omega), if_pos (by omega)]
  rfl
theorem ix0 (n : Nat) : L2.ixN (n + 1) 0 = some 0 := ix_of (Nat.succ_pos n)
theorem ix1 (n : Nat) : L2.ixN (n + 2) 1 = some 1 := ix_of (n := n + 2) (i := 1) (by omega)
theorem ix2 (n : Nat) : L2.ixN (n + 3) 2 = some 2 := ix_of (n := n + 3) (i := 2) (by omega)
theorem ix3 (n : Nat) : L2.ixN (n + 4) 3 = some 3 := ix_of (n := n + 4) (i := 3) (by omega)
theorem ixNeg1 (n : Nat) : L2.ixN (n + 1) (-1) = some n := by
  unfold L2.ixN
  rw [if_neg (by omega), if_pos (by omega)]
  congr 1
  omega
/-- the pool -/
structure Pool where
  a : Int
  b : Int
  c : Int
  n : Nat
  cs : List Int
def Pool.d (p : Pool) : D := D.own [.int p.a, .int p.b, .int p.c, .int (p.n : Int), .lst (p.cs.map .int)]
structure Pool.Fine (p : Pool) : Prop where
  a0 : 0 ≤ p.a
  b0 : 0 ≤ p.b
  b1 : p.b < 2 ^ 31
theorem own_d (p : Pool) : p.d.isOwn = true := rfl
theorem seq_next {b c : Blk} {ρ ρ' : List D} (h : b ρ = .ok (.next, ρ')) : sSeq b c ρ = c ρ' := by
  show (b ρ).bind _ = _
  rw [h]
  rfl
theorem seq_ret {b c : Blk} {ρ ρ' : List D} {d : D} (h : b ρ = .ok (.ret d, ρ')) : sSeq b c ρ = .ok (.ret d, ρ') := by
  show (b ρ).bind _ = _
  rw [h]
  rfl
theorem take_aux {l : Int} (h0 : 0 < l) (h1 : l < 2 ^ 200) : ∃ S R, b_law_take = sSeq S R ∧
    (∀ (a b c : Int) (n : Nat) (cs : List Int), 0 ≤ a → 0 ≤ b → b < 2 ^ 31 → ∃ (q : Pool) (x : D), S [(Pool.mk a b c n cs).d, .int l, .unset, .unset, .unset, .unset] = .ok (.next, [q.d, .int l, x, .unset, .unset, .unset]) ∧ q.Fine) ∧
    ∀ (q : Pool) (x : D), q.Fine → ∃ (q' : Pool) (r : Int) (ρ : List D), R [q.d, .int l, x, .unset, .unset, .unset] = .ok (.ret (.int r), q'.d :: ρ) ∧ q'.Fine ∧ 0 ≤ r ∧ r < l := by
  have hw := wide_of (i := l) (by omega) h1
  refine ⟨_, _, rfl, fun a b c n cs a0 b0 b1 => ?_, fun q x hq => ?_⟩
  · by_cases ha : a = 0
    · by_cases hn : n < cs.length
      · have e1 : L2.atI (cs.map D.int) (n : Int) = some (.int cs[n]) := by
          rw [at_nat, List.getElem?_map, List.getElem?_eq_getElem hn]
          rfl
        have e2 : decide ((n : Int) < ((cs.map D.int).length : Nat)) = true := by
          rw [List.length_map]
          exact decide_eq_true (by omega)
        have e3 : oPow [.int 10, .int 18] = some (.int 1000000000000000000) := pow_int (by decide)
        by_cases hb : (1000000000000000000 : Int) ≤ (if cs[n] < 0 then -cs[n] else cs[n])
        · refine ⟨⟨if cs[n] < 0 then -cs[n] else cs[n], b, c, n + 1, cs⟩, .int (if cs[n] < 0 then -cs[n] else cs[n]), ?_, ⟨by dsimp only; omega, b0, b1⟩⟩
          unfold Pool.d
          subst ha
          simp only [frameD, pick, Nat.sub_self, List.replicate_zero, sSeq, sNil, sSet, sRet, sRetN, sExpr, sIf, sBrk, sCont, sNever, f_eV, f_eMv, f_eFz, f_eC, f_eOp, f_eAnd, f_eOr, f_eNot, f_eIf, f_tru1, f_eCh, f_eFr, f_eAndV, f_eOrV, f_eK, f_eNx, f_eMut, evs_nil, evs_cons, pu_eC, pu_eV, pu_eOp, pu_eK, pu_eFr, pus_nil, pus_cons, getD_0, getD_S, un_un, un_non, un_bl, un_int, un_str, un_seq, un_obj, un_deep, un_fn, un_ty, give, truth, oNot, cLt_d, cLe_d, cGt_d, cGe_d, oNotV, oNeg, D.isTupK, D.isLst, isObj, sFld, putD, Out.bind_ok, Out.bind_exc, Out.bind_stuck, give_some, give_none, List.replicate, List.length_cons, List.length_nil, List.set_cons_zero, List.set_cons_succ, List.getElem?_cons_zero, List.getElem?_cons_succ, List.getElem?_nil, lk_non, lk_bl, lk_int, lk_str, lk_fz, lk_bor, lk_own, lk_tmp, lk_scr, lk_obj, lk_objo, lk_deep, looks_nil, looks_cons, D.stb, D.canFz, D.frz, D.isFz, D.isNon, stbs, getO, pN, sStore, sAug, sAugS, Option.bind_some, Option.map_some, Option.bind_none, Option.map_none, List.nil_append, List.cons_append, Bool.and_true, Bool.true_and, Bool.or_true, Bool.true_or, Bool.and_false, Bool.false_and, Bool.or_false, Bool.false_or, Bool.not_true, Bool.not_false, if_true, if_false, Bool.false_eq_true, reduceIte, List.all_cons, List.all_nil, decide_true, decide_false, eq_int, lt_int, ge_int, ix_seq', at0, at3, at4, e1, e2, e3, hb, len_seq, abs_int, add_int, ix3, ix0, beq_self_eq_true, Int.natCast_add, Int.cast_ofNat_Int]
        · refine ⟨⟨0, (b * 48271 + (if cs[n] < 0 then -cs[n] else cs[n]) + 1) % 2147483399, c, n + 1, cs⟩, .int (if cs[n] < 0 then -cs[n] else cs[n]), ?_, ⟨Int.le_refl 0, Int.emod_nonneg _ (by decide), Int.lt_trans (Int.emod_lt_of_pos _ (by decide)) (by decide)⟩⟩
          unfold Pool.d
          subst ha
          simp only [frameD, pick, Nat.sub_self, List.replicate_zero, sSeq, sNil, sSet, sRet, sRetN, sExpr, sIf, sBrk, sCont, sNever, f_eV, f_eMv, f_eFz, f_eC, f_eOp, f_eAnd, f_eOr, f_eNot, f_eIf, f_tru1, f_eCh, f_eFr, f_eAndV, f_eOrV, f_eK, f_eNx, f_eMut, evs_nil, evs_cons, pu_eC, pu_eV, pu_eOp, pu_eK, pu_eFr, pus_nil, pus_cons, getD_0, getD_S, un_un, un_non, un_bl, un_int, un_str, un_seq, un_obj, un_deep, un_fn, un_ty, give, truth, oNot, cLt_d, cLe_d, cGt_d, cGe_d, oNotV, oNeg, D.isTupK, D.isLst, isObj, sFld, putD, Out.bind_ok, Out.bind_exc, Out.bind_stuck, give_some, give_none, List.replicate, List.length_cons, List.length_nil, List.set_cons_zero, List.set_cons_succ, List.getElem?_cons_zero, List.getElem?_cons_succ, List.getElem?_nil, lk_non, lk_bl, lk_int, lk_str, lk_fz, lk_bor, lk_own, lk_tmp, lk_scr, lk_obj, lk_objo, lk_deep, looks_nil, looks_cons, D.stb, D.canFz, D.frz, D.isFz, D.isNon, stbs, getO, pN, sStore, sAug, sAugS, Option.bind_some, Option.map_some, Option.bind_none, Option.map_none, List.nil_append, List.cons_append, Bool.and_true, Bool.true_and, Bool.or_true, Bool.true_or, Bool.and_false, Bool.false_and, Bool.or_false, Bool.false_or, Bool.not_true, Bool.not_false, if_true, if_false, Bool.false_eq_true, reduceIte, List.all_cons, List.all_nil, decide_true, decide_false, eq_int, lt_int, ge_int, ix_seq', at0, at1, at3, at4, e1, e2, e3, hb, len_seq, abs_int, add_int, ix3, ix1, beq_self_eq_true, Int.natCast_add, Int.cast_ofNat_Int, mulL (i := b) (j := 48271) (by omega) (by omega), int_int, mod_int (j := 2147483399) (by decide)]
      · have e2 : decide ((n : Int) < ((cs.map D.int).length : Nat)) = false := by
          rw [List.length_map]
          exact decide_eq_false (by omega)
        refine ⟨⟨a, b, c, n, cs⟩, .unset, ?_, ⟨a0, b0, b1⟩⟩
        unfold Pool.d
        subst ha
        simp only [frameD, pick, Nat.sub_self, List.replicate_zero, sSeq, sNil, sSet, sRet, sRetN, sExpr, sIf, sBrk, sCont, sNever, f_eV, f_eMv, f_eFz, f_eC, f_eOp, f_eAnd, f_eOr, f_eNot, f_eIf, f_tru1, f_eCh, f_eFr, f_eAndV, f_eOrV, f_eK, f_eNx, f_eMut, evs_nil, evs_cons, pu_eC, pu_eV, pu_eOp, pu_eK, pu_eFr, pus_nil, pus_cons, getD_0, getD_S, un_un, un_non, un_bl, un_int, un_str, un_seq, un_obj, un_deep, un_fn, un_ty, give, truth, oNot, cLt_d, cLe_d, cGt_d, cGe_d, oNotV, oNeg, D.isTupK, D.isLst, isObj, sFld, putD, Out.bind_ok, Out.bind_exc, Out.bind_stuck, give_some, give_none, List.replicate, List.length_cons, List.length_nil, List.set_cons_zero, List.set_cons_succ, List.getElem?_cons_zero, List.getElem?_cons_succ, List.getElem?_nil, lk_non, lk_bl, lk_int, lk_str, lk_fz, lk_bor, lk_own, lk_tmp, lk_scr, lk_obj, lk_objo, lk_deep, looks_nil, looks_cons, D.stb, D.canFz, D.frz, D.isFz, D.isNon, stbs, getO, pN, sStore, sAug, sAugS, Option.bind_some, Option.map_some, Option.bind_none, Option.map_none, List.nil_append, List.cons_append, Bool.and_true, Bool.true_and, Bool.or_true, Bool.true_or, Bool.and_false, Bool.false_and, Bool.or_false, Bool.false_or, Bool.not_true, Bool.not_false, if_true, if_false, Bool.false_eq_true, reduceIte, List.all_cons, List.all_nil, decide_true, decide_false, eq_int, lt_int, ix_seq', at0, at3, at4, e2, len_seq, beq_self_eq_true]
    · have e1 : (a == 0) = false := beq_eq_false_iff_ne.mpr ha
      refine ⟨⟨a, b, c, n, cs⟩, .unset, ?_, ⟨a0, b0, b1⟩⟩
      unfold Pool.d
      simp only [frameD, pick, Nat.sub_self, List.replicate_zero, sSeq, sNil, sSet, sRet, sRetN, sExpr, sIf, sBrk, sCont, sNever, f_eV, f_eMv, f_eFz, f_eC, f_eOp, f_eAnd, f_eOr, f_eNot, f_eIf, f_tru1, f_eCh, f_eFr, f_eAndV, f_eOrV, f_eK, f_eNx, f_eMut, evs_nil, evs_cons, pu_eC, pu_eV, pu_eOp, pu_eK, pu_eFr, pus_nil, pus_cons, getD_0, getD_S, un_un, un_non, un_bl, un_int, un_str, un_seq, un_obj, un_deep, un_fn, un_ty, give, truth, oNot, cLt_d, cLe_d, cGt_d, cGe_d, oNotV, oNeg, D.isTupK, D.isLst, isObj, sFld, putD, Out.bind_ok, Out.bind_exc, Out.bind_stuck, give_some, give_none, List.replicate, List.length_cons, List.length_nil, List.set_cons_zero, List.set_cons_succ, List.getElem?_cons_zero, List.getElem?_cons_succ, List.getElem?_nil, lk_non, lk_bl, lk_int, lk_str, lk_fz, lk_bor, lk_own, lk_tmp, lk_scr, lk_obj, lk_objo, lk_deep, looks_nil, looks_cons, D.stb, D.canFz, D.frz, D.isFz, D.isNon, stbs, getO, pN, sStore, sAug, sAugS, Option.bind_some, Option.map_some, Option.bind_none, Option.map_none, List.nil_append, List.cons_append, Bool.and_true, Bool.true_and, Bool.or_true, Bool.true_or, Bool.and_false, Bool.false_and, Bool.or_false, Bool.false_or, Bool.not_true, Bool.not_false, if_true, if_false, Bool.false_eq_true, reduceIte, List.all_cons, List.all_nil, decide_true, decide_false, eq_int, ix_seq', at0, e1]
  · obtain ⟨a, b, c, n, cs⟩ := q
    obtain ⟨a0, b0, b1⟩ := hq
    dsimp only at a0 b0 b1
    by_cases ha : 0 < a
    · refine ⟨⟨a / l, b, c, n, cs⟩, a % l, [.int l, x, .int (a % l), .unset, .unset], ?_, ⟨Int.ediv_nonneg a0 (by omega), b0, b1⟩, Int.emod_nonneg _ (by omega), Int.emod_lt_of_pos _ h0⟩
      unfold Pool.d
      simp only [frameD, pick, Nat.sub_self, List.replicate_zero, sSeq, sNil, sSet, sRet, sRetN, sExpr, sIf, sBrk, sCont, sNever, f_eV, f_eMv, f_eFz, f_eC, f_eOp, f_eAnd, f_eOr, f_eNot, f_eIf, f_tru1, f_eCh, f_eFr, f_eAndV, f_eOrV, f_eK, f_eNx, f_eMut, evs_nil, evs_cons, pu_eC, pu_eV, pu_eOp, pu_eK, pu_eFr, pus_nil, pus_cons, getD_0, getD_S, un_un, un_non, un_bl, un_int, un_str, un_seq, un_obj, un_deep, un_fn, un_ty, give, truth, oNot, cLt_d, cLe_d, cGt_d, cGe_d, oNotV, oNeg, D.isTupK, D.isLst, isObj, sFld, putD, Out.bind_ok, Out.bind_exc, Out.bind_stuck, give_some, give_none, List.replicate, List.length_cons, List.length_nil, List.set_cons_zero, List.set_cons_succ, List.getElem?_cons_zero, List.getElem?_cons_succ, List.getElem?_nil, lk_non, lk_bl, lk_int, lk_str, lk_fz, lk_bor, lk_own, lk_tmp, lk_scr, lk_obj, lk_objo, lk_deep, looks_nil, looks_cons, D.stb, D.canFz, D.frz, D.isFz, D.isNon, stbs, getO, pN, sStore, sAug, sAugS, Option.bind_some, Option.map_some, Option.bind_none, Option.map_none, List.nil_append, List.cons_append, Bool.and_true, Bool.true_and, Bool.or_true, Bool.true_or, Bool.and_false, Bool.false_and, Bool.or_false, Bool.false_or, Bool.not_true, Bool.not_false, if_true, if_false, Bool.false_eq_true, reduceIte, List.all_cons, List.all_nil, decide_true, decide_false, ix_seq', at0, gt_int, ha, int_int, mod_int h0, fdiv_int h0 hw, ix0]
    · have m1 : 0 ≤ (b * b + (c + 1) * 3571 + 40692) % 2147483399 ∧ (b * b + (c + 1) * 3571 + 40692) % 2147483399 < 2147483399 := ⟨Int.emod_nonneg _ (by decide), Int.emod_lt_of_pos _ (by decide)⟩
      generalize hx : (b * b + (c + 1) * 3571 + 40692) % 2147483399 = m at m1
      have k1 := mulL (i := b) (j := b) (by omega) (by omega)
      have k2 := mulL (i := m) (j := m) (by omega) (by omega)
      have k3 := mulR (i := c + 1) (j := 3571) (by decide) (by decide)
      refine ⟨⟨a, (m * m + m / 97) % 2147483629, c + 1, n, cs⟩, ((m * m + m / 97) % 2147483629 / 8) % l, [.int l, x, .unset, .int (c + 1), .int ((m * m + m / 97) % 2147483629)], ?_, ⟨a0, Int.emod_nonneg _ (by decide), Int.lt_trans (Int.emod_lt_of_pos _ (by decide)) (by decide)⟩, Int.emod_nonneg _ (by omega), Int.emod_lt_of_pos _ h0⟩
      unfold Pool.d
      simp only [frameD, pick, Nat.sub_self, List.replicate_zero, sSeq, sNil, sSet, sRet, sRetN, sExpr, sIf, sBrk, sCont, sNever, f_eV, f_eMv, f_eFz, f_eC, f_eOp, f_eAnd, f_eOr, f_eNot, f_eIf, f_tru1, f_eCh, f_eFr, f_eAndV, f_eOrV, f_eK, f_eNx, f_eMut, evs_nil, evs_cons, pu_eC, pu_eV, pu_eOp, pu_eK, pu_eFr, pus_nil, pus_cons, getD_0, getD_S, un_un, un_non, un_bl, un_int, un_str, un_seq, un_obj, un_deep, un_fn, un_ty, give, truth, oNot, cLt_d, cLe_d, cGt_d, cGe_d, oNotV, oNeg, D.isTupK, D.isLst, isObj, sFld, putD, Out.bind_ok, Out.bind_exc, Out.bind_stuck, give_some, give_none, List.replicate, List.length_cons, List.length_nil, List.set_cons_zero, List.set_cons_succ, List.getElem?_cons_zero, List.getElem?_cons_succ, List.getElem?_nil, lk_non, lk_bl, lk_int, lk_str, lk_fz, lk_bor, lk_own, lk_tmp, lk_scr, lk_obj, lk_objo, lk_deep, looks_nil, looks_cons, D.stb, D.canFz, D.frz, D.isFz, D.isNon, stbs, getO, pN, sStore, sAug, sAugS, Option.bind_some, Option.map_some, Option.bind_none, Option.map_none, List.nil_append, List.cons_append, Bool.and_true, Bool.true_and, Bool.or_true, Bool.true_or, Bool.and_false, Bool.false_and, Bool.or_false, Bool.false_or, Bool.not_true, Bool.not_false, if_true, if_false, Bool.false_eq_true, reduceIte, List.all_cons, List.all_nil, decide_true, decide_false, ix_seq', at0, at1, at2, gt_int, ha, add_int, int_int, k1, k2, k3, hx, mod_int h0, mod_int (j := 2147483399) (by decide), mod_int (j := 2147483629) (by decide), fdiv_int (j := 97) (by decide) (by decide), fdiv_int (j := 8) (by decide) (by decide), ix2, ix1]
theorem take_ok (p : Pool) (hp : p.Fine) {l : Int} (h0 : 0 < l) (h1 : l < 2 ^ 200) : ∃ (q : Pool) (r : Int), f_law_take [p.d, .int l] = .ok (.int r, [q.d]) ∧ q.Fine ∧ 0 ≤ r ∧ r < l := by
  obtain ⟨S, R, e, hS, hR⟩ := take_aux h0 h1
  obtain ⟨a, b, c, n, cs⟩ := p
  obtain ⟨q, x, e1, hq⟩ := hS a b c n cs hp.a0 hp.b0 hp.b1
  obtain ⟨q', r, ρ, e2, hq', r0, r1⟩ := hR q x hq
  refine ⟨q', r, ?_, hq', r0, r1⟩
  have h : b_law_take (frameD N_law_take.length [(Pool.mk a b c n cs).d, .int l]) = .ok (.ret (.int r), q'.d :: ρ) := by
    rw [e]
    exact (seq_next e1).trans e2
  unfold f_law_take
  rw [fn_ret h rfl]
  cases ρ <;> rfl
end Law

/-! the shared parts of the laws: loops; great numbers, depots -/
namespace Law
open Ev
theorem un_d (p : Pool) : p.d.isUn = false := rfl
theorem stb_d (p : Pool) : p.d.stb = true := rfl
theorem getW_d (p : Pool) (ρ : List D) : getW (p.d :: ρ) 0 = some p.d := rfl
theorem passS_d (p : Pool) : passS true p.d = some p.d := rfl
theorem look_d (p : Pool) : p.d.look = .seq false .tmp [.int p.a, .int p.b, .int p.c, .int (p.n : Int), .lst (p.cs.map .int)] := rfl
theorem forL_nil {g : Tg} {b : Blk} {ρ : List D} : forL g b [] ρ = .ok (.next, ρ) := rfl
theorem forL_next {g : Tg} {b : Blk} {d : D} {ds ρ ρ1 ρ2 : List D} (h1 : g d ρ = some ρ1) (h2 : b ρ1 = .ok (.next, ρ2)) : forL g b (d :: ds) ρ = forL g b ds ρ2 := by
  show (match g d ρ with | none => _ | some ρ1 => _) = _
  rw [h1]
  show (b ρ1).bind _ = _
  rw [h2]
  rfl
theorem forL_cont {g : Tg} {b : Blk} {d : D} {ds ρ ρ1 ρ2 : List D} (h1 : g d ρ = some ρ1) (h2 : b ρ1 = .ok (.cont, ρ2)) : forL g b (d :: ds) ρ = forL g b ds ρ2 := by
  show (match g d ρ with | none => _ | some ρ1 => _) = _
  rw [h1]
  show (b ρ1).bind _ = _
  rw [h2]
  rfl
theorem forL_ret {g : Tg} {b : Blk} {d r : D} {ds ρ ρ1 ρ2 : List D} (h1 : g d ρ = some ρ1) (h2 : b ρ1 = .ok (.ret r, ρ2)) : forL g b (d :: ds) ρ = .ok (.ret r, ρ2) := by
  show (match g d ρ with | none => _ | some ρ1 => _) = _
  rw [h1]
  show (b ρ1).bind _ = _
  rw [h2]
  rfl
/-- a loop that runs through -/
theorem forL_ix {g : Tg} {b : Blk} (I : Nat → List D → Prop) : ∀ (ds : List D) (k : Nat) (ρ : List D), I k ρ → (∀ (i : Nat) (d : D) (ρ : List D), ds[i]? = some d → I (k + i) ρ → ∃ ρ1 ρ2, g d ρ = some ρ1 ∧ (b ρ1 = .ok (.next, ρ2) ∨ b ρ1 = .ok (.cont, ρ2)) ∧ I (k + i + 1) ρ2) →
    ∃ ρ', forL g b ds ρ = .ok (.next, ρ') ∧ I (k + ds.length) ρ'
  | [], k, ρ, h, _ => ⟨ρ, rfl, h⟩
  | d :: ds, k, ρ, h, st => by
    obtain ⟨ρ1, ρ2, h1, h2, h3⟩ := st 0 d ρ rfl h
    obtain ⟨ρ', h4, h5⟩ := forL_ix I ds (k + 1) ρ2 h3 fun i d' ρ e hI => by
      have e1 : k + 1 + i = k + (i + 1) := by omega
      rw [e1] at hI ⊢
      exact st (i + 1) d' ρ (by simpa using e) hI
    refine ⟨ρ', ?_, by rw [List.length_cons, ← Nat.add_assoc, Nat.add_right_comm]; exact h5⟩
    rcases h2 with h2 | h2
    · rw [forL_next h1 h2, h4]
    · rw [forL_cont h1 h2, h4]
theorem for_r1 {x : Ex} {g : Tg} {b : Blk} {ρ ρ1 : List D} {j : Int} (h : x.f ρ = .ok (.int j, ρ1)) (hj : rgOk j = true) : sFor (itOp false kR1 [x]) g b ρ = forL g b (rgL 0 j.toNat) ρ1 := by
  show ((itOp false kR1 [x]).f ρ).bind _ = _
  unfold itOp evs evs
  dsimp only
  rw [h, Out.bind_ok]
  have c : ((D.int j).stb || pus []) = true := rfl
  rw [if_pos c, Out.bind_ok, Out.bind_ok]
  unfold kR1
  dsimp only
  rw [if_pos hj]
  rfl
theorem for_r2 {x y : Ex} {g : Tg} {b : Blk} {ρ ρ1 ρ2 : List D} {i j : Int} (h : x.f ρ = .ok (.int i, ρ1)) (h2 : y.f ρ1 = .ok (.int j, ρ2)) (hi : rgOk i = true) (hj : rgOk j = true) : sFor (itOp false kR2 [x, y]) g b ρ = forL g b (rgL i (j - i).toNat) ρ2 := by
  show ((itOp false kR2 [x, y]).f ρ).bind _ = _
  unfold itOp evs evs evs
  dsimp only
  rw [h, Out.bind_ok]
  have c : ((D.int i).stb || pus [y]) = true := rfl
  have c2 : ((D.int j).stb || pus []) = true := rfl
  rw [if_pos c, h2, Out.bind_ok, if_pos c2, Out.bind_ok, Out.bind_ok, Out.bind_ok]
  unfold kR2
  dsimp only
  rw [hi, hj]
  rfl
theorem rgL_get {lo : Int} {n i : Nat} {d : D} (h : (rgL lo n)[i]? = some d) : i < n ∧ d = .int (lo + (i : Int)) := rg_get h
theorem rgL_len (lo : Int) (n : Nat) : (rgL lo n).length = n := by unfold rgL; rw [List.length_map, List.length_range]
theorem rgOk_of {i : Int} (h0 : -(2 ^ 62) ≤ i) (h1 : i < 2 ^ 62) : rgOk i = true := by
  unfold rgOk
  rw [decide_eq_true h0, decide_eq_true h1]
  rfl
theorem min_int (i j : Int) : oMin [.int i, .int j] = some (.int (if j < i then j else i)) := rfl
theorem max_int (i j : Int) : oMax [.int i, .int j] = some (.int (if j > i then j else i)) := rfl
theorem gN_ok {i : Nat} {d : D} {ρ : List D} (h : d.stb = true) : gN i d ρ = some (ρ.set i d) := by
  unfold gN
  rw [if_pos h]
/-- a call that changes the pool, one, two values besides -/
theorem call1 {F : Fn} {p q : Pool} {x : Ex} {ρ : List D} {l : Int} {r : D} (hx : x.f (.unset :: ρ) = .ok (.int l, .unset :: ρ)) (e : F [p.d, .int l] = .ok (r, [q.d])) (hr : r.canFz = true) : (eCall F [.sl 0 true, .ex x]).f (p.d :: ρ) = .ok (r, q.d :: ρ) := by
  have e1 : evc [.sl 0 true, .ex x] (p.d :: ρ) = .ok ([p.d, .int l], .unset :: ρ) := by
    unfold evc
    rw [getW_d]
    dsimp only
    rw [List.set_cons_zero]
    unfold evc
    rw [hx]
    rfl
  rw [f_eCall, e1, Out.bind_ok]
  dsimp only
  rw [show passA (hasIo [.sl 0 true, .ex x]) [.sl 0 true, .ex x] [p.d, .int l] = some [p.d, .int l] from rfl]
  dsimp only
  rw [e]
  dsimp only
  rw [if_pos hr]
  rfl
theorem call2 {F : Fn} {p q : Pool} {x y : Ex} {ρ : List D} {l m : Int} {r : D} (hx : x.f (.unset :: ρ) = .ok (.int l, .unset :: ρ)) (hy : y.f (.unset :: ρ) = .ok (.int m, .unset :: ρ)) (e : F [p.d, .int l, .int m] = .ok (r, [q.d])) (hr : r.canFz = true) : (eCall F [.sl 0 true, .ex x, .ex y]).f (p.d :: ρ) = .ok (r, q.d :: ρ) := by
  have e1 : evc [.sl 0 true, .ex x, .ex y] (p.d :: ρ) = .ok ([p.d, .int l, .int m], .unset :: ρ) := by
    unfold evc
    rw [getW_d]
    dsimp only
    rw [List.set_cons_zero]
    unfold evc
    rw [hx, Out.bind_ok]
    unfold evc
    rw [hy]
    rfl
  rw [f_eCall, e1, Out.bind_ok]
  dsimp only
  rw [show passA (hasIo [.sl 0 true, .ex x, .ex y]) [.sl 0 true, .ex x, .ex y] [p.d, .int l, .int m] = some [p.d, .int l, .int m] from rfl]
  dsimp only
  rw [e]
  dsimp only
  rw [if_pos hr]
  rfl
theorem great_ok (p : Pool) (hp : p.Fine) {m : Int} (h0 : 0 ≤ m) (h1 : m < 2 ^ 190) : ∃ (q : Pool) (r : Int), f_law_great [p.d, .int m] = .ok (.int r, [q.d]) ∧ q.Fine ∧ 0 ≤ r ∧ r ≤ m := by
  obtain ⟨p1, w, e1, f1, w0, w1⟩ := take_ok p hp (l := 4) (by decide) (by decide)
  have fin : ∀ {q : Pool} {r : Int} {ρ : List D}, b_law_great (frameD N_law_great.length [p.d, .int m]) = .ok (.ret (.int r), q.d :: ρ) → f_law_great [p.d, .int m] = .ok (.int r, [q.d]) := fun {q r ρ} h => by
    unfold f_law_great
    rw [fn_ret h rfl]
    cases ρ <;> rfl
  by_cases c1 : w < 2
  · obtain ⟨p2, r, e2, f2, r0, r1⟩ := take_ok p1 f1 (l := 40) (by decide) (by decide)
    refine ⟨p2, if r < m then r else m, fin (ρ := [.int m, .int w, .unset, .unset]) ?_, f2, by split <;> omega, by split <;> omega⟩
    unfold b_law_great N_law_great
    simp only [frameD, pick, Nat.sub_self, List.replicate_zero, sSeq, sNil, sSet, sRet, sRetN, sExpr, sIf, sBrk, sCont, sNever, f_eV, f_eMv, f_eFz, f_eC, f_eOp, f_eAnd, f_eOr, f_eNot, f_eIf, f_tru1, f_eCh, f_eFr, f_eAndV, f_eOrV, f_eK, f_eNx, f_eMut, evs_nil, evs_cons, pu_eC, pu_eV, pu_eOp, pu_eK, pu_eFr, pus_nil, pus_cons, getD_0, getD_S, un_un, un_non, un_bl, un_int, un_str, un_seq, un_obj, un_deep, un_fn, un_ty, give, truth, oNot, cLt_d, cLe_d, cGt_d, cGe_d, oNotV, oNeg, D.isTupK, D.isLst, isObj, sFld, putD, Out.bind_ok, Out.bind_exc, Out.bind_stuck, give_some, give_none, List.replicate, List.length_cons, List.length_nil, List.set_cons_zero, List.set_cons_succ, List.getElem?_cons_zero, List.getElem?_cons_succ, List.getElem?_nil, lk_non, lk_bl, lk_int, lk_str, lk_fz, lk_bor, lk_own, lk_tmp, lk_scr, lk_obj, lk_objo, lk_deep, looks_nil, looks_cons, D.stb, D.canFz, D.frz, D.isFz, D.isNon, stbs, getO, pN, sStore, sAug, sAugS, Option.bind_some, Option.map_some, Option.bind_none, Option.map_none, List.nil_append, List.cons_append, Bool.and_true, Bool.true_and, Bool.or_true, Bool.true_or, Bool.and_false, Bool.false_and, Bool.or_false, Bool.false_or, Bool.not_true, Bool.not_false, if_true, if_false, Bool.false_eq_true, reduceIte, List.all_cons, List.all_nil, decide_true, decide_false, call1 (x := eC (.int 4)) rfl e1 rfl, call1 (x := eC (.int 40)) rfl e2 rfl, lt_int, c1, min_int, stb_d]
  · by_cases c2 : w = 2
    · obtain ⟨p2, r, e2, f2, r0, r1⟩ := take_ok p1 f1 (l := 4000) (by decide) (by decide)
      refine ⟨p2, if r < m then r else m, fin (ρ := [.int m, .int w, .unset, .unset]) ?_, f2, by split <;> omega, by split <;> omega⟩
      subst c2
      unfold b_law_great N_law_great
      simp only [frameD, pick, Nat.sub_self, List.replicate_zero, sSeq, sNil, sSet, sRet, sRetN, sExpr, sIf, sBrk, sCont, sNever, f_eV, f_eMv, f_eFz, f_eC, f_eOp, f_eAnd, f_eOr, f_eNot, f_eIf, f_tru1, f_eCh, f_eFr, f_eAndV, f_eOrV, f_eK, f_eNx, f_eMut, evs_nil, evs_cons, pu_eC, pu_eV, pu_eOp, pu_eK, pu_eFr, pus_nil, pus_cons, getD_0, getD_S, un_un, un_non, un_bl, un_int, un_str, un_seq, un_obj, un_deep, un_fn, un_ty, give, truth, oNot, cLt_d, cLe_d, cGt_d, cGe_d, oNotV, oNeg, D.isTupK, D.isLst, isObj, sFld, putD, Out.bind_ok, Out.bind_exc, Out.bind_stuck, give_some, give_none, List.replicate, List.length_cons, List.length_nil, List.set_cons_zero, List.set_cons_succ, List.getElem?_cons_zero, List.getElem?_cons_succ, List.getElem?_nil, lk_non, lk_bl, lk_int, lk_str, lk_fz, lk_bor, lk_own, lk_tmp, lk_scr, lk_obj, lk_objo, lk_deep, looks_nil, looks_cons, D.stb, D.canFz, D.frz, D.isFz, D.isNon, stbs, getO, pN, sStore, sAug, sAugS, Option.bind_some, Option.map_some, Option.bind_none, Option.map_none, List.nil_append, List.cons_append, Bool.and_true, Bool.true_and, Bool.or_true, Bool.true_or, Bool.and_false, Bool.false_and, Bool.or_false, Bool.false_or, Bool.not_true, Bool.not_false, if_true, if_false, Bool.false_eq_true, reduceIte, List.all_cons, List.all_nil, decide_true, decide_false, call1 (x := eC (.int 4)) rfl e1 rfl, call1 (x := eC (.int 4000)) rfl e2 rfl, lt_int, c1, min_int, stb_d, eq_int, beq_self_eq_true]
    · have c2' : (w == 2) = false := beq_eq_false_iff_ne.mpr c2
      by_cases c3 : m < p1.a
      · obtain ⟨p2, r, e2, f2, r0, r1⟩ := take_ok p1 f1 (l := m + 1) (by omega) (by omega)
        refine ⟨p2, r, fin (ρ := [.int m, .int w, .unset, .unset]) ?_, f2, r0, by omega⟩
        unfold b_law_great N_law_great
        simp only [frameD, pick, Nat.sub_self, List.replicate_zero, sSeq, sNil, sSet, sRet, sRetN, sExpr, sIf, sBrk, sCont, sNever, f_eV, f_eMv, f_eFz, f_eC, f_eOp, f_eAnd, f_eOr, f_eNot, f_eIf, f_tru1, f_eCh, f_eFr, f_eAndV, f_eOrV, f_eK, f_eNx, f_eMut, evs_nil, evs_cons, pu_eC, pu_eV, pu_eOp, pu_eK, pu_eFr, pus_nil, pus_cons, getD_0, getD_S, un_un, un_non, un_bl, un_int, un_str, un_seq, un_obj, un_deep, un_fn, un_ty, give, truth, oNot, cLt_d, cLe_d, cGt_d, cGe_d, oNotV, oNeg, D.isTupK, D.isLst, isObj, sFld, putD, Out.bind_ok, Out.bind_exc, Out.bind_stuck, give_some, give_none, List.replicate, List.length_cons, List.length_nil, List.set_cons_zero, List.set_cons_succ, List.getElem?_cons_zero, List.getElem?_cons_succ, List.getElem?_nil, lk_non, lk_bl, lk_int, lk_str, lk_fz, lk_bor, lk_own, lk_tmp, lk_scr, lk_obj, lk_objo, lk_deep, looks_nil, looks_cons, D.stb, D.canFz, D.frz, D.isFz, D.isNon, stbs, getO, pN, sStore, sAug, sAugS, Option.bind_some, Option.map_some, Option.bind_none, Option.map_none, List.nil_append, List.cons_append, Bool.and_true, Bool.true_and, Bool.or_true, Bool.true_or, Bool.and_false, Bool.false_and, Bool.or_false, Bool.false_or, Bool.not_true, Bool.not_false, if_true, if_false, Bool.false_eq_true, reduceIte, List.all_cons, List.all_nil, decide_true, decide_false, call1 (x := eC (.int 4)) rfl e1 rfl, call1 (x := eOp oAdd [eV 1, eC (.int 1)]) (ρ := [.int m, .int w, .unset, .unset]) rfl e2 rfl, lt_int, c1, stb_d, eq_int, c2', un_d, look_d, ix_seq', at0, gt_int, c3, add_int]
      · -- the loop
        have e8 : oPow [.int 10, .int 8] = some (.int 100000000) := pow_int (by decide)
        have lp : ∀ B : Blk, (∀ (q : Pool) (g : Int) (u : D), q.Fine → ∃ (q' : Pool) (g' : Int), B [q.d, .int m, .int w, .int g, u] = .ok (.next, [q'.d, .int m, .int w, .int g', u]) ∧ q'.Fine) →
            ∃ (q : Pool) (g : Int) (u : D), sFor (itOp false kR1 [eC (.int 4)]) (gN 4) B [p1.d, .int m, .int w, .int 0, .unset] = .ok (.next, [q.d, .int m, .int w, .int g, u]) ∧ q.Fine := by
          intro B hB
          rw [for_r1 (j := 4) (ρ1 := [p1.d, .int m, .int w, .int 0, .unset]) rfl (by decide)]
          obtain ⟨ρ', h1, q, g, u, h2, h3⟩ := forL_ix (g := gN 4) (b := B) (fun _ ρ => ∃ (q : Pool) (g : Int) (u : D), ρ = [q.d, .int m, .int w, .int g, u] ∧ q.Fine) (rgL 0 (4 : Int).toNat) 0 _ ⟨p1, 0, .unset, rfl, f1⟩ (by
            rintro i d ρ e ⟨q, g, u, rfl, hq⟩
            obtain ⟨_, rfl⟩ := rgL_get e
            obtain ⟨q', g', h4, h5⟩ := hB q g (.int (0 + (i : Int))) hq
            exact ⟨_, _, gN_ok rfl, .inl h4, q', g', _, rfl, h5⟩)
          exact ⟨q, g, u, by rw [h1, h2], h3⟩
        have step : ∀ (q : Pool) (g : Int) (u : D), q.Fine → ∃ (q' : Pool) (g' : Int), sSet 3 (eFr (eOp oAdd [eOp oMul [eV 3, eOp oPow [eC (.int 10), eC (.int 8)]], eCall f_law_take [.sl 0 true, .ex (eOp oPow [eC (.int 10), eC (.int 8)])]])) [q.d, .int m, .int w, .int g, u] = .ok (.next, [q'.d, .int m, .int w, .int g', u]) ∧ q'.Fine := by
          intro q g u hq
          obtain ⟨q', r, e2, f2, r0, r1⟩ := take_ok q hq (l := 100000000) (by decide) (by decide)
          refine ⟨q', g * 100000000 + r, ?_, f2⟩
          simp only [frameD, pick, Nat.sub_self, List.replicate_zero, sSeq, sNil, sSet, sRet, sRetN, sExpr, sIf, sBrk, sCont, sNever, f_eV, f_eMv, f_eFz, f_eC, f_eOp, f_eAnd, f_eOr, f_eNot, f_eIf, f_tru1, f_eCh, f_eFr, f_eAndV, f_eOrV, f_eK, f_eNx, f_eMut, evs_nil, evs_cons, pu_eC, pu_eV, pu_eOp, pu_eK, pu_eFr, pus_nil, pus_cons, getD_0, getD_S, un_un, un_non, un_bl, un_int, un_str, un_seq, un_obj, un_deep, un_fn, un_ty, give, truth, oNot, cLt_d, cLe_d, cGt_d, cGe_d, oNotV, oNeg, D.isTupK, D.isLst, isObj, sFld, putD, Out.bind_ok, Out.bind_exc, Out.bind_stuck, give_some, give_none, List.replicate, List.length_cons, List.length_nil, List.set_cons_zero, List.set_cons_succ, List.getElem?_cons_zero, List.getElem?_cons_succ, List.getElem?_nil, lk_non, lk_bl, lk_int, lk_str, lk_fz, lk_bor, lk_own, lk_tmp, lk_scr, lk_obj, lk_objo, lk_deep, looks_nil, looks_cons, D.stb, D.canFz, D.frz, D.isFz, D.isNon, stbs, getO, pN, sStore, sAug, sAugS, Option.bind_some, Option.map_some, Option.bind_none, Option.map_none, List.nil_append, List.cons_append, Bool.and_true, Bool.true_and, Bool.or_true, Bool.true_or, Bool.and_false, Bool.false_and, Bool.or_false, Bool.false_or, Bool.not_true, Bool.not_false, if_true, if_false, Bool.false_eq_true, reduceIte, List.all_cons, List.all_nil, decide_true, decide_false, e8, mulR (i := g) (j := 100000000) (by decide) (by decide), call1 (x := eOp oPow [eC (.int 10), eC (.int 8)]) (ρ := [.int m, .int w, .int g, u]) (by simp only [frameD, pick, Nat.sub_self, List.replicate_zero, sSeq, sNil, sSet, sRet, sRetN, sExpr, sIf, sBrk, sCont, sNever, f_eV, f_eMv, f_eFz, f_eC, f_eOp, f_eAnd, f_eOr, f_eNot, f_eIf, f_tru1, f_eCh, f_eFr, f_eAndV, f_eOrV, f_eK, f_eNx, f_eMut, evs_nil, evs_cons, pu_eC, pu_eV, pu_eOp, pu_eK, pu_eFr, pus_nil, pus_cons, getD_0, getD_S, un_un, un_non, un_bl, un_int, un_str, un_seq, un_obj, un_deep, un_fn, un_ty, give, truth, oNot, cLt_d, cLe_d, cGt_d, cGe_d, oNotV, oNeg, D.isTupK, D.isLst, isObj, sFld, putD, Out.bind_ok, Out.bind_exc, Out.bind_stuck, give_some, give_none, List.replicate, List.length_cons, List.length_nil, List.set_cons_zero, List.set_cons_succ, List.getElem?_cons_zero, List.getElem?_cons_succ, List.getElem?_nil, lk_non, lk_bl, lk_int, lk_str, lk_fz, lk_bor, lk_own, lk_tmp, lk_scr, lk_obj, lk_objo, lk_deep, looks_nil, looks_cons, D.stb, D.canFz, D.frz, D.isFz, D.isNon, stbs, getO, pN, sStore, sAug, sAugS, Option.bind_some, Option.map_some, Option.bind_none, Option.map_none, List.nil_append, List.cons_append, Bool.and_true, Bool.true_and, Bool.or_true, Bool.true_or, Bool.and_false, Bool.false_and, Bool.or_false, Bool.false_or, Bool.not_true, Bool.not_false, if_true, if_false, Bool.false_eq_true, reduceIte, List.all_cons, List.all_nil, decide_true, decide_false, e8]) e2 rfl, add_int]
        obtain ⟨q, g, u, e3, f3⟩ := lp _ step
        refine ⟨q, g % (m + 1), fin (ρ := [.int m, .int w, .int g, u]) ?_, f3, Int.emod_nonneg _ (by omega), by have := Int.emod_lt_of_pos g (show 0 < m + 1 by omega); omega⟩
        unfold b_law_great N_law_great
        rw [seq_next (ρ' := [p1.d, .int m, .int w, .unset, .unset]) (by simp only [frameD, pick, Nat.sub_self, List.replicate_zero, sSeq, sNil, sSet, sRet, sRetN, sExpr, sIf, sBrk, sCont, sNever, f_eV, f_eMv, f_eFz, f_eC, f_eOp, f_eAnd, f_eOr, f_eNot, f_eIf, f_tru1, f_eCh, f_eFr, f_eAndV, f_eOrV, f_eK, f_eNx, f_eMut, evs_nil, evs_cons, pu_eC, pu_eV, pu_eOp, pu_eK, pu_eFr, pus_nil, pus_cons, getD_0, getD_S, un_un, un_non, un_bl, un_int, un_str, un_seq, un_obj, un_deep, un_fn, un_ty, give, truth, oNot, cLt_d, cLe_d, cGt_d, cGe_d, oNotV, oNeg, D.isTupK, D.isLst, isObj, sFld, putD, Out.bind_ok, Out.bind_exc, Out.bind_stuck, give_some, give_none, List.replicate, List.length_cons, List.length_nil, List.set_cons_zero, List.set_cons_succ, List.getElem?_cons_zero, List.getElem?_cons_succ, List.getElem?_nil, lk_non, lk_bl, lk_int, lk_str, lk_fz, lk_bor, lk_own, lk_tmp, lk_scr, lk_obj, lk_objo, lk_deep, looks_nil, looks_cons, D.stb, D.canFz, D.frz, D.isFz, D.isNon, stbs, getO, pN, sStore, sAug, sAugS, Option.bind_some, Option.map_some, Option.bind_none, Option.map_none, List.nil_append, List.cons_append, Bool.and_true, Bool.true_and, Bool.or_true, Bool.true_or, Bool.and_false, Bool.false_and, Bool.or_false, Bool.false_or, Bool.not_true, Bool.not_false, if_true, if_false, Bool.false_eq_true, reduceIte, List.all_cons, List.all_nil, decide_true, decide_false, call1 (x := eC (.int 4)) rfl e1 rfl])]
        rw [seq_next (ρ' := [p1.d, .int m, .int w, .unset, .unset]) (by simp only [frameD, pick, Nat.sub_self, List.replicate_zero, sSeq, sNil, sSet, sRet, sRetN, sExpr, sIf, sBrk, sCont, sNever, f_eV, f_eMv, f_eFz, f_eC, f_eOp, f_eAnd, f_eOr, f_eNot, f_eIf, f_tru1, f_eCh, f_eFr, f_eAndV, f_eOrV, f_eK, f_eNx, f_eMut, evs_nil, evs_cons, pu_eC, pu_eV, pu_eOp, pu_eK, pu_eFr, pus_nil, pus_cons, getD_0, getD_S, un_un, un_non, un_bl, un_int, un_str, un_seq, un_obj, un_deep, un_fn, un_ty, give, truth, oNot, cLt_d, cLe_d, cGt_d, cGe_d, oNotV, oNeg, D.isTupK, D.isLst, isObj, sFld, putD, Out.bind_ok, Out.bind_exc, Out.bind_stuck, give_some, give_none, List.replicate, List.length_cons, List.length_nil, List.set_cons_zero, List.set_cons_succ, List.getElem?_cons_zero, List.getElem?_cons_succ, List.getElem?_nil, lk_non, lk_bl, lk_int, lk_str, lk_fz, lk_bor, lk_own, lk_tmp, lk_scr, lk_obj, lk_objo, lk_deep, looks_nil, looks_cons, D.stb, D.canFz, D.frz, D.isFz, D.isNon, stbs, getO, pN, sStore, sAug, sAugS, Option.bind_some, Option.map_some, Option.bind_none, Option.map_none, List.nil_append, List.cons_append, Bool.and_true, Bool.true_and, Bool.or_true, Bool.true_or, Bool.and_false, Bool.false_and, Bool.or_false, Bool.false_or, Bool.not_true, Bool.not_false, if_true, if_false, Bool.false_eq_true, reduceIte, List.all_cons, List.all_nil, decide_true, decide_false, lt_int, c1])]
        rw [seq_next (ρ' := [p1.d, .int m, .int w, .unset, .unset]) (by simp only [frameD, pick, Nat.sub_self, List.replicate_zero, sSeq, sNil, sSet, sRet, sRetN, sExpr, sIf, sBrk, sCont, sNever, f_eV, f_eMv, f_eFz, f_eC, f_eOp, f_eAnd, f_eOr, f_eNot, f_eIf, f_tru1, f_eCh, f_eFr, f_eAndV, f_eOrV, f_eK, f_eNx, f_eMut, evs_nil, evs_cons, pu_eC, pu_eV, pu_eOp, pu_eK, pu_eFr, pus_nil, pus_cons, getD_0, getD_S, un_un, un_non, un_bl, un_int, un_str, un_seq, un_obj, un_deep, un_fn, un_ty, give, truth, oNot, cLt_d, cLe_d, cGt_d, cGe_d, oNotV, oNeg, D.isTupK, D.isLst, isObj, sFld, putD, Out.bind_ok, Out.bind_exc, Out.bind_stuck, give_some, give_none, List.replicate, List.length_cons, List.length_nil, List.set_cons_zero, List.set_cons_succ, List.getElem?_cons_zero, List.getElem?_cons_succ, List.getElem?_nil, lk_non, lk_bl, lk_int, lk_str, lk_fz, lk_bor, lk_own, lk_tmp, lk_scr, lk_obj, lk_objo, lk_deep, looks_nil, looks_cons, D.stb, D.canFz, D.frz, D.isFz, D.isNon, stbs, getO, pN, sStore, sAug, sAugS, Option.bind_some, Option.map_some, Option.bind_none, Option.map_none, List.nil_append, List.cons_append, Bool.and_true, Bool.true_and, Bool.or_true, Bool.true_or, Bool.and_false, Bool.false_and, Bool.or_false, Bool.false_or, Bool.not_true, Bool.not_false, if_true, if_false, Bool.false_eq_true, reduceIte, List.all_cons, List.all_nil, decide_true, decide_false, eq_int, c2'])]
        rw [seq_next (ρ' := [p1.d, .int m, .int w, .unset, .unset]) (by simp only [frameD, pick, Nat.sub_self, List.replicate_zero, sSeq, sNil, sSet, sRet, sRetN, sExpr, sIf, sBrk, sCont, sNever, f_eV, f_eMv, f_eFz, f_eC, f_eOp, f_eAnd, f_eOr, f_eNot, f_eIf, f_tru1, f_eCh, f_eFr, f_eAndV, f_eOrV, f_eK, f_eNx, f_eMut, evs_nil, evs_cons, pu_eC, pu_eV, pu_eOp, pu_eK, pu_eFr, pus_nil, pus_cons, getD_0, getD_S, un_un, un_non, un_bl, un_int, un_str, un_seq, un_obj, un_deep, un_fn, un_ty, give, truth, oNot, cLt_d, cLe_d, cGt_d, cGe_d, oNotV, oNeg, D.isTupK, D.isLst, isObj, sFld, putD, Out.bind_ok, Out.bind_exc, Out.bind_stuck, give_some, give_none, List.replicate, List.length_cons, List.length_nil, List.set_cons_zero, List.set_cons_succ, List.getElem?_cons_zero, List.getElem?_cons_succ, List.getElem?_nil, lk_non, lk_bl, lk_int, lk_str, lk_fz, lk_bor, lk_own, lk_tmp, lk_scr, lk_obj, lk_objo, lk_deep, looks_nil, looks_cons, D.stb, D.canFz, D.frz, D.isFz, D.isNon, stbs, getO, pN, sStore, sAug, sAugS, Option.bind_some, Option.map_some, Option.bind_none, Option.map_none, List.nil_append, List.cons_append, Bool.and_true, Bool.true_and, Bool.or_true, Bool.true_or, Bool.and_false, Bool.false_and, Bool.or_false, Bool.false_or, Bool.not_true, Bool.not_false, if_true, if_false, Bool.false_eq_true, reduceIte, List.all_cons, List.all_nil, decide_true, decide_false, un_d, look_d, ix_seq', at0, gt_int, c3])]
        rw [seq_next (ρ' := [p1.d, .int m, .int w, .int 0, .unset]) (by simp only [frameD, pick, Nat.sub_self, List.replicate_zero, sSeq, sNil, sSet, sRet, sRetN, sExpr, sIf, sBrk, sCont, sNever, f_eV, f_eMv, f_eFz, f_eC, f_eOp, f_eAnd, f_eOr, f_eNot, f_eIf, f_tru1, f_eCh, f_eFr, f_eAndV, f_eOrV, f_eK, f_eNx, f_eMut, evs_nil, evs_cons, pu_eC, pu_eV, pu_eOp, pu_eK, pu_eFr, pus_nil, pus_cons, getD_0, getD_S, un_un, un_non, un_bl, un_int, un_str, un_seq, un_obj, un_deep, un_fn, un_ty, give, truth, oNot, cLt_d, cLe_d, cGt_d, cGe_d, oNotV, oNeg, D.isTupK, D.isLst, isObj, sFld, putD, Out.bind_ok, Out.bind_exc, Out.bind_stuck, give_some, give_none, List.replicate, List.length_cons, List.length_nil, List.set_cons_zero, List.set_cons_succ, List.getElem?_cons_zero, List.getElem?_cons_succ, List.getElem?_nil, lk_non, lk_bl, lk_int, lk_str, lk_fz, lk_bor, lk_own, lk_tmp, lk_scr, lk_obj, lk_objo, lk_deep, looks_nil, looks_cons, D.stb, D.canFz, D.frz, D.isFz, D.isNon, stbs, getO, pN, sStore, sAug, sAugS, Option.bind_some, Option.map_some, Option.bind_none, Option.map_none, List.nil_append, List.cons_append, Bool.and_true, Bool.true_and, Bool.or_true, Bool.true_or, Bool.and_false, Bool.false_and, Bool.or_false, Bool.false_or, Bool.not_true, Bool.not_false, if_true, if_false, Bool.false_eq_true, reduceIte, List.all_cons, List.all_nil, decide_true, decide_false])]
        rw [seq_next e3]
        simp only [frameD, pick, Nat.sub_self, List.replicate_zero, sSeq, sNil, sSet, sRet, sRetN, sExpr, sIf, sBrk, sCont, sNever, f_eV, f_eMv, f_eFz, f_eC, f_eOp, f_eAnd, f_eOr, f_eNot, f_eIf, f_tru1, f_eCh, f_eFr, f_eAndV, f_eOrV, f_eK, f_eNx, f_eMut, evs_nil, evs_cons, pu_eC, pu_eV, pu_eOp, pu_eK, pu_eFr, pus_nil, pus_cons, getD_0, getD_S, un_un, un_non, un_bl, un_int, un_str, un_seq, un_obj, un_deep, un_fn, un_ty, give, truth, oNot, cLt_d, cLe_d, cGt_d, cGe_d, oNotV, oNeg, D.isTupK, D.isLst, isObj, sFld, putD, Out.bind_ok, Out.bind_exc, Out.bind_stuck, give_some, give_none, List.replicate, List.length_cons, List.length_nil, List.set_cons_zero, List.set_cons_succ, List.getElem?_cons_zero, List.getElem?_cons_succ, List.getElem?_nil, lk_non, lk_bl, lk_int, lk_str, lk_fz, lk_bor, lk_own, lk_tmp, lk_scr, lk_obj, lk_objo, lk_deep, looks_nil, looks_cons, D.stb, D.canFz, D.frz, D.isFz, D.isNon, stbs, getO, pN, sStore, sAug, sAugS, Option.bind_some, Option.map_some, Option.bind_none, Option.map_none, List.nil_append, List.cons_append, Bool.and_true, Bool.true_and, Bool.or_true, Bool.true_or, Bool.and_false, Bool.false_and, Bool.or_false, Bool.false_or, Bool.not_true, Bool.not_false, if_true, if_false, Bool.false_eq_true, reduceIte, List.all_cons, List.all_nil, decide_true, decide_false, int_int, add_int, mod_int (j := m + 1) (by omega)]
end Law

/-! the shared parts of the laws: the pool's beginning, depots -/
namespace Law
open Ev
theorem all_can (ns : List Int) : (ns.map D.int).all D.canFz = true := List.all_eq_true.mpr fun d h => by
  obtain ⟨i, _, rfl⟩ := List.mem_map.mp h
  rfl
theorem map_frz (ns : List Int) : (ns.map D.int).map D.frz = ns.map D.int := by
  rw [List.map_map]
  exact List.map_congr_left fun _ _ => rfl
theorem pool_ok (ns : List Int) : f_law_pool [.seq false .scr (ns.map .int)] = .ok ((Pool.mk 0 1 0 0 ns).d, []) := by
  have h : b_law_pool (frameD N_law_pool.length [.seq false .scr (ns.map .int)]) = .ok (.ret (Pool.mk 0 1 0 0 ns).d, [.seq false .scr (ns.map .int)]) := by
    unfold b_law_pool N_law_pool Pool.d
    simp only [frameD, pick, Nat.sub_self, List.replicate_zero, sSeq, sNil, sSet, sRet, sRetN, sExpr, sIf, sBrk, sCont, sNever, f_eV, f_eMv, f_eFz, f_eC, f_eOp, f_eAnd, f_eOr, f_eNot, f_eIf, f_tru1, f_eCh, f_eFr, f_eAndV, f_eOrV, f_eK, f_eNx, f_eMut, evs_nil, evs_cons, pu_eC, pu_eV, pu_eOp, pu_eK, pu_eFr, pus_nil, pus_cons, getD_0, getD_S, un_un, un_non, un_bl, un_int, un_str, un_seq, un_obj, un_deep, un_fn, un_ty, give, truth, oNot, cLt_d, cLe_d, cGt_d, cGe_d, oNotV, oNeg, D.isTupK, D.isLst, isObj, sFld, putD, Out.bind_ok, Out.bind_exc, Out.bind_stuck, give_some, give_none, List.replicate, List.length_cons, List.length_nil, List.set_cons_zero, List.set_cons_succ, List.getElem?_cons_zero, List.getElem?_cons_succ, List.getElem?_nil, lk_non, lk_bl, lk_int, lk_str, lk_fz, lk_bor, lk_own, lk_tmp, lk_scr, lk_obj, lk_objo, lk_deep, looks_nil, looks_cons, D.stb, D.canFz, D.frz, D.isFz, D.isNon, stbs, getO, pN, sStore, sAug, sAugS, Option.bind_some, Option.map_some, Option.bind_none, Option.map_none, List.nil_append, List.cons_append, Bool.and_true, Bool.true_and, Bool.or_true, Bool.true_or, Bool.and_false, Bool.false_and, Bool.or_false, Bool.false_or, Bool.not_true, Bool.not_false, if_true, if_false, Bool.false_eq_true, reduceIte, List.all_cons, List.all_nil, decide_true, decide_false, oListOf, oLst, List.map_cons, List.map_nil]
    rfl
  unfold f_law_pool
  rw [fn_ret h rfl]
  rfl
theorem rep_one (n : Int) (h0 : 0 ≤ n) (h1 : n ≤ 1000000) : oMul [D.own [.int 1], .int n] = some (.own ((List.replicate n.toNat (1 : Int)).map .int)) := by
  show (if Md.own ≠ .scr ∧ -(2 ^ 63) ≤ n ∧ n < 2 ^ 63 ∧ [D.int 1].length * n.toNat ≤ PySem.sizeLine then some (D.own (List.replicate n.toNat [D.int 1]).flatten) else none) = _
  rw [if_pos ⟨by decide, by omega, by omega, by
    have : PySem.sizeLine = 16777216 := PySem.sizeLine_eq
    simp only [List.length_cons, List.length_nil]
    omega⟩]
  congr 2
  induction n.toNat with
  | zero => rfl
  | succ k ih => rw [List.replicate_succ, List.replicate_succ, List.flatten_cons, ih]; rfl
/-- a plan: the period, the quota, the first weekdays -/
def plan (m q : Int) (fs : List Int) : D := D.own [.int m, .int q, .lst (fs.map .int)]
structure Plan (m q : Int) (fs : List Int) : Prop where
  m1 : 1 ≤ m
  q1 : 1 ≤ q
  n1 : q ≤ fs.length
  all : ∀ f ∈ fs, 1 ≤ f ∧ f ≤ m
  ones : q ≤ fs.count 1
theorem ins_eq {es : List Int} {r x : Int} (h0 : 0 ≤ r) (h1 : r ≤ es.length) (h2 : es.length ≤ 1000000) : mInsert (es.map .int) [.int r, .int x] = some (.non, (es.take r.toNat ++ [x] ++ es.drop r.toNat).map .int) := by
  show (if ((D.int x).canFz && decide ((es.map D.int).length < PySem.sizeLine ∧ 0 ≤ r ∧ r < 2 ^ 63)) = true then some (D.non, (es.map D.int).take r.toNat ++ [(D.int x).frz] ++ (es.map D.int).drop r.toNat) else none) = _
  have hs : PySem.sizeLine = 16777216 := PySem.sizeLine_eq
  rw [if_pos (by rw [Bool.and_eq_true]; exact ⟨rfl, decide_eq_true ⟨by rw [List.length_map]; omega, h0, by omega⟩⟩), List.map_append, List.map_append, List.map_take, List.map_drop]
  rfl
theorem depot_ok (p : Pool) (hp : p.Fine) {dr pe : Int} (h0 : 1 ≤ dr) (h1 : dr ≤ 1000000) (h2 : 1 ≤ pe) (h3 : pe ≤ 1000000) :
    ∃ (z : Pool) (m q : Int) (fs : List Int), f_law_depot [p.d, .int dr, .int pe] = .ok (plan m q fs, [z.d]) ∧ z.Fine ∧ Plan m q fs ∧ m ≤ pe ∧ (fs.length : Int) ≤ dr := by
  obtain ⟨p1, m, e1, f1, m0, m1⟩ := take_ok p hp (l := pe) (by omega) (by omega)
  obtain ⟨p2, n, e2, f2, n0, n1⟩ := take_ok p1 f1 (l := dr) (by omega) (by omega)
  obtain ⟨p3, q, e3, f3, q0, q1⟩ := take_ok p2 f2 (l := 1 + n) (by omega) (by omega)
  obtain ⟨p4, t, e4, f4, t0, t1⟩ := take_ok p3 f3 (l := 3) (by decide) (by decide)
  -- the quota
  have quota : ∃ (p5 : Pool) (k : Int), sIf (eOp oGt [eCall f_law_take [.sl 0 true, .ex (eC (.int 3))], eC (.int 0)]) (sSet 5 (eFr (eOp oAdd [eC (.int 1), eCall f_law_take [.sl 0 true, .ex (eOp oMin [eV 4, eC (.int 2)])]]))) sNil [p3.d, .int dr, .int pe, .int (1 + m), .int (1 + n), .int (1 + q), .unset, .unset] = .ok (.next, [p5.d, .int dr, .int pe, .int (1 + m), .int (1 + n), .int (1 + k), .unset, .unset]) ∧ p5.Fine ∧ 0 ≤ k ∧ k < 1 + n := by
    by_cases c : 0 < t
    · obtain ⟨p5, k, e5, f5, k0, k1⟩ := take_ok p4 f4 (l := if 2 < 1 + n then 2 else 1 + n) (by split <;> omega) (by split <;> omega)
      refine ⟨p5, k, ?_, f5, k0, by split at k1 <;> omega⟩
      simp only [frameD, pick, Nat.sub_self, List.replicate_zero, sSeq, sNil, sSet, sRet, sRetN, sExpr, sIf, sBrk, sCont, sNever, f_eV, f_eMv, f_eFz, f_eC, f_eOp, f_eAnd, f_eOr, f_eNot, f_eIf, f_tru1, f_eCh, f_eFr, f_eAndV, f_eOrV, f_eK, f_eNx, f_eMut, evs_nil, evs_cons, pu_eC, pu_eV, pu_eOp, pu_eK, pu_eFr, pus_nil, pus_cons, getD_0, getD_S, un_un, un_non, un_bl, un_int, un_str, un_seq, un_obj, un_deep, un_fn, un_ty, give, truth, oNot, cLt_d, cLe_d, cGt_d, cGe_d, oNotV, oNeg, D.isTupK, D.isLst, isObj, sFld, putD, Out.bind_ok, Out.bind_exc, Out.bind_stuck, give_some, give_none, List.replicate, List.length_cons, List.length_nil, List.set_cons_zero, List.set_cons_succ, List.getElem?_cons_zero, List.getElem?_cons_succ, List.getElem?_nil, lk_non, lk_bl, lk_int, lk_str, lk_fz, lk_bor, lk_own, lk_tmp, lk_scr, lk_obj, lk_objo, lk_deep, looks_nil, looks_cons, D.stb, D.canFz, D.frz, D.isFz, D.isNon, stbs, getO, pN, sStore, sAug, sAugS, Option.bind_some, Option.map_some, Option.bind_none, Option.map_none, List.nil_append, List.cons_append, Bool.and_true, Bool.true_and, Bool.or_true, Bool.true_or, Bool.and_false, Bool.false_and, Bool.or_false, Bool.false_or, Bool.not_true, Bool.not_false, if_true, if_false, Bool.false_eq_true, reduceIte, List.all_cons, List.all_nil, decide_true, decide_false, call1 (x := eC (.int 3)) rfl e4 rfl, gt_int, c, call1 (x := eOp oMin [eV 4, eC (.int 2)]) (ρ := [.int dr, .int pe, .int (1 + m), .int (1 + n), .int (1 + q), .unset, .unset]) rfl e5 rfl, add_int]
    · refine ⟨p4, q, ?_, f4, q0, q1⟩
      simp only [frameD, pick, Nat.sub_self, List.replicate_zero, sSeq, sNil, sSet, sRet, sRetN, sExpr, sIf, sBrk, sCont, sNever, f_eV, f_eMv, f_eFz, f_eC, f_eOp, f_eAnd, f_eOr, f_eNot, f_eIf, f_tru1, f_eCh, f_eFr, f_eAndV, f_eOrV, f_eK, f_eNx, f_eMut, evs_nil, evs_cons, pu_eC, pu_eV, pu_eOp, pu_eK, pu_eFr, pus_nil, pus_cons, getD_0, getD_S, un_un, un_non, un_bl, un_int, un_str, un_seq, un_obj, un_deep, un_fn, un_ty, give, truth, oNot, cLt_d, cLe_d, cGt_d, cGe_d, oNotV, oNeg, D.isTupK, D.isLst, isObj, sFld, putD, Out.bind_ok, Out.bind_exc, Out.bind_stuck, give_some, give_none, List.replicate, List.length_cons, List.length_nil, List.set_cons_zero, List.set_cons_succ, List.getElem?_cons_zero, List.getElem?_cons_succ, List.getElem?_nil, lk_non, lk_bl, lk_int, lk_str, lk_fz, lk_bor, lk_own, lk_tmp, lk_scr, lk_obj, lk_objo, lk_deep, looks_nil, looks_cons, D.stb, D.canFz, D.frz, D.isFz, D.isNon, stbs, getO, pN, sStore, sAug, sAugS, Option.bind_some, Option.map_some, Option.bind_none, Option.map_none, List.nil_append, List.cons_append, Bool.and_true, Bool.true_and, Bool.or_true, Bool.true_or, Bool.and_false, Bool.false_and, Bool.or_false, Bool.false_or, Bool.not_true, Bool.not_false, if_true, if_false, Bool.false_eq_true, reduceIte, List.all_cons, List.all_nil, decide_true, decide_false, call1 (x := eC (.int 3)) rfl e4 rfl, gt_int, c]
  obtain ⟨p5, k, e5, f5, k0, k1⟩ := quota
  -- the loop
  have lp : ∃ (z : Pool) (fs : List Int) (u : D), sFor (itOp false kR1 [eOp oSub [eV 4, eV 5]]) (gN 7) (sExpr (eMut (pN 6) mInsert [eCall f_law_take [.sl 0 true, .ex (eOp oAdd [eOp oLen [eV 6], eC (.int 1)])], eOp oAdd [eC (.int 1), eCall f_law_take [.sl 0 true, .ex (eV 3)]]]))
      [p5.d, .int dr, .int pe, .int (1 + m), .int (1 + n), .int (1 + k), .own ((List.replicate (1 + k).toNat (1 : Int)).map .int), .unset] = .ok (.next, [z.d, .int dr, .int pe, .int (1 + m), .int (1 + n), .int (1 + k), .own (fs.map .int), u]) ∧ z.Fine ∧ (fs.length : Int) = 1 + n ∧ (∀ f ∈ fs, 1 ≤ f ∧ f ≤ 1 + m) ∧ 1 + k ≤ fs.count 1 := by
    rw [for_r1 (j := 1 + n - (1 + k)) (ρ1 := [p5.d, .int dr, .int pe, .int (1 + m), .int (1 + n), .int (1 + k), .own ((List.replicate (1 + k).toNat (1 : Int)).map .int), .unset]) (by simp only [frameD, pick, Nat.sub_self, List.replicate_zero, sSeq, sNil, sSet, sRet, sRetN, sExpr, sIf, sBrk, sCont, sNever, f_eV, f_eMv, f_eFz, f_eC, f_eOp, f_eAnd, f_eOr, f_eNot, f_eIf, f_tru1, f_eCh, f_eFr, f_eAndV, f_eOrV, f_eK, f_eNx, f_eMut, evs_nil, evs_cons, pu_eC, pu_eV, pu_eOp, pu_eK, pu_eFr, pus_nil, pus_cons, getD_0, getD_S, un_un, un_non, un_bl, un_int, un_str, un_seq, un_obj, un_deep, un_fn, un_ty, give, truth, oNot, cLt_d, cLe_d, cGt_d, cGe_d, oNotV, oNeg, D.isTupK, D.isLst, isObj, sFld, putD, Out.bind_ok, Out.bind_exc, Out.bind_stuck, give_some, give_none, List.replicate, List.length_cons, List.length_nil, List.set_cons_zero, List.set_cons_succ, List.getElem?_cons_zero, List.getElem?_cons_succ, List.getElem?_nil, lk_non, lk_bl, lk_int, lk_str, lk_fz, lk_bor, lk_own, lk_tmp, lk_scr, lk_obj, lk_objo, lk_deep, looks_nil, looks_cons, D.stb, D.canFz, D.frz, D.isFz, D.isNon, stbs, getO, pN, sStore, sAug, sAugS, Option.bind_some, Option.map_some, Option.bind_none, Option.map_none, List.nil_append, List.cons_append, Bool.and_true, Bool.true_and, Bool.or_true, Bool.true_or, Bool.and_false, Bool.false_and, Bool.or_false, Bool.false_or, Bool.not_true, Bool.not_false, if_true, if_false, Bool.false_eq_true, reduceIte, List.all_cons, List.all_nil, decide_true, decide_false, sub_int]) (rgOk_of (by omega) (by omega))]
    obtain ⟨ρ', h4, z, fs, u, h5, h6, h7, h8, h9⟩ := forL_ix (g := gN 7) (b := sExpr (eMut (pN 6) mInsert [eCall f_law_take [.sl 0 true, .ex (eOp oAdd [eOp oLen [eV 6], eC (.int 1)])], eOp oAdd [eC (.int 1), eCall f_law_take [.sl 0 true, .ex (eV 3)]]]))
      (fun i ρ => ∃ (z : Pool) (fs : List Int) (u : D), ρ = [z.d, .int dr, .int pe, .int (1 + m), .int (1 + n), .int (1 + k), .own (fs.map .int), u] ∧ z.Fine ∧ (fs.length : Int) = 1 + k + i ∧ (∀ f ∈ fs, 1 ≤ f ∧ f ≤ 1 + m) ∧ 1 + k ≤ fs.count 1) (rgL 0 (1 + n - (1 + k)).toNat) 0 _
      ⟨p5, List.replicate (1 + k).toNat 1, .unset, rfl, f5, by rw [List.length_replicate]; omega, fun f hf => by rw [List.eq_of_mem_replicate hf]; omega, by rw [List.count_replicate_self]; omega⟩ (by
        rintro i d ρ e ⟨z, fs, u, rfl, hz, hl, hf, hc⟩
        obtain ⟨hi, rfl⟩ := rgL_get e
        obtain ⟨z1, r, e6, f6, r0, r1⟩ := take_ok z hz (l := (fs.length : Int) + 1) (by omega) (by omega)
        obtain ⟨z2, x, e7, f7, x0, x1⟩ := take_ok z1 f6 (l := 1 + m) (by omega) (by omega)
        refine ⟨_, _, gN_ok rfl, .inl ?_, z2, fs.take r.toNat ++ [1 + x] ++ fs.drop r.toNat, .int (0 + (i : Int)), rfl, f7, ?_, ?_, ?_⟩
        · have hx : (eOp oAdd [eOp oLen [eV 6], eC (.int 1)]).f (.unset :: [.int dr, .int pe, .int (1 + m), .int (1 + n), .int (1 + k), .own (fs.map .int), .int (0 + (i : Int))]) = .ok (.int ((fs.length : Int) + 1), .unset :: [.int dr, .int pe, .int (1 + m), .int (1 + n), .int (1 + k), .own (fs.map .int), .int (0 + (i : Int))]) := by
            simp only [frameD, pick, Nat.sub_self, List.replicate_zero, sSeq, sNil, sSet, sRet, sRetN, sExpr, sIf, sBrk, sCont, sNever, f_eV, f_eMv, f_eFz, f_eC, f_eOp, f_eAnd, f_eOr, f_eNot, f_eIf, f_tru1, f_eCh, f_eFr, f_eAndV, f_eOrV, f_eK, f_eNx, f_eMut, evs_nil, evs_cons, pu_eC, pu_eV, pu_eOp, pu_eK, pu_eFr, pus_nil, pus_cons, getD_0, getD_S, un_un, un_non, un_bl, un_int, un_str, un_seq, un_obj, un_deep, un_fn, un_ty, give, truth, oNot, cLt_d, cLe_d, cGt_d, cGe_d, oNotV, oNeg, D.isTupK, D.isLst, isObj, sFld, putD, Out.bind_ok, Out.bind_exc, Out.bind_stuck, give_some, give_none, List.replicate, List.length_cons, List.length_nil, List.set_cons_zero, List.set_cons_succ, List.getElem?_cons_zero, List.getElem?_cons_succ, List.getElem?_nil, lk_non, lk_bl, lk_int, lk_str, lk_fz, lk_bor, lk_own, lk_tmp, lk_scr, lk_obj, lk_objo, lk_deep, looks_nil, looks_cons, D.stb, D.canFz, D.frz, D.isFz, D.isNon, stbs, getO, pN, sStore, sAug, sAugS, Option.bind_some, Option.map_some, Option.bind_none, Option.map_none, List.nil_append, List.cons_append, Bool.and_true, Bool.true_and, Bool.or_true, Bool.true_or, Bool.and_false, Bool.false_and, Bool.or_false, Bool.false_or, Bool.not_true, Bool.not_false, if_true, if_false, Bool.false_eq_true, reduceIte, List.all_cons, List.all_nil, decide_true, decide_false, len_seq, add_int, List.length_map]
          have hy : (eV 3).f (.unset :: [.int dr, .int pe, .int (1 + m), .int (1 + n), .int (1 + k), .own (fs.map .int), .int (0 + (i : Int))]) = .ok (.int (1 + m), .unset :: [.int dr, .int pe, .int (1 + m), .int (1 + n), .int (1 + k), .own (fs.map .int), .int (0 + (i : Int))]) := rfl
          simp only [frameD, pick, Nat.sub_self, List.replicate_zero, sSeq, sNil, sSet, sRet, sRetN, sExpr, sIf, sBrk, sCont, sNever, f_eV, f_eMv, f_eFz, f_eC, f_eOp, f_eAnd, f_eOr, f_eNot, f_eIf, f_tru1, f_eCh, f_eFr, f_eAndV, f_eOrV, f_eK, f_eNx, f_eMut, evs_nil, evs_cons, pu_eC, pu_eV, pu_eOp, pu_eK, pu_eFr, pus_nil, pus_cons, getD_0, getD_S, un_un, un_non, un_bl, un_int, un_str, un_seq, un_obj, un_deep, un_fn, un_ty, give, truth, oNot, cLt_d, cLe_d, cGt_d, cGe_d, oNotV, oNeg, D.isTupK, D.isLst, isObj, sFld, putD, Out.bind_ok, Out.bind_exc, Out.bind_stuck, give_some, give_none, List.replicate, List.length_cons, List.length_nil, List.set_cons_zero, List.set_cons_succ, List.getElem?_cons_zero, List.getElem?_cons_succ, List.getElem?_nil, lk_non, lk_bl, lk_int, lk_str, lk_fz, lk_bor, lk_own, lk_tmp, lk_scr, lk_obj, lk_objo, lk_deep, looks_nil, looks_cons, D.stb, D.canFz, D.frz, D.isFz, D.isNon, stbs, getO, pN, sStore, sAug, sAugS, Option.bind_some, Option.map_some, Option.bind_none, Option.map_none, List.nil_append, List.cons_append, Bool.and_true, Bool.true_and, Bool.or_true, Bool.true_or, Bool.and_false, Bool.false_and, Bool.or_false, Bool.false_or, Bool.not_true, Bool.not_false, if_true, if_false, Bool.false_eq_true, reduceIte, List.all_cons, List.all_nil, decide_true, decide_false, call1 hx e6 rfl, call1 hy e7 rfl, add_int, ins_eq (es := fs) (r := r) (x := 1 + x) r0 (by omega) (by omega)]
        · simp only [List.length_append, List.length_take, List.length_drop, List.length_singleton]
          omega
        · intro f hf'
          rcases List.mem_append.mp hf' with h | h
          · rcases List.mem_append.mp h with h | h
            · exact hf f (List.mem_of_mem_take h)
            · rw [List.mem_singleton.mp h]
              omega
          · exact hf f (List.mem_of_mem_drop h)
        · have : (fs.take r.toNat ++ [1 + x] ++ fs.drop r.toNat).count 1 = fs.count 1 + [1 + x].count 1 := by
            rw [List.count_append, List.count_append]
            conv => rhs; rw [← List.take_append_drop r.toNat fs, List.count_append]
            omega
          omega)
    refine ⟨z, fs, u, by rw [h4, h5], h6, ?_, h8, h9⟩
    rw [h7, rgL_len]
    omega
  obtain ⟨z, fs, u, e8, f8, hl, hf, hc⟩ := lp
  refine ⟨z, 1 + m, 1 + k, fs, ?_, f8, ⟨by omega, by omega, by omega, hf, hc⟩, by omega, by omega⟩
  have h : b_law_depot (frameD N_law_depot.length [p.d, .int dr, .int pe]) = .ok (.ret (plan (1 + m) (1 + k) fs), [z.d, .int dr, .int pe, .int (1 + m), .int (1 + n), .int (1 + k), .lst (fs.map .int), u]) := by
    unfold b_law_depot N_law_depot
    rw [seq_next (ρ' := [p1.d, .int dr, .int pe, .int (1 + m), .unset, .unset, .unset, .unset]) (by simp only [frameD, pick, Nat.sub_self, List.replicate_zero, sSeq, sNil, sSet, sRet, sRetN, sExpr, sIf, sBrk, sCont, sNever, f_eV, f_eMv, f_eFz, f_eC, f_eOp, f_eAnd, f_eOr, f_eNot, f_eIf, f_tru1, f_eCh, f_eFr, f_eAndV, f_eOrV, f_eK, f_eNx, f_eMut, evs_nil, evs_cons, pu_eC, pu_eV, pu_eOp, pu_eK, pu_eFr, pus_nil, pus_cons, getD_0, getD_S, un_un, un_non, un_bl, un_int, un_str, un_seq, un_obj, un_deep, un_fn, un_ty, give, truth, oNot, cLt_d, cLe_d, cGt_d, cGe_d, oNotV, oNeg, D.isTupK, D.isLst, isObj, sFld, putD, Out.bind_ok, Out.bind_exc, Out.bind_stuck, give_some, give_none, List.replicate, List.length_cons, List.length_nil, List.set_cons_zero, List.set_cons_succ, List.getElem?_cons_zero, List.getElem?_cons_succ, List.getElem?_nil, lk_non, lk_bl, lk_int, lk_str, lk_fz, lk_bor, lk_own, lk_tmp, lk_scr, lk_obj, lk_objo, lk_deep, looks_nil, looks_cons, D.stb, D.canFz, D.frz, D.isFz, D.isNon, stbs, getO, pN, sStore, sAug, sAugS, Option.bind_some, Option.map_some, Option.bind_none, Option.map_none, List.nil_append, List.cons_append, Bool.and_true, Bool.true_and, Bool.or_true, Bool.true_or, Bool.and_false, Bool.false_and, Bool.or_false, Bool.false_or, Bool.not_true, Bool.not_false, if_true, if_false, Bool.false_eq_true, reduceIte, List.all_cons, List.all_nil, decide_true, decide_false, call1 (x := eV 2) (ρ := [.int dr, .int pe, .unset, .unset, .unset, .unset, .unset]) rfl e1 rfl, add_int])]
    rw [seq_next (ρ' := [p2.d, .int dr, .int pe, .int (1 + m), .int (1 + n), .unset, .unset, .unset]) (by simp only [frameD, pick, Nat.sub_self, List.replicate_zero, sSeq, sNil, sSet, sRet, sRetN, sExpr, sIf, sBrk, sCont, sNever, f_eV, f_eMv, f_eFz, f_eC, f_eOp, f_eAnd, f_eOr, f_eNot, f_eIf, f_tru1, f_eCh, f_eFr, f_eAndV, f_eOrV, f_eK, f_eNx, f_eMut, evs_nil, evs_cons, pu_eC, pu_eV, pu_eOp, pu_eK, pu_eFr, pus_nil, pus_cons, getD_0, getD_S, un_un, un_non, un_bl, un_int, un_str, un_seq, un_obj, un_deep, un_fn, un_ty, give, truth, oNot, cLt_d, cLe_d, cGt_d, cGe_d, oNotV, oNeg, D.isTupK, D.isLst, isObj, sFld, putD, Out.bind_ok, Out.bind_exc, Out.bind_stuck, give_some, give_none, List.replicate, List.length_cons, List.length_nil, List.set_cons_zero, List.set_cons_succ, List.getElem?_cons_zero, List.getElem?_cons_succ, List.getElem?_nil, lk_non, lk_bl, lk_int, lk_str, lk_fz, lk_bor, lk_own, lk_tmp, lk_scr, lk_obj, lk_objo, lk_deep, looks_nil, looks_cons, D.stb, D.canFz, D.frz, D.isFz, D.isNon, stbs, getO, pN, sStore, sAug, sAugS, Option.bind_some, Option.map_some, Option.bind_none, Option.map_none, List.nil_append, List.cons_append, Bool.and_true, Bool.true_and, Bool.or_true, Bool.true_or, Bool.and_false, Bool.false_and, Bool.or_false, Bool.false_or, Bool.not_true, Bool.not_false, if_true, if_false, Bool.false_eq_true, reduceIte, List.all_cons, List.all_nil, decide_true, decide_false, call1 (x := eV 1) (ρ := [.int dr, .int pe, .int (1 + m), .unset, .unset, .unset, .unset]) rfl e2 rfl, add_int])]
    rw [seq_next (ρ' := [p3.d, .int dr, .int pe, .int (1 + m), .int (1 + n), .int (1 + q), .unset, .unset]) (by simp only [frameD, pick, Nat.sub_self, List.replicate_zero, sSeq, sNil, sSet, sRet, sRetN, sExpr, sIf, sBrk, sCont, sNever, f_eV, f_eMv, f_eFz, f_eC, f_eOp, f_eAnd, f_eOr, f_eNot, f_eIf, f_tru1, f_eCh, f_eFr, f_eAndV, f_eOrV, f_eK, f_eNx, f_eMut, evs_nil, evs_cons, pu_eC, pu_eV, pu_eOp, pu_eK, pu_eFr, pus_nil, pus_cons, getD_0, getD_S, un_un, un_non, un_bl, un_int, un_str, un_seq, un_obj, un_deep, un_fn, un_ty, give, truth, oNot, cLt_d, cLe_d, cGt_d, cGe_d, oNotV, oNeg, D.isTupK, D.isLst, isObj, sFld, putD, Out.bind_ok, Out.bind_exc, Out.bind_stuck, give_some, give_none, List.replicate, List.length_cons, List.length_nil, List.set_cons_zero, List.set_cons_succ, List.getElem?_cons_zero, List.getElem?_cons_succ, List.getElem?_nil, lk_non, lk_bl, lk_int, lk_str, lk_fz, lk_bor, lk_own, lk_tmp, lk_scr, lk_obj, lk_objo, lk_deep, looks_nil, looks_cons, D.stb, D.canFz, D.frz, D.isFz, D.isNon, stbs, getO, pN, sStore, sAug, sAugS, Option.bind_some, Option.map_some, Option.bind_none, Option.map_none, List.nil_append, List.cons_append, Bool.and_true, Bool.true_and, Bool.or_true, Bool.true_or, Bool.and_false, Bool.false_and, Bool.or_false, Bool.false_or, Bool.not_true, Bool.not_false, if_true, if_false, Bool.false_eq_true, reduceIte, List.all_cons, List.all_nil, decide_true, decide_false, call1 (x := eV 4) (ρ := [.int dr, .int pe, .int (1 + m), .int (1 + n), .unset, .unset, .unset]) rfl e3 rfl, add_int])]
    rw [seq_next e5]
    rw [seq_next (ρ' := [p5.d, .int dr, .int pe, .int (1 + m), .int (1 + n), .int (1 + k), .own ((List.replicate (1 + k).toNat (1 : Int)).map .int), .unset]) (by
      have h1 : oLst [.int 1] = some (D.own [.int 1]) := rfl
      simp only [frameD, pick, Nat.sub_self, List.replicate_zero, sSeq, sNil, sSet, sRet, sRetN, sExpr, sIf, sBrk, sCont, sNever, f_eV, f_eMv, f_eFz, f_eC, f_eOp, f_eAnd, f_eOr, f_eNot, f_eIf, f_tru1, f_eCh, f_eFr, f_eAndV, f_eOrV, f_eK, f_eNx, f_eMut, evs_nil, evs_cons, pu_eC, pu_eV, pu_eOp, pu_eK, pu_eFr, pus_nil, pus_cons, getD_0, getD_S, un_un, un_non, un_bl, un_int, un_str, un_seq, un_obj, un_deep, un_fn, un_ty, give, truth, oNot, cLt_d, cLe_d, cGt_d, cGe_d, oNotV, oNeg, D.isTupK, D.isLst, isObj, sFld, putD, Out.bind_ok, Out.bind_exc, Out.bind_stuck, give_some, give_none, List.replicate, List.length_cons, List.length_nil, List.set_cons_zero, List.set_cons_succ, List.getElem?_cons_zero, List.getElem?_cons_succ, List.getElem?_nil, lk_non, lk_bl, lk_int, lk_str, lk_fz, lk_bor, lk_own, lk_tmp, lk_scr, lk_obj, lk_objo, lk_deep, looks_nil, looks_cons, D.stb, D.canFz, D.frz, D.isFz, D.isNon, stbs, getO, pN, sStore, sAug, sAugS, Option.bind_some, Option.map_some, Option.bind_none, Option.map_none, List.nil_append, List.cons_append, Bool.and_true, Bool.true_and, Bool.or_true, Bool.true_or, Bool.and_false, Bool.false_and, Bool.or_false, Bool.false_or, Bool.not_true, Bool.not_false, if_true, if_false, Bool.false_eq_true, reduceIte, List.all_cons, List.all_nil, decide_true, decide_false, h1, rep_one (1 + k) (by omega) (by omega)])]
    rw [seq_next e8]
    simp only [frameD, pick, Nat.sub_self, List.replicate_zero, sSeq, sNil, sSet, sRet, sRetN, sExpr, sIf, sBrk, sCont, sNever, f_eV, f_eMv, f_eFz, f_eC, f_eOp, f_eAnd, f_eOr, f_eNot, f_eIf, f_tru1, f_eCh, f_eFr, f_eAndV, f_eOrV, f_eK, f_eNx, f_eMut, evs_nil, evs_cons, pu_eC, pu_eV, pu_eOp, pu_eK, pu_eFr, pus_nil, pus_cons, getD_0, getD_S, un_un, un_non, un_bl, un_int, un_str, un_seq, un_obj, un_deep, un_fn, un_ty, give, truth, oNot, cLt_d, cLe_d, cGt_d, cGe_d, oNotV, oNeg, D.isTupK, D.isLst, isObj, sFld, putD, Out.bind_ok, Out.bind_exc, Out.bind_stuck, give_some, give_none, List.replicate, List.length_cons, List.length_nil, List.set_cons_zero, List.set_cons_succ, List.getElem?_cons_zero, List.getElem?_cons_succ, List.getElem?_nil, lk_non, lk_bl, lk_int, lk_str, lk_fz, lk_bor, lk_own, lk_tmp, lk_scr, lk_obj, lk_objo, lk_deep, looks_nil, looks_cons, D.stb, D.canFz, D.frz, D.isFz, D.isNon, stbs, getO, pN, sStore, sAug, sAugS, Option.bind_some, Option.map_some, Option.bind_none, Option.map_none, List.nil_append, List.cons_append, Bool.and_true, Bool.true_and, Bool.or_true, Bool.true_or, Bool.and_false, Bool.false_and, Bool.or_false, Bool.false_or, Bool.not_true, Bool.not_false, if_true, if_false, Bool.false_eq_true, reduceIte, List.all_cons, List.all_nil, decide_true, decide_false, oLst, List.map_cons, List.map_nil]
    rfl
  unfold f_law_depot
  rw [fn_ret h rfl]
  rfl
end Law

/-! the shared parts of the laws: comprehensions, calls at any slot -/
namespace Law
open Ev
theorem getW_at {ρ : List D} {i : Nat} {d : D} (h : ρ[i]? = some d) (o : d.isOwn = true) : getW ρ i = some d := by
  unfold getW
  rw [h]
  dsimp only
  rw [if_pos o]
theorem set_set {ρ : List D} {i : Nat} {a b : D} : (ρ.set i a).set i b = ρ.set i b := List.set_set ..
/-- a call that changes the pool, the pool at slot i -/
theorem callI {F : Fn} {p q : Pool} {x : Ex} {ρ : List D} {i : Nat} {l : Int} {r : D} (hp : ρ[i]? = some p.d) (hx : x.f (ρ.set i .unset) = .ok (.int l, ρ.set i .unset)) (e : F [p.d, .int l] = .ok (r, [q.d])) (hr : r.canFz = true) : (eCall F [.sl i true, .ex x]).f ρ = .ok (r, ρ.set i q.d) := by
  have e1 : evc [.sl i true, .ex x] ρ = .ok ([p.d, .int l], ρ.set i .unset) := by
    unfold evc
    rw [getW_at hp rfl]
    dsimp only
    unfold evc
    rw [hx]
    rfl
  rw [f_eCall, e1, Out.bind_ok]
  dsimp only
  rw [show passA (hasIo [.sl i true, .ex x]) [.sl i true, .ex x] [p.d, .int l] = some [p.d, .int l] from rfl]
  dsimp only
  rw [e]
  dsimp only
  rw [if_pos hr]
  show (match backA [.sl i true, .ex x] [p.d, .int l] [q.d] (ρ.set i .unset) with | some ρ' => Out.ok (r, ρ') | none => .stuck) = _
  rw [show backA [.sl i true, .ex x] [p.d, .int l] [q.d] (ρ.set i .unset) = some ((ρ.set i .unset).set i q.d) from rfl, set_set]
theorem callI2 {F : Fn} {p q : Pool} {x y : Ex} {ρ : List D} {i : Nat} {l m : Int} {r : D} (hp : ρ[i]? = some p.d) (hx : x.f (ρ.set i .unset) = .ok (.int l, ρ.set i .unset)) (hy : y.f (ρ.set i .unset) = .ok (.int m, ρ.set i .unset)) (e : F [p.d, .int l, .int m] = .ok (r, [q.d])) (hr : r.canFz = true) : (eCall F [.sl i true, .ex x, .ex y]).f ρ = .ok (r, ρ.set i q.d) := by
  have e1 : evc [.sl i true, .ex x, .ex y] ρ = .ok ([p.d, .int l, .int m], ρ.set i .unset) := by
    unfold evc
    rw [getW_at hp rfl]
    dsimp only
    unfold evc
    rw [hx, Out.bind_ok]
    unfold evc
    rw [hy]
    rfl
  rw [f_eCall, e1, Out.bind_ok]
  dsimp only
  rw [show passA (hasIo [.sl i true, .ex x, .ex y]) [.sl i true, .ex x, .ex y] [p.d, .int l, .int m] = some [p.d, .int l, .int m] from rfl]
  dsimp only
  rw [e]
  dsimp only
  rw [if_pos hr]
  show (match backA [.sl i true, .ex x, .ex y] [p.d, .int l, .int m] [q.d] (ρ.set i .unset) with | some ρ' => Out.ok (r, ρ') | none => .stuck) = _
  rw [show backA [.sl i true, .ex x, .ex y] [p.d, .int l, .int m] [q.d] (ρ.set i .unset) = some ((ρ.set i .unset).set i q.d) from rfl, set_set]
/-- ints are mapped -/
theorem lcL_map {vs : List Nat} {g : Tg} {t x : Ex} {ρ : List D} {F : Int → Int} : ∀ {is : List Int} {acc : List D}, (∀ i ∈ is, ∃ ρ1, g (.int i) ρ = some ρ1 ∧ t.f ρ1 = .ok (.bl true, ρ1) ∧ x.f ρ1 = .ok (.int (F i), ρ1) ∧ wipeD ρ1 vs = ρ) → acc.length + is.length ≤ PySem.sizeLine →
    lcL vs g t x (is.map .int) acc ρ = .ok (acc ++ (is.map F).map .int, ρ)
  | [], acc, _, _ => by simp [lcL]
  | i :: is, acc, h, hl => by
    obtain ⟨ρ1, h1, h2, h3, h4⟩ := h i List.mem_cons_self
    rw [List.length_cons] at hl
    show (match g (.int i) ρ with | none => _ | some ρ1 => _) = _
    rw [h1]
    dsimp only
    rw [h2]
    dsimp only [truth]
    rw [h3]
    dsimp only
    rw [if_pos (by rw [Bool.and_eq_true]; exact ⟨rfl, decide_eq_true (by omega)⟩), h4, lcL_map (fun j hj => h j (List.mem_cons_of_mem _ hj)) (by rw [List.length_append]; simp only [List.length_cons, List.length_nil]; omega)]
    simp [D.frz]
/-- .. and chosen -/
theorem lcL_filter {vs : List Nat} {g : Tg} {t x : Ex} {ρ : List D} {P : Int → Bool} {F : Int → Int} : ∀ {is : List Int} {acc : List D}, (∀ i ∈ is, ∃ ρ1, g (.int i) ρ = some ρ1 ∧ t.f ρ1 = .ok (.bl (P i), ρ1) ∧ x.f ρ1 = .ok (.int (F i), ρ1) ∧ wipeD ρ1 vs = ρ) → acc.length + is.length ≤ PySem.sizeLine →
    lcL vs g t x (is.map .int) acc ρ = .ok (acc ++ ((is.filter P).map F).map .int, ρ)
  | [], acc, _, _ => by simp [lcL]
  | i :: is, acc, h, hl => by
    obtain ⟨ρ1, h1, h2, h3, h4⟩ := h i List.mem_cons_self
    rw [List.length_cons] at hl
    show (match g (.int i) ρ with | none => _ | some ρ1 => _) = _
    rw [h1]
    dsimp only
    rw [h2]
    dsimp only [truth]
    cases c : P i with
    | false =>
      dsimp only
      rw [h4, lcL_filter (fun j hj => h j (List.mem_cons_of_mem _ hj)) (by omega), List.filter_cons, c]
      rfl
    | true =>
      dsimp only
      rw [h3]
      dsimp only
      rw [if_pos (by rw [Bool.and_eq_true]; exact ⟨rfl, decide_eq_true (by omega)⟩), h4, lcL_filter (fun j hj => h j (List.mem_cons_of_mem _ hj)) (by rw [List.length_append]; simp only [List.length_cons, List.length_nil]; omega), List.filter_cons, c]
      simp [D.frz]
/-- lo, lo + 1, .. -/
def rgI (lo : Int) (n : Nat) : List Int := (List.range n).map fun (k : Nat) => lo + (k : Int)
theorem rgL_eq (lo : Int) (n : Nat) : rgL lo n = (rgI lo n).map .int := by unfold rgL rgI; rw [List.map_map]; rfl
theorem rgI_len (lo : Int) (n : Nat) : (rgI lo n).length = n := by unfold rgI; rw [List.length_map, List.length_range]
theorem rgI_mem {lo : Int} {n : Nat} {i : Int} : i ∈ rgI lo n ↔ lo ≤ i ∧ i < lo + n := by
  unfold rgI
  rw [List.mem_map]
  constructor
  · rintro ⟨k, hk, rfl⟩
    have := List.mem_range.mp hk
    omega
  · intro h
    exact ⟨(i - lo).toNat, List.mem_range.mpr (by omega), by omega⟩
theorem rgI_get {lo : Int} {n k : Nat} (h : k < n) : (rgI lo n)[k]? = some (lo + (k : Int)) := by
  unfold rgI
  rw [List.getElem?_map, List.getElem?_range h]
  rfl
theorem lc_r2 {p : Bool} {vs : List Nat} {a b t x : Ex} {g : Tg} {ρ : List D} {lo hi : Int} {F : Int → Int} (ha : a.f ρ = .ok (.int lo, ρ)) (hb : b.f ρ = .ok (.int hi, ρ)) (h0 : -(2 ^ 62) ≤ lo) (h1 : lo < 2 ^ 62) (h2 : -(2 ^ 62) ≤ hi) (h3 : hi < 2 ^ 62) (hs : hi - lo ≤ 1000000) (hu : unAt ρ vs = true)
    (h : ∀ i, lo ≤ i → i < hi → ∃ ρ1, g (.int i) ρ = some ρ1 ∧ t.f ρ1 = .ok (.bl true, ρ1) ∧ x.f ρ1 = .ok (.int (F i), ρ1) ∧ wipeD ρ1 vs = ρ) :
    (eLc p vs (itOp false kR2 [a, b]) g t x).f ρ = .ok (D.own (((rgI lo (hi - lo).toNat).map F).map .int), ρ) := by
  have hz : PySem.sizeLine = 16777216 := PySem.sizeLine_eq
  have e1 : (itOp false kR2 [a, b]).f ρ = .ok (rgL lo (hi - lo).toNat, ρ) := by
    rw [f_itOp, evs_cons, ha, Out.bind_ok]
    dsimp only
    rw [if_pos (by rfl), evs_cons, hb, Out.bind_ok]
    dsimp only
    rw [if_pos (by rfl), evs_nil, Out.bind_ok, Out.bind_ok, Out.bind_ok]
    unfold kR2
    dsimp only
    rw [rgOk_of h0 h1, rgOk_of h2 h3]
    rfl
  rw [f_eLc, if_pos (by rfl), e1, Out.bind_ok]
  dsimp only
  rw [if_pos (by rw [hu]; simp), unAt_eq hu, rgL_eq, lcL_map (acc := []) (fun i hi' => by
    obtain ⟨k1, k2⟩ := rgI_mem.mp hi'
    exact h i k1 (by omega)) (by rw [rgI_len, List.length_nil]; omega), Out.bind_ok]
  rfl
theorem lc_seq {p tm : Bool} {vs : List Nat} {a t x : Ex} {g : Tg} {ρ : List D} {d : D} {is : List Int} {P : Int → Bool} {F : Int → Int} (ha : a.f ρ = .ok (d, ρ)) (hd : d.walk tm = some (is.map .int)) (hc : (!tm || (t.pu && x.pu)) = true) (hs : is.length ≤ 1000000) (hu : unAt ρ vs = true)
    (h : ∀ i ∈ is, ∃ ρ1, g (.int i) ρ = some ρ1 ∧ t.f ρ1 = .ok (.bl (P i), ρ1) ∧ x.f ρ1 = .ok (.int (F i), ρ1) ∧ wipeD ρ1 vs = ρ) :
    (eLc p vs (itSeq tm a) g t x).f ρ = .ok (D.own (((is.filter P).map F).map .int), ρ) := by
  have hz : PySem.sizeLine = 16777216 := PySem.sizeLine_eq
  rw [f_eLc, if_pos (show (!(itSeq tm a).tm || (t.pu && x.pu)) = true from hc), f_itSeq, ha, Out.bind_ok]
  dsimp only
  rw [hd]
  dsimp only
  rw [Out.bind_ok]
  dsimp only
  rw [if_pos (by rw [hu]; simp), unAt_eq hu, lcL_filter (acc := []) h (by rw [List.length_nil]; omega), Out.bind_ok]
  rfl
theorem ints_map (is : List Int) : ints? (is.map .int) = some is := ints?_map is
theorem sum_ints (t : Bool) (k : Md) (is : List Int) (h : oSum [.seq t k (is.map .int)] = (ints? (is.map .int)).map fun ns => .int ns.sum) : oSum [.seq t k (is.map .int)] = some (.int is.sum) := by
  rw [h, ints_map]
  rfl
end Law

/-! the shared parts of the laws: calls by values, fields -/
namespace Law
open Ev
theorem f_eLcX : True := trivial
theorem callV1 {F : Fn} {x : Ex} {ρ : List D} {a a' r : D} (hx : x.f ρ = .ok (a, ρ)) (pa : passX false a = some a') (e : F [a'] = .ok (r, [])) (hr : r.canFz = true) (st : (a.stb || true) = true := by simp) : (eCall F [.ex x]).f ρ = .ok (r, ρ) := by
  have e1 : evc [.ex x] ρ = .ok ([a], ρ) := by
    unfold evc
    rw [hx, Out.bind_ok, if_pos (show (a.stb || pusA []) = true from st)]
    rfl
  rw [f_eCall, e1, Out.bind_ok]
  dsimp only
  rw [show passA (hasIo [.ex x]) [.ex x] [a] = (passX false a).bind fun d' => some [d'] from rfl, pa]
  dsimp only [Option.bind_some]
  rw [e]
  dsimp only
  rw [if_pos hr]
  rfl
theorem callV2 {F : Fn} {x y : Ex} {ρ : List D} {a a' b b' r : D} (hx : x.f ρ = .ok (a, ρ)) (hy : y.f ρ = .ok (b, ρ)) (pa : passX false a = some a') (pb : passX false b = some b') (e : F [a', b'] = .ok (r, [])) (hr : r.canFz = true) (st : (a.stb || y.pu) = true) : (eCall F [.ex x, .ex y]).f ρ = .ok (r, ρ) := by
  have e1 : evc [.ex x, .ex y] ρ = .ok ([a, b], ρ) := by
    unfold evc
    rw [hx, Out.bind_ok, if_pos (by show (a.stb || (y.pu && true)) = true; rw [Bool.and_true]; exact st)]
    unfold evc
    rw [hy, Out.bind_ok, if_pos (by show (b.stb || true) = true; simp)]
    rfl
  rw [f_eCall, e1, Out.bind_ok]
  dsimp only
  rw [show passA (hasIo [.ex x, .ex y]) [.ex x, .ex y] [a, b] = (passX false a).bind fun d' => ((passX false b).bind fun d => some [d]).map (d' :: ·) from rfl, pa, pb]
  dsimp only [Option.bind_some, Option.map_some]
  rw [e]
  dsimp only
  rw [if_pos hr]
  rfl
theorem callV3 {F : Fn} {x y z : Ex} {ρ : List D} {a a' b b' c c' r : D} (hx : x.f ρ = .ok (a, ρ)) (hy : y.f ρ = .ok (b, ρ)) (hz : z.f ρ = .ok (c, ρ)) (pa : passX false a = some a') (pb : passX false b = some b') (pc : passX false c = some c') (e : F [a', b', c'] = .ok (r, [])) (hr : r.canFz = true)
    (st : (a.stb || (y.pu && z.pu)) = true) (st2 : (b.stb || z.pu) = true) : (eCall F [.ex x, .ex y, .ex z]).f ρ = .ok (r, ρ) := by
  have e1 : evc [.ex x, .ex y, .ex z] ρ = .ok ([a, b, c], ρ) := by
    unfold evc
    rw [hx, Out.bind_ok, if_pos (by show (a.stb || (y.pu && (z.pu && true))) = true; rw [Bool.and_true]; exact st)]
    unfold evc
    rw [hy, Out.bind_ok, if_pos (by show (b.stb || (z.pu && true)) = true; rw [Bool.and_true]; exact st2)]
    unfold evc
    rw [hz, Out.bind_ok, if_pos (by show (c.stb || true) = true; simp)]
    rfl
  rw [f_eCall, e1, Out.bind_ok]
  dsimp only
  rw [show passA (hasIo [.ex x, .ex y, .ex z]) [.ex x, .ex y, .ex z] [a, b, c] = (passX false a).bind fun d' => ((passX false b).bind fun d => ((passX false c).bind fun d => some [d]).map (d :: ·)).map (d' :: ·) from rfl, pa, pb, pc]
  dsimp only [Option.bind_some, Option.map_some]
  rw [e]
  dsimp only
  rw [if_pos hr]
  rfl
theorem k_ok {kd : D → Bool} {x : Ex} {ρ ρ' : List D} {d : D} (hx : x.f ρ = .ok (d, ρ')) (h : kd d = true) : (eK kd x).f ρ = .ok (d, ρ') := by
  rw [f_eK, hx, Out.bind_ok, if_pos h]
theorem prop_ev {c f : PySem.Str} {F : Fn} {x : Ex} {ρ : List D} {d r : D} (hx : x.f ρ = .ok (d, ρ)) (ho : isObj c f d = true) (pd : passX false d = some d) (e : F [d] = .ok (r, [])) (hr : r.canFz = true) : (eProp c f F x).f ρ = .ok (r, ρ) := by
  rw [f_eProp, callV1 (k_ok hx ho) pd e hr]
theorem meth_ev0 {c f : PySem.Str} {F : Fn} {x : Ex} {ρ : List D} {d r : D} (hx : x.f ρ = .ok (d, ρ)) (ho : isObj c f d = true) (pd : passX false d = some d) (e : F [d] = .ok (r, [])) (hr : r.canFz = true) : (eMeth c f F x []).f ρ = .ok (r, ρ) := by
  rw [f_eMeth, callV1 (k_ok hx ho) pd e hr]
theorem meth_ev1 {c f : PySem.Str} {F : Fn} {x y : Ex} {ρ : List D} {d r : D} {l : Int} (hx : x.f ρ = .ok (d, ρ)) (ho : isObj c f d = true) (pd : passX false d = some d) (hy : y.f ρ = .ok (.int l, ρ)) (e : F [d, .int l] = .ok (r, [])) (hr : r.canFz = true) (st : d.stb = true) : (eMeth c f F x [.ex y]).f ρ = .ok (r, ρ) := by
  rw [f_eMeth, callV2 (k_ok hx ho) hy pd rfl e hr (by rw [st]; rfl)]
theorem ch_int {c1 c2 : Int → Int → Bool} {x y z : Ex} {ρ : List D} {i j k : Int} (hx : x.f ρ = .ok (.int i, ρ)) (hy : y.f ρ = .ok (.int j, ρ)) (hz : z.f ρ = .ok (.int k, ρ)) : (eCh c1 c2 x y z).f ρ = .ok (.bl (c1 i j && c2 j k), ρ) := by
  rw [f_eCh, hx, Out.bind_ok]
  dsimp only
  rw [hy, Out.bind_ok]
  dsimp only
  cases c : c1 i j with
  | true =>
    rw [if_pos rfl, hz, Out.bind_ok]
    rfl
  | false =>
    rw [if_neg Bool.false_ne_true]
    rfl
theorem cle {i j : Int} (h : i ≤ j) : cLe i j = true := decide_eq_true h
theorem fn_nextE {iop : List Bool} {n : Nat} {b : Blk} {ds ρ : List D} (h : b (frameD n ds) = .ok (.next, ρ)) : fnOf iop n b ds = .ok (.non, pick iop ρ) := fr_next h
theorem f_eSlE {g1 g2 : Bool} {x y z : Ex} {ρ : List D} {d d' l h : D} {lo hi : Option Int} (hx : x.f ρ = .ok (d, ρ)) (hy : y.f ρ = .ok (l, ρ)) (hz : z.f ρ = .ok (h, ρ)) (pu : (y.pu && z.pu) = true) (p1 : part g1 l = some lo) (p2 : part g2 h = some hi) (e : oSl d lo hi = some d') : (eSl g1 g2 x y z).f ρ = .ok (d', ρ) := by
  unfold eSl
  dsimp only
  rw [if_pos pu, hx, Out.bind_ok]
  dsimp only
  rw [hy, Out.bind_ok]
  dsimp only
  rw [p1]
  dsimp only
  rw [hz, Out.bind_ok]
  dsimp only
  rw [p2]
  dsimp only
  rw [e]
  rfl
end Law

/-! the shared parts of the laws: likeness -/
namespace Law
open Ev
theorem forL_until {g : Tg} {b : Blk} {r : D} (I : List D → Prop) : ∀ (ds : List D) (k : Nat) (ρ : List D), I ρ → k < ds.length → (∀ (i : Nat) (d : D) (ρ : List D), i < k → ds[i]? = some d → I ρ → ∃ ρ1 ρ2, g d ρ = some ρ1 ∧ b ρ1 = .ok (.next, ρ2) ∧ I ρ2) →
    (∀ (d : D) (ρ : List D), ds[k]? = some d → I ρ → ∃ ρ1 ρ2, g d ρ = some ρ1 ∧ b ρ1 = .ok (.ret r, ρ2)) → ∃ ρ', forL g b ds ρ = .ok (.ret r, ρ')
  | [], k, _, _, h, _, _ => absurd h (Nat.not_lt_zero _)
  | d :: ds, 0, ρ, hI, _, _, h2 => by
    obtain ⟨ρ1, ρ2, h3, h4⟩ := h2 d ρ rfl hI
    exact ⟨ρ2, forL_ret h3 h4⟩
  | d :: ds, k + 1, ρ, hI, hk, h1, h2 => by
    obtain ⟨ρ1, ρ2, h3, h4, h5⟩ := h1 0 d ρ (Nat.succ_pos k) rfl hI
    obtain ⟨ρ', h6⟩ := forL_until I ds k ρ2 h5 (Nat.lt_of_succ_lt_succ hk) (fun i d' ρ hi e hI => h1 (i + 1) d' ρ (Nat.succ_lt_succ hi) (by simpa using e) hI) (fun d' ρ e hI => h2 d' ρ (by simpa using e) hI)
    exact ⟨ρ', by rw [forL_next h3 h4, h6]⟩
theorem kit_tb : L2.kitB "tuple" "bool" = some false := by decide +kernel
theorem kit_ti : L2.kitB "tuple" "int" = some false := by decide +kernel
theorem kit_ts : L2.kitB "tuple" "str" = some false := by decide +kernel
theorem kit_tl : L2.kitB "tuple" "list" = some false := by decide +kernel
theorem kit_tt : L2.kitB "tuple" "tuple" = some true := by decide +kernel
theorem kit_ib : L2.kitB "int" "bool" = some false := by decide +kernel
theorem kit_ii : L2.kitB "int" "int" = some true := by decide +kernel
theorem kit_lb : L2.kitB "list" "bool" = some false := by decide +kernel
theorem kit_li : L2.kitB "list" "int" = some false := by decide +kernel
theorem kit_ls : L2.kitB "list" "str" = some false := by decide +kernel
theorem kit_ll : L2.kitB "list" "list" = some true := by decide +kernel
theorem kit_lt : L2.kitB "list" "tuple" = some false := by decide +kernel
theorem isi_i (i : Int) (n : String) : oIsi [.int i, .ty n] = (L2.kitB "int" n).map .bl := rfl
theorem isi_t (k : Md) (ds : List D) (n : String) : oIsi [.seq true k ds, .ty n] = (L2.kitB "tuple" n).map .bl := rfl
theorem isi_l (k : Md) (ds : List D) (n : String) : oIsi [.seq false k ds, .ty n] = (L2.kitB "list" n).map .bl := rfl
theorem isN_int (i : Int) : oIsN false [.int i, .non] = some (.bl false) := rfl
theorem isN_seq (t : Bool) (k : Md) (ds : List D) : oIsN false [.seq t k ds, .non] = some (.bl false) := rfl
theorem ne_int (i j : Int) : oNe [.int i, .int j] = some (.bl (!(i == j))) := rfl
theorem number_ok (i : Int) : f_law_number [.int i] = .ok (.bl true, []) := by
  have h : b_law_number (frameD N_law_number.length [.int i]) = .ok (.ret (.bl true), [.int i]) := by
    unfold b_law_number N_law_number
    simp only [frameD, pick, Nat.sub_self, List.replicate_zero, sSeq, sNil, sSet, sRet, sRetN, sExpr, sIf, sBrk, sCont, sNever, f_eV, f_eMv, f_eFz, f_eC, f_eOp, f_eAnd, f_eOr, f_eNot, f_eIf, f_tru1, f_eCh, f_eFr, f_eAndV, f_eOrV, f_eK, f_eNx, f_eMut, evs_nil, evs_cons, pu_eC, pu_eV, pu_eOp, pu_eK, pu_eFr, pus_nil, pus_cons, getD_0, getD_S, un_un, un_non, un_bl, un_int, un_str, un_seq, un_obj, un_deep, un_fn, un_ty, give, truth, oNot, cLt_d, cLe_d, cGt_d, cGe_d, oNotV, oNeg, D.isTupK, D.isLst, isObj, sFld, putD, Out.bind_ok, Out.bind_exc, Out.bind_stuck, give_some, give_none, List.replicate, List.length_cons, List.length_nil, List.set_cons_zero, List.set_cons_succ, List.getElem?_cons_zero, List.getElem?_cons_succ, List.getElem?_nil, lk_non, lk_bl, lk_int, lk_str, lk_fz, lk_bor, lk_own, lk_tmp, lk_scr, lk_obj, lk_objo, lk_deep, looks_nil, looks_cons, D.stb, D.canFz, D.frz, D.isFz, D.isNon, stbs, getO, pN, sStore, sAug, sAugS, Option.bind_some, Option.map_some, Option.bind_none, Option.map_none, List.nil_append, List.cons_append, Bool.and_true, Bool.true_and, Bool.or_true, Bool.true_or, Bool.and_false, Bool.false_and, Bool.or_false, Bool.false_or, Bool.not_true, Bool.not_false, if_true, if_false, Bool.false_eq_true, reduceIte, List.all_cons, List.all_nil, decide_true, decide_false, isi_i, kit_ii, kit_ib]
  unfold f_law_number
  rw [fn_ret h rfl]
  rfl
/-- d is like itself -/
def Same (n : Nat) (d : D) : Prop := f_law_same n [d, d] = .ok (.bl true, [])
theorem same_int (n : Nat) (i : Int) : Same (n + 1) (.int i) := by
  have h : b_law_same (f_law_same n) (frameD N_law_same.length [.int i, .int i]) = .ok (.ret (.bl true), [.int i, .int i, .unset]) := by
    unfold b_law_same N_law_same
    have c : (eCall f_law_number [.ex (eV 0)]).f [.int i, .int i, .unset] = .ok (.bl true, [.int i, .int i, .unset]) := callV1 (x := eV 0) rfl rfl (number_ok i) rfl
    simp only [frameD, pick, Nat.sub_self, List.replicate_zero, sSeq, sNil, sSet, sRet, sRetN, sExpr, sIf, sBrk, sCont, sNever, f_eV, f_eMv, f_eFz, f_eC, f_eOp, f_eAnd, f_eOr, f_eNot, f_eIf, f_tru1, f_eCh, f_eFr, f_eAndV, f_eOrV, f_eK, f_eNx, f_eMut, evs_nil, evs_cons, pu_eC, pu_eV, pu_eOp, pu_eK, pu_eFr, pus_nil, pus_cons, getD_0, getD_S, un_un, un_non, un_bl, un_int, un_str, un_seq, un_obj, un_deep, un_fn, un_ty, give, truth, oNot, cLt_d, cLe_d, cGt_d, cGe_d, oNotV, oNeg, D.isTupK, D.isLst, isObj, sFld, putD, Out.bind_ok, Out.bind_exc, Out.bind_stuck, give_some, give_none, List.replicate, List.length_cons, List.length_nil, List.set_cons_zero, List.set_cons_succ, List.getElem?_cons_zero, List.getElem?_cons_succ, List.getElem?_nil, lk_non, lk_bl, lk_int, lk_str, lk_fz, lk_bor, lk_own, lk_tmp, lk_scr, lk_obj, lk_objo, lk_deep, looks_nil, looks_cons, D.stb, D.canFz, D.frz, D.isFz, D.isNon, stbs, getO, pN, sStore, sAug, sAugS, Option.bind_some, Option.map_some, Option.bind_none, Option.map_none, List.nil_append, List.cons_append, Bool.and_true, Bool.true_and, Bool.or_true, Bool.true_or, Bool.and_false, Bool.false_and, Bool.or_false, Bool.false_or, Bool.not_true, Bool.not_false, if_true, if_false, Bool.false_eq_true, reduceIte, List.all_cons, List.all_nil, decide_true, decide_false, isN_int, isi_i, kit_ib, kit_ii, c, eq_int, beq_self_eq_true]
  show fnOf [false, false] N_law_same.length (b_law_same (f_law_same n)) [.int i, .int i] = _
  rw [fn_ret h rfl]
  rfl
theorem same_seq (n : Nat) (t : Bool) (ds : List D) (h1 : ∀ d ∈ ds, Same n d ∧ d.isFz = true) (h2 : ds.length ≤ 1000000) : Same (n + 1) (.seq t .fz ds) := by
  have fzX : ∀ d : D, d.isFz = true → passX false d = some d := fun d h => by
    cases d with
    | seq t k ds => cases k <;> first | rfl | cases h
    | obj k c ns ds => cases k <;> first | rfl | cases h
    | deep k ds => cases h
    | unset => cases h
    | _ => rfl
  have lp : ∃ u, sFor (itOp false kR1 [eOp oLen [eV 1]]) (gN 2) (sIf (eNot (tru1 (eCall (f_law_same n) [.ex (eOp oIx [eV 0, eV 2]), .ex (eOp oIx [eV 1, eV 2])]))) (sRet (eC (.bl false))) (sNil)) [.seq t .fz ds, .seq t .fz ds, .unset] = .ok (.next, [.seq t .fz ds, .seq t .fz ds, u]) := by
    rw [for_r1 (j := (ds.length : Int)) (ρ1 := [.seq t .fz ds, .seq t .fz ds, .unset]) (by simp only [frameD, pick, Nat.sub_self, List.replicate_zero, sSeq, sNil, sSet, sRet, sRetN, sExpr, sIf, sBrk, sCont, sNever, f_eV, f_eMv, f_eFz, f_eC, f_eOp, f_eAnd, f_eOr, f_eNot, f_eIf, f_tru1, f_eCh, f_eFr, f_eAndV, f_eOrV, f_eK, f_eNx, f_eMut, evs_nil, evs_cons, pu_eC, pu_eV, pu_eOp, pu_eK, pu_eFr, pus_nil, pus_cons, getD_0, getD_S, un_un, un_non, un_bl, un_int, un_str, un_seq, un_obj, un_deep, un_fn, un_ty, give, truth, oNot, cLt_d, cLe_d, cGt_d, cGe_d, oNotV, oNeg, D.isTupK, D.isLst, isObj, sFld, putD, Out.bind_ok, Out.bind_exc, Out.bind_stuck, give_some, give_none, List.replicate, List.length_cons, List.length_nil, List.set_cons_zero, List.set_cons_succ, List.getElem?_cons_zero, List.getElem?_cons_succ, List.getElem?_nil, lk_non, lk_bl, lk_int, lk_str, lk_fz, lk_bor, lk_own, lk_tmp, lk_scr, lk_obj, lk_objo, lk_deep, looks_nil, looks_cons, D.stb, D.canFz, D.frz, D.isFz, D.isNon, stbs, getO, pN, sStore, sAug, sAugS, Option.bind_some, Option.map_some, Option.bind_none, Option.map_none, List.nil_append, List.cons_append, Bool.and_true, Bool.true_and, Bool.or_true, Bool.true_or, Bool.and_false, Bool.false_and, Bool.or_false, Bool.false_or, Bool.not_true, Bool.not_false, if_true, if_false, Bool.false_eq_true, reduceIte, List.all_cons, List.all_nil, decide_true, decide_false, len_seq]) (rgOk_of (by omega) (by omega))]
    obtain ⟨ρ', h3, u, h4⟩ := forL_ix (g := gN 2) (b := sIf (eNot (tru1 (eCall (f_law_same n) [.ex (eOp oIx [eV 0, eV 2]), .ex (eOp oIx [eV 1, eV 2])]))) (sRet (eC (.bl false))) (sNil)) (fun _ ρ => ∃ u, ρ = [.seq t .fz ds, .seq t .fz ds, u]) (rgL 0 ((ds.length : Int)).toNat) 0 _ ⟨.unset, rfl⟩ (by
      rintro i d ρ e ⟨u, rfl⟩
      obtain ⟨hi, rfl⟩ := rgL_get e
      have hi : i < ds.length := by omega
      obtain ⟨k1, k2⟩ := h1 ds[i] (List.getElem_mem hi)
      have e1 : L2.atI ds (0 + (i : Int)) = some ds[i] := by rw [Int.zero_add, at_nat, List.getElem?_eq_getElem hi]
      refine ⟨_, _, gN_ok rfl, .inl ?_, .int (0 + (i : Int)), rfl⟩
      have c : (eCall (f_law_same n) [.ex (eOp oIx [eV 0, eV 2]), .ex (eOp oIx [eV 1, eV 2])]).f [.seq t .fz ds, .seq t .fz ds, .int (0 + (i : Int))] = .ok (.bl true, [.seq t .fz ds, .seq t .fz ds, .int (0 + (i : Int))]) :=
        callV2 (a := ds[i]) (b := ds[i]) (by simp only [frameD, pick, Nat.sub_self, List.replicate_zero, sSeq, sNil, sSet, sRet, sRetN, sExpr, sIf, sBrk, sCont, sNever, f_eV, f_eMv, f_eFz, f_eC, f_eOp, f_eAnd, f_eOr, f_eNot, f_eIf, f_tru1, f_eCh, f_eFr, f_eAndV, f_eOrV, f_eK, f_eNx, f_eMut, evs_nil, evs_cons, pu_eC, pu_eV, pu_eOp, pu_eK, pu_eFr, pus_nil, pus_cons, getD_0, getD_S, un_un, un_non, un_bl, un_int, un_str, un_seq, un_obj, un_deep, un_fn, un_ty, give, truth, oNot, cLt_d, cLe_d, cGt_d, cGe_d, oNotV, oNeg, D.isTupK, D.isLst, isObj, sFld, putD, Out.bind_ok, Out.bind_exc, Out.bind_stuck, give_some, give_none, List.replicate, List.length_cons, List.length_nil, List.set_cons_zero, List.set_cons_succ, List.getElem?_cons_zero, List.getElem?_cons_succ, List.getElem?_nil, lk_non, lk_bl, lk_int, lk_str, lk_fz, lk_bor, lk_own, lk_tmp, lk_scr, lk_obj, lk_objo, lk_deep, looks_nil, looks_cons, D.stb, D.canFz, D.frz, D.isFz, D.isNon, stbs, getO, pN, sStore, sAug, sAugS, Option.bind_some, Option.map_some, Option.bind_none, Option.map_none, List.nil_append, List.cons_append, Bool.and_true, Bool.true_and, Bool.or_true, Bool.true_or, Bool.and_false, Bool.false_and, Bool.or_false, Bool.false_or, Bool.not_true, Bool.not_false, if_true, if_false, Bool.false_eq_true, reduceIte, List.all_cons, List.all_nil, decide_true, decide_false, ix_seq', e1]) (by simp only [frameD, pick, Nat.sub_self, List.replicate_zero, sSeq, sNil, sSet, sRet, sRetN, sExpr, sIf, sBrk, sCont, sNever, f_eV, f_eMv, f_eFz, f_eC, f_eOp, f_eAnd, f_eOr, f_eNot, f_eIf, f_tru1, f_eCh, f_eFr, f_eAndV, f_eOrV, f_eK, f_eNx, f_eMut, evs_nil, evs_cons, pu_eC, pu_eV, pu_eOp, pu_eK, pu_eFr, pus_nil, pus_cons, getD_0, getD_S, un_un, un_non, un_bl, un_int, un_str, un_seq, un_obj, un_deep, un_fn, un_ty, give, truth, oNot, cLt_d, cLe_d, cGt_d, cGe_d, oNotV, oNeg, D.isTupK, D.isLst, isObj, sFld, putD, Out.bind_ok, Out.bind_exc, Out.bind_stuck, give_some, give_none, List.replicate, List.length_cons, List.length_nil, List.set_cons_zero, List.set_cons_succ, List.getElem?_cons_zero, List.getElem?_cons_succ, List.getElem?_nil, lk_non, lk_bl, lk_int, lk_str, lk_fz, lk_bor, lk_own, lk_tmp, lk_scr, lk_obj, lk_objo, lk_deep, looks_nil, looks_cons, D.stb, D.canFz, D.frz, D.isFz, D.isNon, stbs, getO, pN, sStore, sAug, sAugS, Option.bind_some, Option.map_some, Option.bind_none, Option.map_none, List.nil_append, List.cons_append, Bool.and_true, Bool.true_and, Bool.or_true, Bool.true_or, Bool.and_false, Bool.false_and, Bool.or_false, Bool.false_or, Bool.not_true, Bool.not_false, if_true, if_false, Bool.false_eq_true, reduceIte, List.all_cons, List.all_nil, decide_true, decide_false, ix_seq', e1]) (fzX _ k2) (fzX _ k2) k1 rfl (by rw [D.isFz_stb k2]; rfl)
      simp only [frameD, pick, Nat.sub_self, List.replicate_zero, sSeq, sNil, sSet, sRet, sRetN, sExpr, sIf, sBrk, sCont, sNever, f_eV, f_eMv, f_eFz, f_eC, f_eOp, f_eAnd, f_eOr, f_eNot, f_eIf, f_tru1, f_eCh, f_eFr, f_eAndV, f_eOrV, f_eK, f_eNx, f_eMut, evs_nil, evs_cons, pu_eC, pu_eV, pu_eOp, pu_eK, pu_eFr, pus_nil, pus_cons, getD_0, getD_S, un_un, un_non, un_bl, un_int, un_str, un_seq, un_obj, un_deep, un_fn, un_ty, give, truth, oNot, cLt_d, cLe_d, cGt_d, cGe_d, oNotV, oNeg, D.isTupK, D.isLst, isObj, sFld, putD, Out.bind_ok, Out.bind_exc, Out.bind_stuck, give_some, give_none, List.replicate, List.length_cons, List.length_nil, List.set_cons_zero, List.set_cons_succ, List.getElem?_cons_zero, List.getElem?_cons_succ, List.getElem?_nil, lk_non, lk_bl, lk_int, lk_str, lk_fz, lk_bor, lk_own, lk_tmp, lk_scr, lk_obj, lk_objo, lk_deep, looks_nil, looks_cons, D.stb, D.canFz, D.frz, D.isFz, D.isNon, stbs, getO, pN, sStore, sAug, sAugS, Option.bind_some, Option.map_some, Option.bind_none, Option.map_none, List.nil_append, List.cons_append, Bool.and_true, Bool.true_and, Bool.or_true, Bool.true_or, Bool.and_false, Bool.false_and, Bool.or_false, Bool.false_or, Bool.not_true, Bool.not_false, if_true, if_false, Bool.false_eq_true, reduceIte, List.all_cons, List.all_nil, decide_true, decide_false, c])
    exact ⟨u, by rw [h3, h4]⟩
  obtain ⟨u, e1⟩ := lp
  have h : b_law_same (f_law_same n) (frameD N_law_same.length [.seq t .fz ds, .seq t .fz ds]) = .ok (.ret (.bl true), [.seq t .fz ds, .seq t .fz ds, u]) := by
    unfold b_law_same N_law_same
    cases t with
    | true =>
      rw [seq_next (ρ' := [.seq true .fz ds, .seq true .fz ds, .unset]) (by simp only [frameD, pick, Nat.sub_self, List.replicate_zero, sSeq, sNil, sSet, sRet, sRetN, sExpr, sIf, sBrk, sCont, sNever, f_eV, f_eMv, f_eFz, f_eC, f_eOp, f_eAnd, f_eOr, f_eNot, f_eIf, f_tru1, f_eCh, f_eFr, f_eAndV, f_eOrV, f_eK, f_eNx, f_eMut, evs_nil, evs_cons, pu_eC, pu_eV, pu_eOp, pu_eK, pu_eFr, pus_nil, pus_cons, getD_0, getD_S, un_un, un_non, un_bl, un_int, un_str, un_seq, un_obj, un_deep, un_fn, un_ty, give, truth, oNot, cLt_d, cLe_d, cGt_d, cGe_d, oNotV, oNeg, D.isTupK, D.isLst, isObj, sFld, putD, Out.bind_ok, Out.bind_exc, Out.bind_stuck, give_some, give_none, List.replicate, List.length_cons, List.length_nil, List.set_cons_zero, List.set_cons_succ, List.getElem?_cons_zero, List.getElem?_cons_succ, List.getElem?_nil, lk_non, lk_bl, lk_int, lk_str, lk_fz, lk_bor, lk_own, lk_tmp, lk_scr, lk_obj, lk_objo, lk_deep, looks_nil, looks_cons, D.stb, D.canFz, D.frz, D.isFz, D.isNon, stbs, getO, pN, sStore, sAug, sAugS, Option.bind_some, Option.map_some, Option.bind_none, Option.map_none, List.nil_append, List.cons_append, Bool.and_true, Bool.true_and, Bool.or_true, Bool.true_or, Bool.and_false, Bool.false_and, Bool.or_false, Bool.false_or, Bool.not_true, Bool.not_false, if_true, if_false, Bool.false_eq_true, reduceIte, List.all_cons, List.all_nil, decide_true, decide_false, isN_seq])]
      rw [seq_next (ρ' := [.seq true .fz ds, .seq true .fz ds, .unset]) (by simp only [frameD, pick, Nat.sub_self, List.replicate_zero, sSeq, sNil, sSet, sRet, sRetN, sExpr, sIf, sBrk, sCont, sNever, f_eV, f_eMv, f_eFz, f_eC, f_eOp, f_eAnd, f_eOr, f_eNot, f_eIf, f_tru1, f_eCh, f_eFr, f_eAndV, f_eOrV, f_eK, f_eNx, f_eMut, evs_nil, evs_cons, pu_eC, pu_eV, pu_eOp, pu_eK, pu_eFr, pus_nil, pus_cons, getD_0, getD_S, un_un, un_non, un_bl, un_int, un_str, un_seq, un_obj, un_deep, un_fn, un_ty, give, truth, oNot, cLt_d, cLe_d, cGt_d, cGe_d, oNotV, oNeg, D.isTupK, D.isLst, isObj, sFld, putD, Out.bind_ok, Out.bind_exc, Out.bind_stuck, give_some, give_none, List.replicate, List.length_cons, List.length_nil, List.set_cons_zero, List.set_cons_succ, List.getElem?_cons_zero, List.getElem?_cons_succ, List.getElem?_nil, lk_non, lk_bl, lk_int, lk_str, lk_fz, lk_bor, lk_own, lk_tmp, lk_scr, lk_obj, lk_objo, lk_deep, looks_nil, looks_cons, D.stb, D.canFz, D.frz, D.isFz, D.isNon, stbs, getO, pN, sStore, sAug, sAugS, Option.bind_some, Option.map_some, Option.bind_none, Option.map_none, List.nil_append, List.cons_append, Bool.and_true, Bool.true_and, Bool.or_true, Bool.true_or, Bool.and_false, Bool.false_and, Bool.or_false, Bool.false_or, Bool.not_true, Bool.not_false, if_true, if_false, Bool.false_eq_true, reduceIte, List.all_cons, List.all_nil, decide_true, decide_false, isi_t, kit_tb])]
      rw [seq_next (ρ' := [.seq true .fz ds, .seq true .fz ds, .unset]) (by simp only [frameD, pick, Nat.sub_self, List.replicate_zero, sSeq, sNil, sSet, sRet, sRetN, sExpr, sIf, sBrk, sCont, sNever, f_eV, f_eMv, f_eFz, f_eC, f_eOp, f_eAnd, f_eOr, f_eNot, f_eIf, f_tru1, f_eCh, f_eFr, f_eAndV, f_eOrV, f_eK, f_eNx, f_eMut, evs_nil, evs_cons, pu_eC, pu_eV, pu_eOp, pu_eK, pu_eFr, pus_nil, pus_cons, getD_0, getD_S, un_un, un_non, un_bl, un_int, un_str, un_seq, un_obj, un_deep, un_fn, un_ty, give, truth, oNot, cLt_d, cLe_d, cGt_d, cGe_d, oNotV, oNeg, D.isTupK, D.isLst, isObj, sFld, putD, Out.bind_ok, Out.bind_exc, Out.bind_stuck, give_some, give_none, List.replicate, List.length_cons, List.length_nil, List.set_cons_zero, List.set_cons_succ, List.getElem?_cons_zero, List.getElem?_cons_succ, List.getElem?_nil, lk_non, lk_bl, lk_int, lk_str, lk_fz, lk_bor, lk_own, lk_tmp, lk_scr, lk_obj, lk_objo, lk_deep, looks_nil, looks_cons, D.stb, D.canFz, D.frz, D.isFz, D.isNon, stbs, getO, pN, sStore, sAug, sAugS, Option.bind_some, Option.map_some, Option.bind_none, Option.map_none, List.nil_append, List.cons_append, Bool.and_true, Bool.true_and, Bool.or_true, Bool.true_or, Bool.and_false, Bool.false_and, Bool.or_false, Bool.false_or, Bool.not_true, Bool.not_false, if_true, if_false, Bool.false_eq_true, reduceIte, List.all_cons, List.all_nil, decide_true, decide_false, isi_t, kit_ti])]
      rw [seq_next (ρ' := [.seq true .fz ds, .seq true .fz ds, .unset]) (by simp only [frameD, pick, Nat.sub_self, List.replicate_zero, sSeq, sNil, sSet, sRet, sRetN, sExpr, sIf, sBrk, sCont, sNever, f_eV, f_eMv, f_eFz, f_eC, f_eOp, f_eAnd, f_eOr, f_eNot, f_eIf, f_tru1, f_eCh, f_eFr, f_eAndV, f_eOrV, f_eK, f_eNx, f_eMut, evs_nil, evs_cons, pu_eC, pu_eV, pu_eOp, pu_eK, pu_eFr, pus_nil, pus_cons, getD_0, getD_S, un_un, un_non, un_bl, un_int, un_str, un_seq, un_obj, un_deep, un_fn, un_ty, give, truth, oNot, cLt_d, cLe_d, cGt_d, cGe_d, oNotV, oNeg, D.isTupK, D.isLst, isObj, sFld, putD, Out.bind_ok, Out.bind_exc, Out.bind_stuck, give_some, give_none, List.replicate, List.length_cons, List.length_nil, List.set_cons_zero, List.set_cons_succ, List.getElem?_cons_zero, List.getElem?_cons_succ, List.getElem?_nil, lk_non, lk_bl, lk_int, lk_str, lk_fz, lk_bor, lk_own, lk_tmp, lk_scr, lk_obj, lk_objo, lk_deep, looks_nil, looks_cons, D.stb, D.canFz, D.frz, D.isFz, D.isNon, stbs, getO, pN, sStore, sAug, sAugS, Option.bind_some, Option.map_some, Option.bind_none, Option.map_none, List.nil_append, List.cons_append, Bool.and_true, Bool.true_and, Bool.or_true, Bool.true_or, Bool.and_false, Bool.false_and, Bool.or_false, Bool.false_or, Bool.not_true, Bool.not_false, if_true, if_false, Bool.false_eq_true, reduceIte, List.all_cons, List.all_nil, decide_true, decide_false, isi_t, kit_ts])]
      rw [seq_next (ρ' := [.seq true .fz ds, .seq true .fz ds, .unset]) (by simp only [frameD, pick, Nat.sub_self, List.replicate_zero, sSeq, sNil, sSet, sRet, sRetN, sExpr, sIf, sBrk, sCont, sNever, f_eV, f_eMv, f_eFz, f_eC, f_eOp, f_eAnd, f_eOr, f_eNot, f_eIf, f_tru1, f_eCh, f_eFr, f_eAndV, f_eOrV, f_eK, f_eNx, f_eMut, evs_nil, evs_cons, pu_eC, pu_eV, pu_eOp, pu_eK, pu_eFr, pus_nil, pus_cons, getD_0, getD_S, un_un, un_non, un_bl, un_int, un_str, un_seq, un_obj, un_deep, un_fn, un_ty, give, truth, oNot, cLt_d, cLe_d, cGt_d, cGe_d, oNotV, oNeg, D.isTupK, D.isLst, isObj, sFld, putD, Out.bind_ok, Out.bind_exc, Out.bind_stuck, give_some, give_none, List.replicate, List.length_cons, List.length_nil, List.set_cons_zero, List.set_cons_succ, List.getElem?_cons_zero, List.getElem?_cons_succ, List.getElem?_nil, lk_non, lk_bl, lk_int, lk_str, lk_fz, lk_bor, lk_own, lk_tmp, lk_scr, lk_obj, lk_objo, lk_deep, looks_nil, looks_cons, D.stb, D.canFz, D.frz, D.isFz, D.isNon, stbs, getO, pN, sStore, sAug, sAugS, Option.bind_some, Option.map_some, Option.bind_none, Option.map_none, List.nil_append, List.cons_append, Bool.and_true, Bool.true_and, Bool.or_true, Bool.true_or, Bool.and_false, Bool.false_and, Bool.or_false, Bool.false_or, Bool.not_true, Bool.not_false, if_true, if_false, Bool.false_eq_true, reduceIte, List.all_cons, List.all_nil, decide_true, decide_false, isi_t, kit_tl])]
      rw [seq_next (ρ' := [.seq true .fz ds, .seq true .fz ds, .unset]) (by simp only [frameD, pick, Nat.sub_self, List.replicate_zero, sSeq, sNil, sSet, sRet, sRetN, sExpr, sIf, sBrk, sCont, sNever, f_eV, f_eMv, f_eFz, f_eC, f_eOp, f_eAnd, f_eOr, f_eNot, f_eIf, f_tru1, f_eCh, f_eFr, f_eAndV, f_eOrV, f_eK, f_eNx, f_eMut, evs_nil, evs_cons, pu_eC, pu_eV, pu_eOp, pu_eK, pu_eFr, pus_nil, pus_cons, getD_0, getD_S, un_un, un_non, un_bl, un_int, un_str, un_seq, un_obj, un_deep, un_fn, un_ty, give, truth, oNot, cLt_d, cLe_d, cGt_d, cGe_d, oNotV, oNeg, D.isTupK, D.isLst, isObj, sFld, putD, Out.bind_ok, Out.bind_exc, Out.bind_stuck, give_some, give_none, List.replicate, List.length_cons, List.length_nil, List.set_cons_zero, List.set_cons_succ, List.getElem?_cons_zero, List.getElem?_cons_succ, List.getElem?_nil, lk_non, lk_bl, lk_int, lk_str, lk_fz, lk_bor, lk_own, lk_tmp, lk_scr, lk_obj, lk_objo, lk_deep, looks_nil, looks_cons, D.stb, D.canFz, D.frz, D.isFz, D.isNon, stbs, getO, pN, sStore, sAug, sAugS, Option.bind_some, Option.map_some, Option.bind_none, Option.map_none, List.nil_append, List.cons_append, Bool.and_true, Bool.true_and, Bool.or_true, Bool.true_or, Bool.and_false, Bool.false_and, Bool.or_false, Bool.false_or, Bool.not_true, Bool.not_false, if_true, if_false, Bool.false_eq_true, reduceIte, List.all_cons, List.all_nil, decide_true, decide_false, isi_t, kit_tt])]
      rw [seq_next (ρ' := [.seq true .fz ds, .seq true .fz ds, .unset]) (by simp only [frameD, pick, Nat.sub_self, List.replicate_zero, sSeq, sNil, sSet, sRet, sRetN, sExpr, sIf, sBrk, sCont, sNever, f_eV, f_eMv, f_eFz, f_eC, f_eOp, f_eAnd, f_eOr, f_eNot, f_eIf, f_tru1, f_eCh, f_eFr, f_eAndV, f_eOrV, f_eK, f_eNx, f_eMut, evs_nil, evs_cons, pu_eC, pu_eV, pu_eOp, pu_eK, pu_eFr, pus_nil, pus_cons, getD_0, getD_S, un_un, un_non, un_bl, un_int, un_str, un_seq, un_obj, un_deep, un_fn, un_ty, give, truth, oNot, cLt_d, cLe_d, cGt_d, cGe_d, oNotV, oNeg, D.isTupK, D.isLst, isObj, sFld, putD, Out.bind_ok, Out.bind_exc, Out.bind_stuck, give_some, give_none, List.replicate, List.length_cons, List.length_nil, List.set_cons_zero, List.set_cons_succ, List.getElem?_cons_zero, List.getElem?_cons_succ, List.getElem?_nil, lk_non, lk_bl, lk_int, lk_str, lk_fz, lk_bor, lk_own, lk_tmp, lk_scr, lk_obj, lk_objo, lk_deep, looks_nil, looks_cons, D.stb, D.canFz, D.frz, D.isFz, D.isNon, stbs, getO, pN, sStore, sAug, sAugS, Option.bind_some, Option.map_some, Option.bind_none, Option.map_none, List.nil_append, List.cons_append, Bool.and_true, Bool.true_and, Bool.or_true, Bool.true_or, Bool.and_false, Bool.false_and, Bool.or_false, Bool.false_or, Bool.not_true, Bool.not_false, if_true, if_false, Bool.false_eq_true, reduceIte, List.all_cons, List.all_nil, decide_true, decide_false, len_seq, ne_int, beq_self_eq_true])]
      rw [seq_next e1]
      simp only [frameD, pick, Nat.sub_self, List.replicate_zero, sSeq, sNil, sSet, sRet, sRetN, sExpr, sIf, sBrk, sCont, sNever, f_eV, f_eMv, f_eFz, f_eC, f_eOp, f_eAnd, f_eOr, f_eNot, f_eIf, f_tru1, f_eCh, f_eFr, f_eAndV, f_eOrV, f_eK, f_eNx, f_eMut, evs_nil, evs_cons, pu_eC, pu_eV, pu_eOp, pu_eK, pu_eFr, pus_nil, pus_cons, getD_0, getD_S, un_un, un_non, un_bl, un_int, un_str, un_seq, un_obj, un_deep, un_fn, un_ty, give, truth, oNot, cLt_d, cLe_d, cGt_d, cGe_d, oNotV, oNeg, D.isTupK, D.isLst, isObj, sFld, putD, Out.bind_ok, Out.bind_exc, Out.bind_stuck, give_some, give_none, List.replicate, List.length_cons, List.length_nil, List.set_cons_zero, List.set_cons_succ, List.getElem?_cons_zero, List.getElem?_cons_succ, List.getElem?_nil, lk_non, lk_bl, lk_int, lk_str, lk_fz, lk_bor, lk_own, lk_tmp, lk_scr, lk_obj, lk_objo, lk_deep, looks_nil, looks_cons, D.stb, D.canFz, D.frz, D.isFz, D.isNon, stbs, getO, pN, sStore, sAug, sAugS, Option.bind_some, Option.map_some, Option.bind_none, Option.map_none, List.nil_append, List.cons_append, Bool.and_true, Bool.true_and, Bool.or_true, Bool.true_or, Bool.and_false, Bool.false_and, Bool.or_false, Bool.false_or, Bool.not_true, Bool.not_false, if_true, if_false, Bool.false_eq_true, reduceIte, List.all_cons, List.all_nil, decide_true, decide_false]
    | false =>
      rw [seq_next (ρ' := [.seq false .fz ds, .seq false .fz ds, .unset]) (by simp only [frameD, pick, Nat.sub_self, List.replicate_zero, sSeq, sNil, sSet, sRet, sRetN, sExpr, sIf, sBrk, sCont, sNever, f_eV, f_eMv, f_eFz, f_eC, f_eOp, f_eAnd, f_eOr, f_eNot, f_eIf, f_tru1, f_eCh, f_eFr, f_eAndV, f_eOrV, f_eK, f_eNx, f_eMut, evs_nil, evs_cons, pu_eC, pu_eV, pu_eOp, pu_eK, pu_eFr, pus_nil, pus_cons, getD_0, getD_S, un_un, un_non, un_bl, un_int, un_str, un_seq, un_obj, un_deep, un_fn, un_ty, give, truth, oNot, cLt_d, cLe_d, cGt_d, cGe_d, oNotV, oNeg, D.isTupK, D.isLst, isObj, sFld, putD, Out.bind_ok, Out.bind_exc, Out.bind_stuck, give_some, give_none, List.replicate, List.length_cons, List.length_nil, List.set_cons_zero, List.set_cons_succ, List.getElem?_cons_zero, List.getElem?_cons_succ, List.getElem?_nil, lk_non, lk_bl, lk_int, lk_str, lk_fz, lk_bor, lk_own, lk_tmp, lk_scr, lk_obj, lk_objo, lk_deep, looks_nil, looks_cons, D.stb, D.canFz, D.frz, D.isFz, D.isNon, stbs, getO, pN, sStore, sAug, sAugS, Option.bind_some, Option.map_some, Option.bind_none, Option.map_none, List.nil_append, List.cons_append, Bool.and_true, Bool.true_and, Bool.or_true, Bool.true_or, Bool.and_false, Bool.false_and, Bool.or_false, Bool.false_or, Bool.not_true, Bool.not_false, if_true, if_false, Bool.false_eq_true, reduceIte, List.all_cons, List.all_nil, decide_true, decide_false, isN_seq])]
      rw [seq_next (ρ' := [.seq false .fz ds, .seq false .fz ds, .unset]) (by simp only [frameD, pick, Nat.sub_self, List.replicate_zero, sSeq, sNil, sSet, sRet, sRetN, sExpr, sIf, sBrk, sCont, sNever, f_eV, f_eMv, f_eFz, f_eC, f_eOp, f_eAnd, f_eOr, f_eNot, f_eIf, f_tru1, f_eCh, f_eFr, f_eAndV, f_eOrV, f_eK, f_eNx, f_eMut, evs_nil, evs_cons, pu_eC, pu_eV, pu_eOp, pu_eK, pu_eFr, pus_nil, pus_cons, getD_0, getD_S, un_un, un_non, un_bl, un_int, un_str, un_seq, un_obj, un_deep, un_fn, un_ty, give, truth, oNot, cLt_d, cLe_d, cGt_d, cGe_d, oNotV, oNeg, D.isTupK, D.isLst, isObj, sFld, putD, Out.bind_ok, Out.bind_exc, Out.bind_stuck, give_some, give_none, List.replicate, List.length_cons, List.length_nil, List.set_cons_zero, List.set_cons_succ, List.getElem?_cons_zero, List.getElem?_cons_succ, List.getElem?_nil, lk_non, lk_bl, lk_int, lk_str, lk_fz, lk_bor, lk_own, lk_tmp, lk_scr, lk_obj, lk_objo, lk_deep, looks_nil, looks_cons, D.stb, D.canFz, D.frz, D.isFz, D.isNon, stbs, getO, pN, sStore, sAug, sAugS, Option.bind_some, Option.map_some, Option.bind_none, Option.map_none, List.nil_append, List.cons_append, Bool.and_true, Bool.true_and, Bool.or_true, Bool.true_or, Bool.and_false, Bool.false_and, Bool.or_false, Bool.false_or, Bool.not_true, Bool.not_false, if_true, if_false, Bool.false_eq_true, reduceIte, List.all_cons, List.all_nil, decide_true, decide_false, isi_l, kit_lb])]
      rw [seq_next (ρ' := [.seq false .fz ds, .seq false .fz ds, .unset]) (by simp only [frameD, pick, Nat.sub_self, List.replicate_zero, sSeq, sNil, sSet, sRet, sRetN, sExpr, sIf, sBrk, sCont, sNever, f_eV, f_eMv, f_eFz, f_eC, f_eOp, f_eAnd, f_eOr, f_eNot, f_eIf, f_tru1, f_eCh, f_eFr, f_eAndV, f_eOrV, f_eK, f_eNx, f_eMut, evs_nil, evs_cons, pu_eC, pu_eV, pu_eOp, pu_eK, pu_eFr, pus_nil, pus_cons, getD_0, getD_S, un_un, un_non, un_bl, un_int, un_str, un_seq, un_obj, un_deep, un_fn, un_ty, give, truth, oNot, cLt_d, cLe_d, cGt_d, cGe_d, oNotV, oNeg, D.isTupK, D.isLst, isObj, sFld, putD, Out.bind_ok, Out.bind_exc, Out.bind_stuck, give_some, give_none, List.replicate, List.length_cons, List.length_nil, List.set_cons_zero, List.set_cons_succ, List.getElem?_cons_zero, List.getElem?_cons_succ, List.getElem?_nil, lk_non, lk_bl, lk_int, lk_str, lk_fz, lk_bor, lk_own, lk_tmp, lk_scr, lk_obj, lk_objo, lk_deep, looks_nil, looks_cons, D.stb, D.canFz, D.frz, D.isFz, D.isNon, stbs, getO, pN, sStore, sAug, sAugS, Option.bind_some, Option.map_some, Option.bind_none, Option.map_none, List.nil_append, List.cons_append, Bool.and_true, Bool.true_and, Bool.or_true, Bool.true_or, Bool.and_false, Bool.false_and, Bool.or_false, Bool.false_or, Bool.not_true, Bool.not_false, if_true, if_false, Bool.false_eq_true, reduceIte, List.all_cons, List.all_nil, decide_true, decide_false, isi_l, kit_li])]
      rw [seq_next (ρ' := [.seq false .fz ds, .seq false .fz ds, .unset]) (by simp only [frameD, pick, Nat.sub_self, List.replicate_zero, sSeq, sNil, sSet, sRet, sRetN, sExpr, sIf, sBrk, sCont, sNever, f_eV, f_eMv, f_eFz, f_eC, f_eOp, f_eAnd, f_eOr, f_eNot, f_eIf, f_tru1, f_eCh, f_eFr, f_eAndV, f_eOrV, f_eK, f_eNx, f_eMut, evs_nil, evs_cons, pu_eC, pu_eV, pu_eOp, pu_eK, pu_eFr, pus_nil, pus_cons, getD_0, getD_S, un_un, un_non, un_bl, un_int, un_str, un_seq, un_obj, un_deep, un_fn, un_ty, give, truth, oNot, cLt_d, cLe_d, cGt_d, cGe_d, oNotV, oNeg, D.isTupK, D.isLst, isObj, sFld, putD, Out.bind_ok, Out.bind_exc, Out.bind_stuck, give_some, give_none, List.replicate, List.length_cons, List.length_nil, List.set_cons_zero, List.set_cons_succ, List.getElem?_cons_zero, List.getElem?_cons_succ, List.getElem?_nil, lk_non, lk_bl, lk_int, lk_str, lk_fz, lk_bor, lk_own, lk_tmp, lk_scr, lk_obj, lk_objo, lk_deep, looks_nil, looks_cons, D.stb, D.canFz, D.frz, D.isFz, D.isNon, stbs, getO, pN, sStore, sAug, sAugS, Option.bind_some, Option.map_some, Option.bind_none, Option.map_none, List.nil_append, List.cons_append, Bool.and_true, Bool.true_and, Bool.or_true, Bool.true_or, Bool.and_false, Bool.false_and, Bool.or_false, Bool.false_or, Bool.not_true, Bool.not_false, if_true, if_false, Bool.false_eq_true, reduceIte, List.all_cons, List.all_nil, decide_true, decide_false, isi_l, kit_ls])]
      rw [seq_next (ρ' := [.seq false .fz ds, .seq false .fz ds, .unset]) (by simp only [frameD, pick, Nat.sub_self, List.replicate_zero, sSeq, sNil, sSet, sRet, sRetN, sExpr, sIf, sBrk, sCont, sNever, f_eV, f_eMv, f_eFz, f_eC, f_eOp, f_eAnd, f_eOr, f_eNot, f_eIf, f_tru1, f_eCh, f_eFr, f_eAndV, f_eOrV, f_eK, f_eNx, f_eMut, evs_nil, evs_cons, pu_eC, pu_eV, pu_eOp, pu_eK, pu_eFr, pus_nil, pus_cons, getD_0, getD_S, un_un, un_non, un_bl, un_int, un_str, un_seq, un_obj, un_deep, un_fn, un_ty, give, truth, oNot, cLt_d, cLe_d, cGt_d, cGe_d, oNotV, oNeg, D.isTupK, D.isLst, isObj, sFld, putD, Out.bind_ok, Out.bind_exc, Out.bind_stuck, give_some, give_none, List.replicate, List.length_cons, List.length_nil, List.set_cons_zero, List.set_cons_succ, List.getElem?_cons_zero, List.getElem?_cons_succ, List.getElem?_nil, lk_non, lk_bl, lk_int, lk_str, lk_fz, lk_bor, lk_own, lk_tmp, lk_scr, lk_obj, lk_objo, lk_deep, looks_nil, looks_cons, D.stb, D.canFz, D.frz, D.isFz, D.isNon, stbs, getO, pN, sStore, sAug, sAugS, Option.bind_some, Option.map_some, Option.bind_none, Option.map_none, List.nil_append, List.cons_append, Bool.and_true, Bool.true_and, Bool.or_true, Bool.true_or, Bool.and_false, Bool.false_and, Bool.or_false, Bool.false_or, Bool.not_true, Bool.not_false, if_true, if_false, Bool.false_eq_true, reduceIte, List.all_cons, List.all_nil, decide_true, decide_false, isi_l, kit_ll])]
      rw [seq_next (ρ' := [.seq false .fz ds, .seq false .fz ds, .unset]) (by simp only [frameD, pick, Nat.sub_self, List.replicate_zero, sSeq, sNil, sSet, sRet, sRetN, sExpr, sIf, sBrk, sCont, sNever, f_eV, f_eMv, f_eFz, f_eC, f_eOp, f_eAnd, f_eOr, f_eNot, f_eIf, f_tru1, f_eCh, f_eFr, f_eAndV, f_eOrV, f_eK, f_eNx, f_eMut, evs_nil, evs_cons, pu_eC, pu_eV, pu_eOp, pu_eK, pu_eFr, pus_nil, pus_cons, getD_0, getD_S, un_un, un_non, un_bl, un_int, un_str, un_seq, un_obj, un_deep, un_fn, un_ty, give, truth, oNot, cLt_d, cLe_d, cGt_d, cGe_d, oNotV, oNeg, D.isTupK, D.isLst, isObj, sFld, putD, Out.bind_ok, Out.bind_exc, Out.bind_stuck, give_some, give_none, List.replicate, List.length_cons, List.length_nil, List.set_cons_zero, List.set_cons_succ, List.getElem?_cons_zero, List.getElem?_cons_succ, List.getElem?_nil, lk_non, lk_bl, lk_int, lk_str, lk_fz, lk_bor, lk_own, lk_tmp, lk_scr, lk_obj, lk_objo, lk_deep, looks_nil, looks_cons, D.stb, D.canFz, D.frz, D.isFz, D.isNon, stbs, getO, pN, sStore, sAug, sAugS, Option.bind_some, Option.map_some, Option.bind_none, Option.map_none, List.nil_append, List.cons_append, Bool.and_true, Bool.true_and, Bool.or_true, Bool.true_or, Bool.and_false, Bool.false_and, Bool.or_false, Bool.false_or, Bool.not_true, Bool.not_false, if_true, if_false, Bool.false_eq_true, reduceIte, List.all_cons, List.all_nil, decide_true, decide_false, isi_l, kit_lt])]
      rw [seq_next (ρ' := [.seq false .fz ds, .seq false .fz ds, .unset]) (by simp only [frameD, pick, Nat.sub_self, List.replicate_zero, sSeq, sNil, sSet, sRet, sRetN, sExpr, sIf, sBrk, sCont, sNever, f_eV, f_eMv, f_eFz, f_eC, f_eOp, f_eAnd, f_eOr, f_eNot, f_eIf, f_tru1, f_eCh, f_eFr, f_eAndV, f_eOrV, f_eK, f_eNx, f_eMut, evs_nil, evs_cons, pu_eC, pu_eV, pu_eOp, pu_eK, pu_eFr, pus_nil, pus_cons, getD_0, getD_S, un_un, un_non, un_bl, un_int, un_str, un_seq, un_obj, un_deep, un_fn, un_ty, give, truth, oNot, cLt_d, cLe_d, cGt_d, cGe_d, oNotV, oNeg, D.isTupK, D.isLst, isObj, sFld, putD, Out.bind_ok, Out.bind_exc, Out.bind_stuck, give_some, give_none, List.replicate, List.length_cons, List.length_nil, List.set_cons_zero, List.set_cons_succ, List.getElem?_cons_zero, List.getElem?_cons_succ, List.getElem?_nil, lk_non, lk_bl, lk_int, lk_str, lk_fz, lk_bor, lk_own, lk_tmp, lk_scr, lk_obj, lk_objo, lk_deep, looks_nil, looks_cons, D.stb, D.canFz, D.frz, D.isFz, D.isNon, stbs, getO, pN, sStore, sAug, sAugS, Option.bind_some, Option.map_some, Option.bind_none, Option.map_none, List.nil_append, List.cons_append, Bool.and_true, Bool.true_and, Bool.or_true, Bool.true_or, Bool.and_false, Bool.false_and, Bool.or_false, Bool.false_or, Bool.not_true, Bool.not_false, if_true, if_false, Bool.false_eq_true, reduceIte, List.all_cons, List.all_nil, decide_true, decide_false, len_seq, ne_int, beq_self_eq_true])]
      rw [seq_next e1]
      simp only [frameD, pick, Nat.sub_self, List.replicate_zero, sSeq, sNil, sSet, sRet, sRetN, sExpr, sIf, sBrk, sCont, sNever, f_eV, f_eMv, f_eFz, f_eC, f_eOp, f_eAnd, f_eOr, f_eNot, f_eIf, f_tru1, f_eCh, f_eFr, f_eAndV, f_eOrV, f_eK, f_eNx, f_eMut, evs_nil, evs_cons, pu_eC, pu_eV, pu_eOp, pu_eK, pu_eFr, pus_nil, pus_cons, getD_0, getD_S, un_un, un_non, un_bl, un_int, un_str, un_seq, un_obj, un_deep, un_fn, un_ty, give, truth, oNot, cLt_d, cLe_d, cGt_d, cGe_d, oNotV, oNeg, D.isTupK, D.isLst, isObj, sFld, putD, Out.bind_ok, Out.bind_exc, Out.bind_stuck, give_some, give_none, List.replicate, List.length_cons, List.length_nil, List.set_cons_zero, List.set_cons_succ, List.getElem?_cons_zero, List.getElem?_cons_succ, List.getElem?_nil, lk_non, lk_bl, lk_int, lk_str, lk_fz, lk_bor, lk_own, lk_tmp, lk_scr, lk_obj, lk_objo, lk_deep, looks_nil, looks_cons, D.stb, D.canFz, D.frz, D.isFz, D.isNon, stbs, getO, pN, sStore, sAug, sAugS, Option.bind_some, Option.map_some, Option.bind_none, Option.map_none, List.nil_append, List.cons_append, Bool.and_true, Bool.true_and, Bool.or_true, Bool.true_or, Bool.and_false, Bool.false_and, Bool.or_false, Bool.false_or, Bool.not_true, Bool.not_false, if_true, if_false, Bool.false_eq_true, reduceIte, List.all_cons, List.all_nil, decide_true, decide_false]
  show fnOf [false, false] N_law_same.length (b_law_same (f_law_same n)) [.seq t .fz ds, .seq t .fz ds] = _
  rw [fn_ret h rfl]
  rfl
theorem same_ints (n : Nat) (t : Bool) (is : List Int) (h : is.length ≤ 1000000) : Same (n + 2) (.seq t .fz (is.map .int)) := same_seq (n + 1) t _ (fun d hd => by
  obtain ⟨i, _, rfl⟩ := List.mem_map.mp hd
  exact ⟨same_int n i, rfl⟩) (by rw [List.length_map]; exact h)
end Law

/-! the shared parts of the laws: objects made, owned lists of lists -/
namespace Law
open Ev
theorem eV_at {ρ : List D} {i : Nat} {d : D} (h : ρ[i]? = some d) (u : d.isUn = false) : (eV i).f ρ = .ok (d.look, ρ) := by
  rw [f_eV]
  unfold getD
  rw [h]
  cases d <;> first | rfl | cases u
def gD (g : List Int) : D := D.own (g.map .int)
def gT (g : List Int) : D := .seq false .tmp (g.map .int)
theorem looks_g : ∀ G : List (List Int), looks (G.map gD) = G.map gT
  | [] => rfl
  | g :: G => by
    show (gD g).look :: looks (G.map gD) = gT g :: G.map gT
    rw [looks_g G]
    rfl
theorem atD_ok {ρ : List D} {i : Nat} {k : Nat} {G : List (List Int)} {x : Ex} (hG : ρ[i]? = some (.deep .own (G.map gD))) (hx : x.f ρ = .ok (.int (k : Int), ρ)) (hk : k < G.length) : atD i x ρ = some (G.map gD, k, G[k].map .int) := by
  unfold atD
  rw [hG]
  dsimp only
  rw [hx]
  dsimp only
  rw [ix_of (by rw [List.length_map]; exact hk)]
  dsimp only
  rw [List.getElem?_map, List.getElem?_eq_getElem hk]
  rfl
theorem ixD_ok {ρ : List D} {i : Nat} {k : Nat} {G : List (List Int)} {x : Ex} (hG : ρ[i]? = some (.deep .own (G.map gD))) (hx : x.f ρ = .ok (.int (k : Int), ρ)) (hp : x.pu = true) (hk : k < G.length) : (eOp oIx [eV i, x]).f ρ = .ok (gT G[k], ρ) := by
  have e : oIx [.deep .tmp (G.map gT), .int (k : Int)] = some (gT G[k]) := by
    show L2.atI (G.map gT) (k : Int) = _
    rw [at_nat, List.getElem?_map, List.getElem?_eq_getElem hk]
    rfl
  rw [f_eOp, evs_cons, eV_at hG rfl, Out.bind_ok]
  dsimp only
  rw [if_pos (by rw [pus_cons, hp]; exact Bool.or_true _), evs_cons, hx, Out.bind_ok]
  dsimp only
  rw [if_pos (by rfl), evs_nil, Out.bind_ok, Out.bind_ok, Out.bind_ok]
  dsimp only
  rw [lk_deep, looks_g, e]
  rfl
theorem set_map {G : List (List Int)} {k : Nat} {g : List Int} : (G.map gD).set k (.own (g.map .int)) = (G.set k g).map gD := by rw [List.map_set]; rfl
theorem putD_eq {ρ : List D} {i k : Nat} {G : List (List Int)} {x : Ex} {g : List Int} (h : atD i x ρ = some (G.map gD, k, G[k]!.map .int)) : (pD i x).put ρ (g.map .int) = ρ.set i (.deep .own ((G.set k g).map gD)) := by
  show (match atD i x ρ with | some (ds, n, _) => ρ.set i (.deep .own (ds.set n (.own (g.map .int)))) | none => ρ) = _
  rw [h]
  dsimp only
  rw [set_map]
theorem make3 {c : PySem.Str} {F : Fn} {x y z : Ex} {ρ : List D} {a a' b b' e e' o : D} (hx : x.f ρ = .ok (a, ρ)) (hy : y.f ρ = .ok (b, ρ)) (hz : z.f ρ = .ok (e, ρ)) (pa : passX false a = some a') (pb : passX false b = some b') (pe : passX false e = some e') (h : F [.obj .own c [] [], a', b', e'] = .ok (.non, [o])) (ho : o.isOwn = true)
    (st : (a.stb || (y.pu && z.pu)) = true) (st2 : (b.stb || z.pu) = true) : (eMake c F [.ex x, .ex y, .ex z]).f ρ = .ok (o, ρ) := by
  have e1 : evc [.ex x, .ex y, .ex z] ρ = .ok ([a, b, e], ρ) := by
    unfold evc
    rw [hx, Out.bind_ok, if_pos (by show (a.stb || (y.pu && (z.pu && true))) = true; rw [Bool.and_true]; exact st)]
    unfold evc
    rw [hy, Out.bind_ok, if_pos (by show (b.stb || (z.pu && true)) = true; rw [Bool.and_true]; exact st2)]
    unfold evc
    rw [hz, Out.bind_ok, if_pos (by show (e.stb || true) = true; simp)]
    rfl
  unfold eMake
  dsimp only
  rw [e1, Out.bind_ok]
  dsimp only
  rw [show passA (hasIo [.ex x, .ex y, .ex z]) [.ex x, .ex y, .ex z] [a, b, e] = (passX false a).bind fun d' => ((passX false b).bind fun d => ((passX false e).bind fun d => some [d]).map (d :: ·)).map (d' :: ·) from rfl, pa, pb, pe]
  dsimp only [Option.bind_some, Option.map_some]
  rw [h]
  dsimp only
  rw [if_pos ho]
  rfl
theorem for_seq {tm : Bool} {x : Ex} {g : Tg} {b : Blk} {ρ ρ1 : List D} {d : D} {ds : List D} (h : x.f ρ = .ok (d, ρ1)) (w : d.walk tm = some ds) : sFor (itSeq tm x) g b ρ = forL g b ds ρ1 := by
  show ((itSeq tm x).f ρ).bind _ = _
  rw [f_itSeq, h, Out.bind_ok]
  dsimp only
  rw [w]
  rfl
end Law

/-! k00: the Depot's numbers -/
namespace Law
open Ev
def depotD (m q : Int) (fs : List Int) : D := .obj .fz "Depot" ["period", "quota", "firsts"] [.int m, .int q, .tup (fs.map .int)]
/-- the places: rows by the weekday -/
def cnts (m : Int) (fs : List Int) : List Int := (rgI 1 m.toNat).map fun c => ((fs.count c : Nat) : Int)
def spots (m q : Int) (fs : List Int) : List Int := (cnts m fs).set 0 ((fs.count 1 : Nat) - q)
structure DepOk (m q : Int) (fs : List Int) : Prop extends Plan m q fs where
  m8 : m ≤ 8
  n12 : fs.length ≤ 12
theorem cd_ok {n : Int} (h0 : 0 ≤ n) (h1 : n ≤ 10 ^ 30) : f_check_days [.int n] = .ok (.non, []) := by
  have h : b_check_days (frameD N_check_days.length [.int n]) = .ok (.next, [.int n]) := by
    unfold b_check_days N_check_days
    simp only [frameD, pick, Nat.sub_self, List.replicate_zero, sSeq, sNil, sSet, sRet, sRetN, sExpr, sIf, sBrk, sCont, sNever, f_eV, f_eMv, f_eFz, f_eC, f_eOp, f_eAnd, f_eOr, f_eNot, f_eIf, f_tru1, f_eCh, f_eFr, f_eAndV, f_eOrV, f_eK, f_eNx, f_eMut, evs_nil, evs_cons, pu_eC, pu_eV, pu_eOp, pu_eK, pu_eFr, pus_nil, pus_cons, getD_0, getD_S, un_un, un_non, un_bl, un_int, un_str, un_seq, un_obj, un_deep, un_fn, un_ty, give, truth, oNot, cLt_d, cLe_d, cGt_d, cGe_d, oNotV, oNeg, D.isTupK, D.isLst, isObj, sFld, putD, Out.bind_ok, Out.bind_exc, Out.bind_stuck, give_some, give_none, List.replicate, List.length_cons, List.length_nil, List.set_cons_zero, List.set_cons_succ, List.getElem?_cons_zero, List.getElem?_cons_succ, List.getElem?_nil, lk_non, lk_bl, lk_int, lk_str, lk_fz, lk_bor, lk_own, lk_tmp, lk_scr, lk_obj, lk_objo, lk_deep, looks_nil, looks_cons, D.stb, D.canFz, D.frz, D.isFz, D.isNon, stbs, getO, pN, sStore, sAug, sAugS, Option.bind_some, Option.map_some, Option.bind_none, Option.map_none, List.nil_append, List.cons_append, Bool.and_true, Bool.true_and, Bool.or_true, Bool.true_or, Bool.and_false, Bool.false_and, Bool.or_false, Bool.false_or, Bool.not_true, Bool.not_false, if_true, if_false, Bool.false_eq_true, reduceIte, List.all_cons, List.all_nil, decide_true, decide_false, decide_eq_true h0, show decide (n ≤ 1000000000000000000000000000000) = true from decide_eq_true h1]
  unfold f_check_days
  rw [fn_nextE h]
  rfl
theorem cn_ok {m q : Int} (h0 : 1 ≤ m) (h1 : m ≤ 8) (h2 : 1 ≤ q) (h3 : q ≤ 12) : f_check_numbers [.int m, .int q] = .ok (.non, []) := by
  have h : b_check_numbers (frameD N_check_numbers.length [.int m, .int q]) = .ok (.next, [.int m, .int q]) := by
    unfold b_check_numbers N_check_numbers
    simp only [frameD, pick, Nat.sub_self, List.replicate_zero, sSeq, sNil, sSet, sRet, sRetN, sExpr, sIf, sBrk, sCont, sNever, f_eV, f_eMv, f_eFz, f_eC, f_eOp, f_eAnd, f_eOr, f_eNot, f_eIf, f_tru1, f_eCh, f_eFr, f_eAndV, f_eOrV, f_eK, f_eNx, f_eMut, evs_nil, evs_cons, pu_eC, pu_eV, pu_eOp, pu_eK, pu_eFr, pus_nil, pus_cons, getD_0, getD_S, un_un, un_non, un_bl, un_int, un_str, un_seq, un_obj, un_deep, un_fn, un_ty, give, truth, oNot, cLt_d, cLe_d, cGt_d, cGe_d, oNotV, oNeg, D.isTupK, D.isLst, isObj, sFld, putD, Out.bind_ok, Out.bind_exc, Out.bind_stuck, give_some, give_none, List.replicate, List.length_cons, List.length_nil, List.set_cons_zero, List.set_cons_succ, List.getElem?_cons_zero, List.getElem?_cons_succ, List.getElem?_nil, lk_non, lk_bl, lk_int, lk_str, lk_fz, lk_bor, lk_own, lk_tmp, lk_scr, lk_obj, lk_objo, lk_deep, looks_nil, looks_cons, D.stb, D.canFz, D.frz, D.isFz, D.isNon, stbs, getO, pN, sStore, sAug, sAugS, Option.bind_some, Option.map_some, Option.bind_none, Option.map_none, List.nil_append, List.cons_append, Bool.and_true, Bool.true_and, Bool.or_true, Bool.true_or, Bool.and_false, Bool.false_and, Bool.or_false, Bool.false_or, Bool.not_true, Bool.not_false, if_true, if_false, Bool.false_eq_true, reduceIte, List.all_cons, List.all_nil, decide_true, decide_false, decide_eq_true h0, decide_eq_true h1, decide_eq_true h2, decide_eq_true h3]
  unfold f_check_numbers
  rw [fn_nextE h]
  rfl
theorem count_take {fs : List Int} {i : Nat} (h : i < fs.length) : (fs.take (i + 1)).count 1 = (fs.take i).count 1 + if fs[i] = 1 then 1 else 0 := by
  rw [List.take_succ_eq_append_getElem h, List.count_append, List.count_singleton]
  by_cases c : fs[i] = 1
  · rw [if_pos c, c]; rfl
  · rw [if_neg c, if_neg (by simpa using c)]
theorem cf_ok {m q : Int} {fs : List Int} {t : Bool} {k : Md} (hk : (D.seq t k (fs.map .int)).look = .seq t k (fs.map .int)) (hd : DepOk m q fs) : f_check_firsts [.int m, .int q, .seq t k (fs.map .int)] = .ok (.non, []) := by
  have hl0 : 1 ≤ (fs.length : Int) := by have := hd.n1; have := hd.q1; omega
  have hl1 : (fs.length : Int) ≤ 12 := by have := hd.n12; omega
  have lp : ∃ u, sFor (itOp false kR1 [eOp oLen [eV 2]]) (gN 4) (sSeq (sIf (eNot (eCh cLe cLe (eC (.int 1)) (eOp oIx [eV 2, eV 4]) (eV 0))) (sNever) (sNil)) (sIf (eOp oEq [eOp oIx [eV 2, eV 4], eC (.int 1)]) (sAug 3 (o2 (fun _ _ => true) fun i j => .int (i + j)) (eC (.int 1))) (sNil)))
      [.int m, .int q, .seq t k (fs.map .int), .int 0, .unset] = .ok (.next, [.int m, .int q, .seq t k (fs.map .int), .int ((fs.count 1 : Nat) : Int), u]) := by
    rw [for_r1 (j := (fs.length : Int)) (ρ1 := [.int m, .int q, .seq t k (fs.map .int), .int 0, .unset]) (by simp only [frameD, pick, Nat.sub_self, List.replicate_zero, sSeq, sNil, sSet, sRet, sRetN, sExpr, sIf, sBrk, sCont, sNever, f_eV, f_eMv, f_eFz, f_eC, f_eOp, f_eAnd, f_eOr, f_eNot, f_eIf, f_tru1, f_eCh, f_eFr, f_eAndV, f_eOrV, f_eK, f_eNx, f_eMut, evs_nil, evs_cons, pu_eC, pu_eV, pu_eOp, pu_eK, pu_eFr, pus_nil, pus_cons, getD_0, getD_S, un_un, un_non, un_bl, un_int, un_str, un_seq, un_obj, un_deep, un_fn, un_ty, give, truth, oNot, cLt_d, cLe_d, cGt_d, cGe_d, oNotV, oNeg, D.isTupK, D.isLst, isObj, sFld, putD, Out.bind_ok, Out.bind_exc, Out.bind_stuck, give_some, give_none, List.replicate, List.length_cons, List.length_nil, List.set_cons_zero, List.set_cons_succ, List.getElem?_cons_zero, List.getElem?_cons_succ, List.getElem?_nil, lk_non, lk_bl, lk_int, lk_str, lk_fz, lk_bor, lk_own, lk_tmp, lk_scr, lk_obj, lk_objo, lk_deep, looks_nil, looks_cons, D.stb, D.canFz, D.frz, D.isFz, D.isNon, stbs, getO, pN, sStore, sAug, sAugS, Option.bind_some, Option.map_some, Option.bind_none, Option.map_none, List.nil_append, List.cons_append, Bool.and_true, Bool.true_and, Bool.or_true, Bool.true_or, Bool.and_false, Bool.false_and, Bool.or_false, Bool.false_or, Bool.not_true, Bool.not_false, if_true, if_false, Bool.false_eq_true, reduceIte, List.all_cons, List.all_nil, decide_true, decide_false, hk, len_seq, List.length_map]) (rgOk_of (by omega) (by omega))]
    obtain ⟨ρ', h1, u, h2⟩ := forL_ix (g := gN 4) (b := sSeq (sIf (eNot (eCh cLe cLe (eC (.int 1)) (eOp oIx [eV 2, eV 4]) (eV 0))) (sNever) (sNil)) (sIf (eOp oEq [eOp oIx [eV 2, eV 4], eC (.int 1)]) (sAug 3 (o2 (fun _ _ => true) fun i j => .int (i + j)) (eC (.int 1))) (sNil)))
      (fun i ρ => ∃ u, ρ = [.int m, .int q, .seq t k (fs.map .int), .int (((fs.take i).count 1 : Nat) : Int), u]) (rgL 0 ((fs.length : Int)).toNat) 0 _ ⟨.unset, rfl⟩ (by
        rintro i d ρ e ⟨u, rfl⟩
        obtain ⟨hi, rfl⟩ := rgL_get e
        have hi : i < fs.length := by omega
        have e1 : L2.atI (fs.map D.int) (0 + (i : Int)) = some (.int fs[i]) := by
          rw [Int.zero_add, at_nat, List.getElem?_map, List.getElem?_eq_getElem hi]
          rfl
        obtain ⟨a1, a2⟩ := hd.all fs[i] (List.getElem_mem hi)
        refine ⟨_, _, gN_ok rfl, .inl ?_, .int (0 + (i : Int)), rfl⟩
        rw [Nat.zero_add, count_take hi]
        by_cases c : fs[i] = 1
        · rw [c] at e1 a1 a2
          simp only [frameD, pick, Nat.sub_self, List.replicate_zero, sSeq, sNil, sSet, sRet, sRetN, sExpr, sIf, sBrk, sCont, sNever, f_eV, f_eMv, f_eFz, f_eC, f_eOp, f_eAnd, f_eOr, f_eNot, f_eIf, f_tru1, f_eCh, f_eFr, f_eAndV, f_eOrV, f_eK, f_eNx, f_eMut, evs_nil, evs_cons, pu_eC, pu_eV, pu_eOp, pu_eK, pu_eFr, pus_nil, pus_cons, getD_0, getD_S, un_un, un_non, un_bl, un_int, un_str, un_seq, un_obj, un_deep, un_fn, un_ty, give, truth, oNot, cLt_d, cLe_d, cGt_d, cGe_d, oNotV, oNeg, D.isTupK, D.isLst, isObj, sFld, putD, Out.bind_ok, Out.bind_exc, Out.bind_stuck, give_some, give_none, List.replicate, List.length_cons, List.length_nil, List.set_cons_zero, List.set_cons_succ, List.getElem?_cons_zero, List.getElem?_cons_succ, List.getElem?_nil, lk_non, lk_bl, lk_int, lk_str, lk_fz, lk_bor, lk_own, lk_tmp, lk_scr, lk_obj, lk_objo, lk_deep, looks_nil, looks_cons, D.stb, D.canFz, D.frz, D.isFz, D.isNon, stbs, getO, pN, sStore, sAug, sAugS, Option.bind_some, Option.map_some, Option.bind_none, Option.map_none, List.nil_append, List.cons_append, Bool.and_true, Bool.true_and, Bool.or_true, Bool.true_or, Bool.and_false, Bool.false_and, Bool.or_false, Bool.false_or, Bool.not_true, Bool.not_false, if_true, if_false, Bool.false_eq_true, reduceIte, List.all_cons, List.all_nil, decide_true, decide_false, hk, ix_seq', e1, decide_eq_true a1, decide_eq_true a2, eq_int, c, beq_self_eq_true, if_true, o2, Int.natCast_add, Int.cast_ofNat_Int]
        · have c' : (fs[i] == 1) = false := beq_eq_false_iff_ne.mpr c
          simp only [frameD, pick, Nat.sub_self, List.replicate_zero, sSeq, sNil, sSet, sRet, sRetN, sExpr, sIf, sBrk, sCont, sNever, f_eV, f_eMv, f_eFz, f_eC, f_eOp, f_eAnd, f_eOr, f_eNot, f_eIf, f_tru1, f_eCh, f_eFr, f_eAndV, f_eOrV, f_eK, f_eNx, f_eMut, evs_nil, evs_cons, pu_eC, pu_eV, pu_eOp, pu_eK, pu_eFr, pus_nil, pus_cons, getD_0, getD_S, un_un, un_non, un_bl, un_int, un_str, un_seq, un_obj, un_deep, un_fn, un_ty, give, truth, oNot, cLt_d, cLe_d, cGt_d, cGe_d, oNotV, oNeg, D.isTupK, D.isLst, isObj, sFld, putD, Out.bind_ok, Out.bind_exc, Out.bind_stuck, give_some, give_none, List.replicate, List.length_cons, List.length_nil, List.set_cons_zero, List.set_cons_succ, List.getElem?_cons_zero, List.getElem?_cons_succ, List.getElem?_nil, lk_non, lk_bl, lk_int, lk_str, lk_fz, lk_bor, lk_own, lk_tmp, lk_scr, lk_obj, lk_objo, lk_deep, looks_nil, looks_cons, D.stb, D.canFz, D.frz, D.isFz, D.isNon, stbs, getO, pN, sStore, sAug, sAugS, Option.bind_some, Option.map_some, Option.bind_none, Option.map_none, List.nil_append, List.cons_append, Bool.and_true, Bool.true_and, Bool.or_true, Bool.true_or, Bool.and_false, Bool.false_and, Bool.or_false, Bool.false_or, Bool.not_true, Bool.not_false, if_true, if_false, Bool.false_eq_true, reduceIte, List.all_cons, List.all_nil, decide_true, decide_false, hk, ix_seq', e1, decide_eq_true a1, decide_eq_true a2, eq_int, c', if_neg c, Nat.add_zero])
    refine ⟨u, Eq.trans h1 ?_⟩
    rw [h2, rgL_len]
    simp
  obtain ⟨u, e1⟩ := lp
  have ones : ¬ (((fs.count 1 : Nat) : Int) < q) := by have := hd.ones; omega
  have h : b_check_firsts (frameD N_check_firsts.length [.int m, .int q, .seq t k (fs.map .int)]) = .ok (.next, [.int m, .int q, .seq t k (fs.map .int), .int ((fs.count 1 : Nat) : Int), u]) := by
    unfold b_check_firsts N_check_firsts
    rw [seq_next (ρ' := [.int m, .int q, .seq t k (fs.map .int), .unset, .unset]) (by simp only [frameD, pick, Nat.sub_self, List.replicate_zero, sSeq, sNil, sSet, sRet, sRetN, sExpr, sIf, sBrk, sCont, sNever, f_eV, f_eMv, f_eFz, f_eC, f_eOp, f_eAnd, f_eOr, f_eNot, f_eIf, f_tru1, f_eCh, f_eFr, f_eAndV, f_eOrV, f_eK, f_eNx, f_eMut, evs_nil, evs_cons, pu_eC, pu_eV, pu_eOp, pu_eK, pu_eFr, pus_nil, pus_cons, getD_0, getD_S, un_un, un_non, un_bl, un_int, un_str, un_seq, un_obj, un_deep, un_fn, un_ty, give, truth, oNot, cLt_d, cLe_d, cGt_d, cGe_d, oNotV, oNeg, D.isTupK, D.isLst, isObj, sFld, putD, Out.bind_ok, Out.bind_exc, Out.bind_stuck, give_some, give_none, List.replicate, List.length_cons, List.length_nil, List.set_cons_zero, List.set_cons_succ, List.getElem?_cons_zero, List.getElem?_cons_succ, List.getElem?_nil, lk_non, lk_bl, lk_int, lk_str, lk_fz, lk_bor, lk_own, lk_tmp, lk_scr, lk_obj, lk_objo, lk_deep, looks_nil, looks_cons, D.stb, D.canFz, D.frz, D.isFz, D.isNon, stbs, getO, pN, sStore, sAug, sAugS, Option.bind_some, Option.map_some, Option.bind_none, Option.map_none, List.nil_append, List.cons_append, Bool.and_true, Bool.true_and, Bool.or_true, Bool.true_or, Bool.and_false, Bool.false_and, Bool.or_false, Bool.false_or, Bool.not_true, Bool.not_false, if_true, if_false, Bool.false_eq_true, reduceIte, List.all_cons, List.all_nil, decide_true, decide_false, hk, len_seq, List.length_map, decide_eq_true hl0, decide_eq_true hl1])]
    rw [seq_next (ρ' := [.int m, .int q, .seq t k (fs.map .int), .int 0, .unset]) (by simp only [frameD, pick, Nat.sub_self, List.replicate_zero, sSeq, sNil, sSet, sRet, sRetN, sExpr, sIf, sBrk, sCont, sNever, f_eV, f_eMv, f_eFz, f_eC, f_eOp, f_eAnd, f_eOr, f_eNot, f_eIf, f_tru1, f_eCh, f_eFr, f_eAndV, f_eOrV, f_eK, f_eNx, f_eMut, evs_nil, evs_cons, pu_eC, pu_eV, pu_eOp, pu_eK, pu_eFr, pus_nil, pus_cons, getD_0, getD_S, un_un, un_non, un_bl, un_int, un_str, un_seq, un_obj, un_deep, un_fn, un_ty, give, truth, oNot, cLt_d, cLe_d, cGt_d, cGe_d, oNotV, oNeg, D.isTupK, D.isLst, isObj, sFld, putD, Out.bind_ok, Out.bind_exc, Out.bind_stuck, give_some, give_none, List.replicate, List.length_cons, List.length_nil, List.set_cons_zero, List.set_cons_succ, List.getElem?_cons_zero, List.getElem?_cons_succ, List.getElem?_nil, lk_non, lk_bl, lk_int, lk_str, lk_fz, lk_bor, lk_own, lk_tmp, lk_scr, lk_obj, lk_objo, lk_deep, looks_nil, looks_cons, D.stb, D.canFz, D.frz, D.isFz, D.isNon, stbs, getO, pN, sStore, sAug, sAugS, Option.bind_some, Option.map_some, Option.bind_none, Option.map_none, List.nil_append, List.cons_append, Bool.and_true, Bool.true_and, Bool.or_true, Bool.true_or, Bool.and_false, Bool.false_and, Bool.or_false, Bool.false_or, Bool.not_true, Bool.not_false, if_true, if_false, Bool.false_eq_true, reduceIte, List.all_cons, List.all_nil, decide_true, decide_false])]
    rw [seq_next e1]
    simp only [frameD, pick, Nat.sub_self, List.replicate_zero, sSeq, sNil, sSet, sRet, sRetN, sExpr, sIf, sBrk, sCont, sNever, f_eV, f_eMv, f_eFz, f_eC, f_eOp, f_eAnd, f_eOr, f_eNot, f_eIf, f_tru1, f_eCh, f_eFr, f_eAndV, f_eOrV, f_eK, f_eNx, f_eMut, evs_nil, evs_cons, pu_eC, pu_eV, pu_eOp, pu_eK, pu_eFr, pus_nil, pus_cons, getD_0, getD_S, un_un, un_non, un_bl, un_int, un_str, un_seq, un_obj, un_deep, un_fn, un_ty, give, truth, oNot, cLt_d, cLe_d, cGt_d, cGe_d, oNotV, oNeg, D.isTupK, D.isLst, isObj, sFld, putD, Out.bind_ok, Out.bind_exc, Out.bind_stuck, give_some, give_none, List.replicate, List.length_cons, List.length_nil, List.set_cons_zero, List.set_cons_succ, List.getElem?_cons_zero, List.getElem?_cons_succ, List.getElem?_nil, lk_non, lk_bl, lk_int, lk_str, lk_fz, lk_bor, lk_own, lk_tmp, lk_scr, lk_obj, lk_objo, lk_deep, looks_nil, looks_cons, D.stb, D.canFz, D.frz, D.isFz, D.isNon, stbs, getO, pN, sStore, sAug, sAugS, Option.bind_some, Option.map_some, Option.bind_none, Option.map_none, List.nil_append, List.cons_append, Bool.and_true, Bool.true_and, Bool.or_true, Bool.true_or, Bool.and_false, Bool.false_and, Bool.or_false, Bool.false_or, Bool.not_true, Bool.not_false, if_true, if_false, Bool.false_eq_true, reduceIte, List.all_cons, List.all_nil, decide_true, decide_false, lt_int, decide_eq_false ones]
  unfold f_check_firsts
  rw [fn_nextE h]
  rfl
theorem init_ok {m q : Int} {fs : List Int} {t : Bool} {k : Md} (hk : (D.seq t k (fs.map .int)).look = .seq t k (fs.map .int)) (hp : passX false (.seq t k (fs.map .int)) = some (.seq t k (fs.map .int))) (ht : oTupOf [.seq t k (fs.map .int)] = some (.tup (fs.map .int))) (hs : (D.seq t k (fs.map .int)).stb = true) (hd : DepOk m q fs) :
    f_Depot__init [.obj .own "Depot" [] [], .int m, .int q, .seq t k (fs.map .int)] = .ok (.non, [.obj .own "Depot" ["period", "quota", "firsts"] [.int m, .int q, .tup (fs.map .int)]]) := by
  have q12 : q ≤ 12 := by have := hd.n1; have := hd.n12; omega
  have h : b_Depot__init (frameD N_Depot__init.length [.obj .own "Depot" [] [], .int m, .int q, .seq t k (fs.map .int)]) = .ok (.next, [.obj .own "Depot" ["period", "quota", "firsts"] [.int m, .int q, .tup (fs.map .int)], .int m, .int q, .seq t k (fs.map .int)]) := by
    unfold b_Depot__init N_Depot__init
    have c1 : (eCall f_check_numbers [.ex (eV 1), .ex (eV 2)]).f [.obj .own "Depot" [] [], .int m, .int q, .seq t k (fs.map .int)] = .ok (.non, [.obj .own "Depot" [] [], .int m, .int q, .seq t k (fs.map .int)]) := callV2 (x := eV 1) (y := eV 2) rfl rfl rfl rfl (cn_ok hd.m1 hd.m8 hd.q1 q12) rfl rfl
    have c2 : (eCall f_check_firsts [.ex (eV 1), .ex (eV 2), .ex (eV 3)]).f [.obj .own "Depot" [] [], .int m, .int q, .seq t k (fs.map .int)] = .ok (.non, [.obj .own "Depot" [] [], .int m, .int q, .seq t k (fs.map .int)]) := callV3 (x := eV 1) (y := eV 2) (z := eV 3) rfl rfl (by rw [f_eV]; simp only [getD_S, getD_0, un_seq, Out.bind_ok, hk, Bool.false_eq_true, if_false]) rfl rfl hp (cf_ok hk hd) rfl rfl rfl
    have n1 : ("period" : PySem.Str) ≠ "quota" := by decide
    have n2 : ("period" : PySem.Str) ≠ "firsts" := by decide
    have n3 : ("quota" : PySem.Str) ≠ "firsts" := by decide
    simp only [frameD, pick, Nat.sub_self, List.replicate_zero, sSeq, sNil, sSet, sRet, sRetN, sExpr, sIf, sBrk, sCont, sNever, f_eV, f_eMv, f_eFz, f_eC, f_eOp, f_eAnd, f_eOr, f_eNot, f_eIf, f_tru1, f_eCh, f_eFr, f_eAndV, f_eOrV, f_eK, f_eNx, f_eMut, evs_nil, evs_cons, pu_eC, pu_eV, pu_eOp, pu_eK, pu_eFr, pus_nil, pus_cons, getD_0, getD_S, un_un, un_non, un_bl, un_int, un_str, un_seq, un_obj, un_deep, un_fn, un_ty, give, truth, oNot, cLt_d, cLe_d, cGt_d, cGe_d, oNotV, oNeg, D.isTupK, D.isLst, isObj, sFld, putD, Out.bind_ok, Out.bind_exc, Out.bind_stuck, give_some, give_none, List.replicate, List.length_cons, List.length_nil, List.set_cons_zero, List.set_cons_succ, List.getElem?_cons_zero, List.getElem?_cons_succ, List.getElem?_nil, lk_non, lk_bl, lk_int, lk_str, lk_fz, lk_bor, lk_own, lk_tmp, lk_scr, lk_obj, lk_objo, lk_deep, looks_nil, looks_cons, D.stb, D.canFz, D.frz, D.isFz, D.isNon, stbs, getO, pN, sStore, sAug, sAugS, Option.bind_some, Option.map_some, Option.bind_none, Option.map_none, List.nil_append, List.cons_append, Bool.and_true, Bool.true_and, Bool.or_true, Bool.true_or, Bool.and_false, Bool.false_and, Bool.or_false, Bool.false_or, Bool.not_true, Bool.not_false, if_true, if_false, Bool.false_eq_true, reduceIte, List.all_cons, List.all_nil, decide_true, decide_false, c1, c2, hk, ht, n1, n2, n3, ne_eq, not_true_eq_false, not_false_eq_true, true_and, Nat.reduceLT, Nat.reduceAdd]
  unfold f_Depot__init
  rw [fn_nextE h]
  rfl
theorem passX_dep (m q : Int) (fs : List Int) : passX false (depotD m q fs) = some (depotD m q fs) := rfl
theorem look_dep (m q : Int) (fs : List Int) : (depotD m q fs).look = depotD m q fs := rfl
theorem un_dep (m q : Int) (fs : List Int) : (depotD m q fs).isUn = false := rfl
theorem stb_dep (m q : Int) (fs : List Int) : (depotD m q fs).stb = true := rfl
theorem fld_m (m q : Int) (fs : List Int) : oFld "Depot" "period" [depotD m q fs] = some (.int m) := rfl
theorem fld_q (m q : Int) (fs : List Int) : oFld "Depot" "quota" [depotD m q fs] = some (.int q) := by
  have n1 : ("period" : PySem.Str) ≠ "quota" := by decide
  show (if ("Depot" : PySem.Str) = "Depot" then lookD "quota" ["period", "quota", "firsts"] [.int m, .int q, .tup (fs.map .int)] else none) = _
  rw [if_pos rfl]
  unfold lookD
  rw [if_neg n1]
  unfold lookD
  rw [if_pos rfl]
theorem fld_f (m q : Int) (fs : List Int) : oFld "Depot" "firsts" [depotD m q fs] = some (.tup (fs.map .int)) := by
  have n1 : ("period" : PySem.Str) ≠ "firsts" := by decide
  have n2 : ("quota" : PySem.Str) ≠ "firsts" := by decide
  show (if ("Depot" : PySem.Str) = "Depot" then lookD "firsts" ["period", "quota", "firsts"] [.int m, .int q, .tup (fs.map .int)] else none) = _
  rw [if_pos rfl]
  unfold lookD
  rw [if_neg n1]
  unfold lookD
  rw [if_neg n2]
  unfold lookD
  rw [if_pos rfl]
section
variable {m q : Int} {fs : List Int}
theorem size_ok : f_Depot_size [depotD m q fs] = .ok (.int (fs.length : Nat), []) := by
  have h : b_Depot_size (frameD N_Depot_size.length [depotD m q fs]) = .ok (.ret (.int (fs.length : Nat)), [depotD m q fs]) := by
    unfold b_Depot_size N_Depot_size
    simp only [frameD, pick, Nat.sub_self, List.replicate_zero, sSeq, sNil, sSet, sRet, sRetN, sExpr, sIf, sBrk, sCont, sNever, f_eV, f_eMv, f_eFz, f_eC, f_eOp, f_eAnd, f_eOr, f_eNot, f_eIf, f_tru1, f_eCh, f_eFr, f_eAndV, f_eOrV, f_eK, f_eNx, f_eMut, evs_nil, evs_cons, pu_eC, pu_eV, pu_eOp, pu_eK, pu_eFr, pus_nil, pus_cons, getD_0, getD_S, un_un, un_non, un_bl, un_int, un_str, un_seq, un_obj, un_deep, un_fn, un_ty, give, truth, oNot, cLt_d, cLe_d, cGt_d, cGe_d, oNotV, oNeg, D.isTupK, D.isLst, isObj, sFld, putD, Out.bind_ok, Out.bind_exc, Out.bind_stuck, give_some, give_none, List.replicate, List.length_cons, List.length_nil, List.set_cons_zero, List.set_cons_succ, List.getElem?_cons_zero, List.getElem?_cons_succ, List.getElem?_nil, lk_non, lk_bl, lk_int, lk_str, lk_fz, lk_bor, lk_own, lk_tmp, lk_scr, lk_obj, lk_objo, lk_deep, looks_nil, looks_cons, D.stb, D.canFz, D.frz, D.isFz, D.isNon, stbs, getO, pN, sStore, sAug, sAugS, Option.bind_some, Option.map_some, Option.bind_none, Option.map_none, List.nil_append, List.cons_append, Bool.and_true, Bool.true_and, Bool.or_true, Bool.true_or, Bool.and_false, Bool.false_and, Bool.or_false, Bool.false_or, Bool.not_true, Bool.not_false, if_true, if_false, Bool.false_eq_true, reduceIte, List.all_cons, List.all_nil, decide_true, decide_false, look_dep, un_dep, stb_dep, fld_f, len_seq, List.length_map]
  unfold f_Depot_size
  rw [fn_ret h rfl]
  rfl
theorem weekday_ok {n : Int} (hm : 1 ≤ m) (hn : 1 ≤ n) : f_Depot_weekday [depotD m q fs, .int n] = .ok (.int ((n - 1) % m + 1), []) := by
  have c : ¬ (n < 1) := by omega
  have h : b_Depot_weekday (frameD N_Depot_weekday.length [depotD m q fs, .int n]) = .ok (.ret (.int ((n - 1) % m + 1)), [depotD m q fs, .int n]) := by
    unfold b_Depot_weekday N_Depot_weekday
    simp only [frameD, pick, Nat.sub_self, List.replicate_zero, sSeq, sNil, sSet, sRet, sRetN, sExpr, sIf, sBrk, sCont, sNever, f_eV, f_eMv, f_eFz, f_eC, f_eOp, f_eAnd, f_eOr, f_eNot, f_eIf, f_tru1, f_eCh, f_eFr, f_eAndV, f_eOrV, f_eK, f_eNx, f_eMut, evs_nil, evs_cons, pu_eC, pu_eV, pu_eOp, pu_eK, pu_eFr, pus_nil, pus_cons, getD_0, getD_S, un_un, un_non, un_bl, un_int, un_str, un_seq, un_obj, un_deep, un_fn, un_ty, give, truth, oNot, cLt_d, cLe_d, cGt_d, cGe_d, oNotV, oNeg, D.isTupK, D.isLst, isObj, sFld, putD, Out.bind_ok, Out.bind_exc, Out.bind_stuck, give_some, give_none, List.replicate, List.length_cons, List.length_nil, List.set_cons_zero, List.set_cons_succ, List.getElem?_cons_zero, List.getElem?_cons_succ, List.getElem?_nil, lk_non, lk_bl, lk_int, lk_str, lk_fz, lk_bor, lk_own, lk_tmp, lk_scr, lk_obj, lk_objo, lk_deep, looks_nil, looks_cons, D.stb, D.canFz, D.frz, D.isFz, D.isNon, stbs, getO, pN, sStore, sAug, sAugS, Option.bind_some, Option.map_some, Option.bind_none, Option.map_none, List.nil_append, List.cons_append, Bool.and_true, Bool.true_and, Bool.or_true, Bool.true_or, Bool.and_false, Bool.false_and, Bool.or_false, Bool.false_or, Bool.not_true, Bool.not_false, if_true, if_false, Bool.false_eq_true, reduceIte, List.all_cons, List.all_nil, decide_true, decide_false, look_dep, un_dep, stb_dep, fld_m, lt_int, decide_eq_false c, sub_int, mod_int (j := m) (by omega), add_int]
  unfold f_Depot_weekday
  rw [fn_ret h rfl]
  rfl
theorem cd_ev {ρ : List D} {n : Int} (hn : ρ[1]? = some (.int n)) (h0 : 0 ≤ n) (h1 : n ≤ 10 ^ 30) : (eCall f_check_days [.ex (eV 1)]).f ρ = .ok (.non, ρ) := by
  refine callV1 (a := .int n) ?_ rfl (cd_ok h0 h1) rfl
  rw [f_eV]
  unfold getD
  rw [hn]
  rfl
theorem closings_ok {n : Int} (hm : 1 ≤ m) (hm8 : m ≤ 8) (h0 : 0 ≤ n) (h1 : n ≤ 10 ^ 30) : f_Depot_closings [depotD m q fs, .int n] = .ok (.int (n / m), []) := by
  have h : b_Depot_closings (frameD N_Depot_closings.length [depotD m q fs, .int n]) = .ok (.ret (.int (n / m)), [depotD m q fs, .int n]) := by
    unfold b_Depot_closings N_Depot_closings
    simp only [frameD, pick, Nat.sub_self, List.replicate_zero, sSeq, sNil, sSet, sRet, sRetN, sExpr, sIf, sBrk, sCont, sNever, f_eV, f_eMv, f_eFz, f_eC, f_eOp, f_eAnd, f_eOr, f_eNot, f_eIf, f_tru1, f_eCh, f_eFr, f_eAndV, f_eOrV, f_eK, f_eNx, f_eMut, evs_nil, evs_cons, pu_eC, pu_eV, pu_eOp, pu_eK, pu_eFr, pus_nil, pus_cons, getD_0, getD_S, un_un, un_non, un_bl, un_int, un_str, un_seq, un_obj, un_deep, un_fn, un_ty, give, truth, oNot, cLt_d, cLe_d, cGt_d, cGe_d, oNotV, oNeg, D.isTupK, D.isLst, isObj, sFld, putD, Out.bind_ok, Out.bind_exc, Out.bind_stuck, give_some, give_none, List.replicate, List.length_cons, List.length_nil, List.set_cons_zero, List.set_cons_succ, List.getElem?_cons_zero, List.getElem?_cons_succ, List.getElem?_nil, lk_non, lk_bl, lk_int, lk_str, lk_fz, lk_bor, lk_own, lk_tmp, lk_scr, lk_obj, lk_objo, lk_deep, looks_nil, looks_cons, D.stb, D.canFz, D.frz, D.isFz, D.isNon, stbs, getO, pN, sStore, sAug, sAugS, Option.bind_some, Option.map_some, Option.bind_none, Option.map_none, List.nil_append, List.cons_append, Bool.and_true, Bool.true_and, Bool.or_true, Bool.true_or, Bool.and_false, Bool.false_and, Bool.or_false, Bool.false_or, Bool.not_true, Bool.not_false, if_true, if_false, Bool.false_eq_true, reduceIte, List.all_cons, List.all_nil, decide_true, decide_false, cd_ev (ρ := [depotD m q fs, .int n]) rfl h0 h1, look_dep, un_dep, stb_dep, fld_m, fdiv_int (i := n) (j := m) (by omega) (wide_of (by omega) (by omega))]
  unfold f_Depot_closings
  rw [fn_ret h rfl]
  rfl
theorem lastw_ok {n : Int} (hm : 1 ≤ m) (h0 : 0 ≤ n) (h1 : n ≤ 10 ^ 30) : f_Depot_last_weekday [depotD m q fs, .int n] = .ok (.int (n % m + 1), []) := by
  have h : b_Depot_last_weekday (frameD N_Depot_last_weekday.length [depotD m q fs, .int n]) = .ok (.ret (.int (n % m + 1)), [depotD m q fs, .int n]) := by
    unfold b_Depot_last_weekday N_Depot_last_weekday
    simp only [frameD, pick, Nat.sub_self, List.replicate_zero, sSeq, sNil, sSet, sRet, sRetN, sExpr, sIf, sBrk, sCont, sNever, f_eV, f_eMv, f_eFz, f_eC, f_eOp, f_eAnd, f_eOr, f_eNot, f_eIf, f_tru1, f_eCh, f_eFr, f_eAndV, f_eOrV, f_eK, f_eNx, f_eMut, evs_nil, evs_cons, pu_eC, pu_eV, pu_eOp, pu_eK, pu_eFr, pus_nil, pus_cons, getD_0, getD_S, un_un, un_non, un_bl, un_int, un_str, un_seq, un_obj, un_deep, un_fn, un_ty, give, truth, oNot, cLt_d, cLe_d, cGt_d, cGe_d, oNotV, oNeg, D.isTupK, D.isLst, isObj, sFld, putD, Out.bind_ok, Out.bind_exc, Out.bind_stuck, give_some, give_none, List.replicate, List.length_cons, List.length_nil, List.set_cons_zero, List.set_cons_succ, List.getElem?_cons_zero, List.getElem?_cons_succ, List.getElem?_nil, lk_non, lk_bl, lk_int, lk_str, lk_fz, lk_bor, lk_own, lk_tmp, lk_scr, lk_obj, lk_objo, lk_deep, looks_nil, looks_cons, D.stb, D.canFz, D.frz, D.isFz, D.isNon, stbs, getO, pN, sStore, sAug, sAugS, Option.bind_some, Option.map_some, Option.bind_none, Option.map_none, List.nil_append, List.cons_append, Bool.and_true, Bool.true_and, Bool.or_true, Bool.true_or, Bool.and_false, Bool.false_and, Bool.or_false, Bool.false_or, Bool.not_true, Bool.not_false, if_true, if_false, Bool.false_eq_true, reduceIte, List.all_cons, List.all_nil, decide_true, decide_false, cd_ev (ρ := [depotD m q fs, .int n]) rfl h0 h1, look_dep, un_dep, stb_dep, fld_m, mod_int (i := n) (j := m) (by omega), add_int]
  unfold f_Depot_last_weekday
  rw [fn_ret h rfl]
  rfl
theorem cnts_ne (hm : 1 ≤ m) : ∃ r, cnts m fs = ((fs.count 1 : Nat) : Int) :: r := by
  unfold cnts rgI
  obtain ⟨n, hn⟩ : ∃ n, m.toNat = n + 1 := ⟨m.toNat - 1, by omega⟩
  rw [hn, List.range_succ_eq_map]
  exact ⟨_, rfl⟩
theorem set0 {q : Int} {xs : List Int} : (xs.map D.int).set 0 (.int q) = (xs.set 0 q).map .int := by rw [List.map_set]
theorem places_ok (hm : 1 ≤ m) (hm8 : m ≤ 8) : f_Depot_places [depotD m q fs] = .ok (.tup ((spots m q fs).map .int), []) := by
  have e1 : (eLc true [2] (itOp false kR2 [eC (.int 1), eOp oAdd [eOp (oFld "Depot" "period") [eV 0], eC (.int 1)]]) (gN 2) (eC (.bl true)) (eOp oCountT (eK D.isTupK (eOp (oFld "Depot" "firsts") [eV 0]) :: [eV 2]))).f [depotD m q fs, .unset, .unset] = .ok (D.own ((cnts m fs).map .int), [depotD m q fs, .unset, .unset]) := by
    have := lc_r2 (p := true) (vs := [2]) (a := eC (.int 1)) (b := eOp oAdd [eOp (oFld "Depot" "period") [eV 0], eC (.int 1)]) (t := eC (.bl true)) (x := eOp oCountT (eK D.isTupK (eOp (oFld "Depot" "firsts") [eV 0]) :: [eV 2])) (g := gN 2) (ρ := [depotD m q fs, .unset, .unset]) (lo := 1) (hi := m + 1) (F := fun c => ((fs.count c : Nat) : Int)) rfl
      (by simp only [frameD, pick, Nat.sub_self, List.replicate_zero, sSeq, sNil, sSet, sRet, sRetN, sExpr, sIf, sBrk, sCont, sNever, f_eV, f_eMv, f_eFz, f_eC, f_eOp, f_eAnd, f_eOr, f_eNot, f_eIf, f_tru1, f_eCh, f_eFr, f_eAndV, f_eOrV, f_eK, f_eNx, f_eMut, evs_nil, evs_cons, pu_eC, pu_eV, pu_eOp, pu_eK, pu_eFr, pus_nil, pus_cons, getD_0, getD_S, un_un, un_non, un_bl, un_int, un_str, un_seq, un_obj, un_deep, un_fn, un_ty, give, truth, oNot, cLt_d, cLe_d, cGt_d, cGe_d, oNotV, oNeg, D.isTupK, D.isLst, isObj, sFld, putD, Out.bind_ok, Out.bind_exc, Out.bind_stuck, give_some, give_none, List.replicate, List.length_cons, List.length_nil, List.set_cons_zero, List.set_cons_succ, List.getElem?_cons_zero, List.getElem?_cons_succ, List.getElem?_nil, lk_non, lk_bl, lk_int, lk_str, lk_fz, lk_bor, lk_own, lk_tmp, lk_scr, lk_obj, lk_objo, lk_deep, looks_nil, looks_cons, D.stb, D.canFz, D.frz, D.isFz, D.isNon, stbs, getO, pN, sStore, sAug, sAugS, Option.bind_some, Option.map_some, Option.bind_none, Option.map_none, List.nil_append, List.cons_append, Bool.and_true, Bool.true_and, Bool.or_true, Bool.true_or, Bool.and_false, Bool.false_and, Bool.or_false, Bool.false_or, Bool.not_true, Bool.not_false, if_true, if_false, Bool.false_eq_true, reduceIte, List.all_cons, List.all_nil, decide_true, decide_false, look_dep, un_dep, stb_dep, fld_m, add_int]) (by decide) (by decide) (by omega) (by omega) (by omega) rfl (fun i h0 h1 => ⟨[depotD m q fs, .unset, .int i], rfl, rfl, by
        simp only [frameD, pick, Nat.sub_self, List.replicate_zero, sSeq, sNil, sSet, sRet, sRetN, sExpr, sIf, sBrk, sCont, sNever, f_eV, f_eMv, f_eFz, f_eC, f_eOp, f_eAnd, f_eOr, f_eNot, f_eIf, f_tru1, f_eCh, f_eFr, f_eAndV, f_eOrV, f_eK, f_eNx, f_eMut, evs_nil, evs_cons, pu_eC, pu_eV, pu_eOp, pu_eK, pu_eFr, pus_nil, pus_cons, getD_0, getD_S, un_un, un_non, un_bl, un_int, un_str, un_seq, un_obj, un_deep, un_fn, un_ty, give, truth, oNot, cLt_d, cLe_d, cGt_d, cGe_d, oNotV, oNeg, D.isTupK, D.isLst, isObj, sFld, putD, Out.bind_ok, Out.bind_exc, Out.bind_stuck, give_some, give_none, List.replicate, List.length_cons, List.length_nil, List.set_cons_zero, List.set_cons_succ, List.getElem?_cons_zero, List.getElem?_cons_succ, List.getElem?_nil, lk_non, lk_bl, lk_int, lk_str, lk_fz, lk_bor, lk_own, lk_tmp, lk_scr, lk_obj, lk_objo, lk_deep, looks_nil, looks_cons, D.stb, D.canFz, D.frz, D.isFz, D.isNon, stbs, getO, pN, sStore, sAug, sAugS, Option.bind_some, Option.map_some, Option.bind_none, Option.map_none, List.nil_append, List.cons_append, Bool.and_true, Bool.true_and, Bool.or_true, Bool.true_or, Bool.and_false, Bool.false_and, Bool.or_false, Bool.false_or, Bool.not_true, Bool.not_false, if_true, if_false, Bool.false_eq_true, reduceIte, List.all_cons, List.all_nil, decide_true, decide_false, look_dep, un_dep, stb_dep, fld_f, oCountT, oCount, ints_map], rfl⟩)
    rw [this]
    unfold cnts
    rw [show (m + 1 - 1).toNat = m.toNat by omega]
  obtain ⟨r, hr⟩ := cnts_ne (m := m) (fs := fs) hm
  have h : b_Depot_places (frameD N_Depot_places.length [depotD m q fs]) = .ok (.ret (.tup ((spots m q fs).map .int)), [depotD m q fs, .own ((spots m q fs).map .int), .unset]) := by
    unfold b_Depot_places N_Depot_places
    unfold spots
    rw [seq_next (ρ' := [depotD m q fs, .own ((cnts m fs).map .int), .unset]) (by simp only [frameD, pick, Nat.sub_self, List.replicate_zero, sSeq, sNil, sSet, sRet, sRetN, sExpr, sIf, sBrk, sCont, sNever, f_eV, f_eMv, f_eFz, f_eC, f_eOp, f_eAnd, f_eOr, f_eNot, f_eIf, f_tru1, f_eCh, f_eFr, f_eAndV, f_eOrV, f_eK, f_eNx, f_eMut, evs_nil, evs_cons, pu_eC, pu_eV, pu_eOp, pu_eK, pu_eFr, pus_nil, pus_cons, getD_0, getD_S, un_un, un_non, un_bl, un_int, un_str, un_seq, un_obj, un_deep, un_fn, un_ty, give, truth, oNot, cLt_d, cLe_d, cGt_d, cGe_d, oNotV, oNeg, D.isTupK, D.isLst, isObj, sFld, putD, Out.bind_ok, Out.bind_exc, Out.bind_stuck, give_some, give_none, List.replicate, List.length_cons, List.length_nil, List.set_cons_zero, List.set_cons_succ, List.getElem?_cons_zero, List.getElem?_cons_succ, List.getElem?_nil, lk_non, lk_bl, lk_int, lk_str, lk_fz, lk_bor, lk_own, lk_tmp, lk_scr, lk_obj, lk_objo, lk_deep, looks_nil, looks_cons, D.stb, D.canFz, D.frz, D.isFz, D.isNon, stbs, getO, pN, sStore, sAug, sAugS, Option.bind_some, Option.map_some, Option.bind_none, Option.map_none, List.nil_append, List.cons_append, Bool.and_true, Bool.true_and, Bool.or_true, Bool.true_or, Bool.and_false, Bool.false_and, Bool.or_false, Bool.false_or, Bool.not_true, Bool.not_false, if_true, if_false, Bool.false_eq_true, reduceIte, List.all_cons, List.all_nil, decide_true, decide_false, e1])]
    rw [seq_next (ρ' := [depotD m q fs, .own (((cnts m fs).set 0 ((fs.count 1 : Nat) - q)).map .int), .unset]) (by
      rw [hr]
      simp only [frameD, pick, Nat.sub_self, List.replicate_zero, sSeq, sNil, sSet, sRet, sRetN, sExpr, sIf, sBrk, sCont, sNever, f_eV, f_eMv, f_eFz, f_eC, f_eOp, f_eAnd, f_eOr, f_eNot, f_eIf, f_tru1, f_eCh, f_eFr, f_eAndV, f_eOrV, f_eK, f_eNx, f_eMut, evs_nil, evs_cons, pu_eC, pu_eV, pu_eOp, pu_eK, pu_eFr, pus_nil, pus_cons, getD_0, getD_S, un_un, un_non, un_bl, un_int, un_str, un_seq, un_obj, un_deep, un_fn, un_ty, give, truth, oNot, cLt_d, cLe_d, cGt_d, cGe_d, oNotV, oNeg, D.isTupK, D.isLst, isObj, sFld, putD, Out.bind_ok, Out.bind_exc, Out.bind_stuck, give_some, give_none, List.replicate, List.length_cons, List.length_nil, List.set_cons_zero, List.set_cons_succ, List.getElem?_cons_zero, List.getElem?_cons_succ, List.getElem?_nil, lk_non, lk_bl, lk_int, lk_str, lk_fz, lk_bor, lk_own, lk_tmp, lk_scr, lk_obj, lk_objo, lk_deep, looks_nil, looks_cons, D.stb, D.canFz, D.frz, D.isFz, D.isNon, stbs, getO, pN, sStore, sAug, sAugS, Option.bind_some, Option.map_some, Option.bind_none, Option.map_none, List.nil_append, List.cons_append, Bool.and_true, Bool.true_and, Bool.or_true, Bool.true_or, Bool.and_false, Bool.false_and, Bool.or_false, Bool.false_or, Bool.not_true, Bool.not_false, if_true, if_false, Bool.false_eq_true, reduceIte, List.all_cons, List.all_nil, decide_true, decide_false, look_dep, un_dep, stb_dep, fld_q, List.map_cons, ix_seq', at0, sub_int, ix0])]
    simp only [frameD, pick, Nat.sub_self, List.replicate_zero, sSeq, sNil, sSet, sRet, sRetN, sExpr, sIf, sBrk, sCont, sNever, f_eV, f_eMv, f_eFz, f_eC, f_eOp, f_eAnd, f_eOr, f_eNot, f_eIf, f_tru1, f_eCh, f_eFr, f_eAndV, f_eOrV, f_eK, f_eNx, f_eMut, evs_nil, evs_cons, pu_eC, pu_eV, pu_eOp, pu_eK, pu_eFr, pus_nil, pus_cons, getD_0, getD_S, un_un, un_non, un_bl, un_int, un_str, un_seq, un_obj, un_deep, un_fn, un_ty, give, truth, oNot, cLt_d, cLe_d, cGt_d, cGe_d, oNotV, oNeg, D.isTupK, D.isLst, isObj, sFld, putD, Out.bind_ok, Out.bind_exc, Out.bind_stuck, give_some, give_none, List.replicate, List.length_cons, List.length_nil, List.set_cons_zero, List.set_cons_succ, List.getElem?_cons_zero, List.getElem?_cons_succ, List.getElem?_nil, lk_non, lk_bl, lk_int, lk_str, lk_fz, lk_bor, lk_own, lk_tmp, lk_scr, lk_obj, lk_objo, lk_deep, looks_nil, looks_cons, D.stb, D.canFz, D.frz, D.isFz, D.isNon, stbs, getO, pN, sStore, sAug, sAugS, Option.bind_some, Option.map_some, Option.bind_none, Option.map_none, List.nil_append, List.cons_append, Bool.and_true, Bool.true_and, Bool.or_true, Bool.true_or, Bool.and_false, Bool.false_and, Bool.or_false, Bool.false_or, Bool.not_true, Bool.not_false, if_true, if_false, Bool.false_eq_true, reduceIte, List.all_cons, List.all_nil, decide_true, decide_false, oTupOf]
  unfold f_Depot_places
  rw [fn_ret h rfl]
  rfl
end
end Law

/-! k00: the two tellings -/
namespace Law
open Ev
theorem day_ok {s m : Int} (hm : 1 ≤ m) (hm2 : m ≤ 1000000) : f_law_day [.int s, .int m] = .ok (.int ((s - 1) % m + 1), []) := by
  have t0 := Int.emod_nonneg (s - 1) (show m ≠ 0 by omega)
  have t1 := Int.emod_lt_of_pos (s - 1) (show 0 < m by omega)
  have key : ∀ i : Nat, (i : Int) < m → ((s - (1 + (i : Int))) % m == 0) = decide ((i : Int) = (s - 1) % m) := fun i hi => by
    have e1 : s - (1 + (i : Int)) = (s - 1) - i := by omega
    rw [e1, Bool.eq_iff_iff, beq_iff_eq, decide_eq_true_eq]
    constructor
    · intro h
      have := (Int.emod_emod_of_dvd (s - 1) (Int.dvd_refl m)).symm
      have h2 : (s - 1) % m = (i : Int) % m := Int.emod_eq_emod_iff_emod_sub_eq_zero.mpr h
      rw [h2, Int.emod_eq_of_lt (by omega) hi]
    · intro h
      rw [h]
      exact Int.emod_eq_emod_iff_emod_sub_eq_zero.mp (by rw [Int.emod_emod])
  have lp : ∃ ρ, sFor (itOp false kR2 [eC (.int 1), eOp oAdd [eV 1, eC (.int 1)]]) (gN 2) (sIf (eOp oEq [eOp oMod [eOp oInt [eOp oSub [eV 0, eV 2]], eV 1], eC (.int 0)]) (sRet (eV 2)) (sNil)) [.int s, .int m, .unset] = .ok (.ret (.int ((s - 1) % m + 1)), ρ) := by
    rw [for_r2 (i := 1) (j := m + 1) (ρ1 := [.int s, .int m, .unset]) (ρ2 := [.int s, .int m, .unset]) rfl (by simp only [frameD, pick, Nat.sub_self, List.replicate_zero, sSeq, sNil, sSet, sRet, sRetN, sExpr, sIf, sBrk, sCont, sNever, f_eV, f_eMv, f_eFz, f_eC, f_eOp, f_eAnd, f_eOr, f_eNot, f_eIf, f_tru1, f_eCh, f_eFr, f_eAndV, f_eOrV, f_eK, f_eNx, f_eMut, evs_nil, evs_cons, pu_eC, pu_eV, pu_eOp, pu_eK, pu_eFr, pus_nil, pus_cons, getD_0, getD_S, un_un, un_non, un_bl, un_int, un_str, un_seq, un_obj, un_deep, un_fn, un_ty, give, truth, oNot, cLt_d, cLe_d, cGt_d, cGe_d, oNotV, oNeg, D.isTupK, D.isLst, isObj, sFld, putD, Out.bind_ok, Out.bind_exc, Out.bind_stuck, give_some, give_none, List.replicate, List.length_cons, List.length_nil, List.set_cons_zero, List.set_cons_succ, List.getElem?_cons_zero, List.getElem?_cons_succ, List.getElem?_nil, lk_non, lk_bl, lk_int, lk_str, lk_fz, lk_bor, lk_own, lk_tmp, lk_scr, lk_obj, lk_objo, lk_deep, looks_nil, looks_cons, D.stb, D.canFz, D.frz, D.isFz, D.isNon, stbs, getO, pN, sStore, sAug, sAugS, Option.bind_some, Option.map_some, Option.bind_none, Option.map_none, List.nil_append, List.cons_append, Bool.and_true, Bool.true_and, Bool.or_true, Bool.true_or, Bool.and_false, Bool.false_and, Bool.or_false, Bool.false_or, Bool.not_true, Bool.not_false, if_true, if_false, Bool.false_eq_true, reduceIte, List.all_cons, List.all_nil, decide_true, decide_false, add_int]) (by decide) (rgOk_of (by omega) (by omega))]
    refine forL_until (fun ρ => ∃ u, ρ = [.int s, .int m, u]) _ ((s - 1) % m).toNat _ ⟨.unset, rfl⟩ (by rw [rgL_len]; omega) ?_ ?_
    · rintro i d ρ hi e ⟨u, rfl⟩
      obtain ⟨hn, rfl⟩ := rgL_get e
      refine ⟨_, _, gN_ok rfl, ?_, .int (1 + (i : Int)), rfl⟩
      have k := key i (by omega)
      rw [decide_eq_false (by omega)] at k
      simp only [frameD, pick, Nat.sub_self, List.replicate_zero, sSeq, sNil, sSet, sRet, sRetN, sExpr, sIf, sBrk, sCont, sNever, f_eV, f_eMv, f_eFz, f_eC, f_eOp, f_eAnd, f_eOr, f_eNot, f_eIf, f_tru1, f_eCh, f_eFr, f_eAndV, f_eOrV, f_eK, f_eNx, f_eMut, evs_nil, evs_cons, pu_eC, pu_eV, pu_eOp, pu_eK, pu_eFr, pus_nil, pus_cons, getD_0, getD_S, un_un, un_non, un_bl, un_int, un_str, un_seq, un_obj, un_deep, un_fn, un_ty, give, truth, oNot, cLt_d, cLe_d, cGt_d, cGe_d, oNotV, oNeg, D.isTupK, D.isLst, isObj, sFld, putD, Out.bind_ok, Out.bind_exc, Out.bind_stuck, give_some, give_none, List.replicate, List.length_cons, List.length_nil, List.set_cons_zero, List.set_cons_succ, List.getElem?_cons_zero, List.getElem?_cons_succ, List.getElem?_nil, lk_non, lk_bl, lk_int, lk_str, lk_fz, lk_bor, lk_own, lk_tmp, lk_scr, lk_obj, lk_objo, lk_deep, looks_nil, looks_cons, D.stb, D.canFz, D.frz, D.isFz, D.isNon, stbs, getO, pN, sStore, sAug, sAugS, Option.bind_some, Option.map_some, Option.bind_none, Option.map_none, List.nil_append, List.cons_append, Bool.and_true, Bool.true_and, Bool.or_true, Bool.true_or, Bool.and_false, Bool.false_and, Bool.or_false, Bool.false_or, Bool.not_true, Bool.not_false, if_true, if_false, Bool.false_eq_true, reduceIte, List.all_cons, List.all_nil, decide_true, decide_false, sub_int, int_int, mod_int (j := m) (by omega), eq_int, k]
    · rintro d ρ e ⟨u, rfl⟩
      obtain ⟨hn, rfl⟩ := rgL_get e
      have e2 : (((s - 1) % m).toNat : Int) = (s - 1) % m := Int.toNat_of_nonneg t0
      have k := key ((s - 1) % m).toNat (by omega)
      rw [decide_eq_true e2] at k
      refine ⟨_, [.int s, .int m, .int (1 + (((s - 1) % m).toNat : Int))], gN_ok rfl, ?_⟩
      simp only [frameD, pick, Nat.sub_self, List.replicate_zero, sSeq, sNil, sSet, sRet, sRetN, sExpr, sIf, sBrk, sCont, sNever, f_eV, f_eMv, f_eFz, f_eC, f_eOp, f_eAnd, f_eOr, f_eNot, f_eIf, f_tru1, f_eCh, f_eFr, f_eAndV, f_eOrV, f_eK, f_eNx, f_eMut, evs_nil, evs_cons, pu_eC, pu_eV, pu_eOp, pu_eK, pu_eFr, pus_nil, pus_cons, getD_0, getD_S, un_un, un_non, un_bl, un_int, un_str, un_seq, un_obj, un_deep, un_fn, un_ty, give, truth, oNot, cLt_d, cLe_d, cGt_d, cGe_d, oNotV, oNeg, D.isTupK, D.isLst, isObj, sFld, putD, Out.bind_ok, Out.bind_exc, Out.bind_stuck, give_some, give_none, List.replicate, List.length_cons, List.length_nil, List.set_cons_zero, List.set_cons_succ, List.getElem?_cons_zero, List.getElem?_cons_succ, List.getElem?_nil, lk_non, lk_bl, lk_int, lk_str, lk_fz, lk_bor, lk_own, lk_tmp, lk_scr, lk_obj, lk_objo, lk_deep, looks_nil, looks_cons, D.stb, D.canFz, D.frz, D.isFz, D.isNon, stbs, getO, pN, sStore, sAug, sAugS, Option.bind_some, Option.map_some, Option.bind_none, Option.map_none, List.nil_append, List.cons_append, Bool.and_true, Bool.true_and, Bool.or_true, Bool.true_or, Bool.and_false, Bool.false_and, Bool.or_false, Bool.false_or, Bool.not_true, Bool.not_false, if_true, if_false, Bool.false_eq_true, reduceIte, List.all_cons, List.all_nil, decide_true, decide_false, sub_int, int_int, mod_int (j := m) (by omega), eq_int, k]
      rw [e2, Int.add_comm]
  obtain ⟨ρ, e⟩ := lp
  have h : b_law_day (frameD N_law_day.length [.int s, .int m]) = .ok (.ret (.int ((s - 1) % m + 1)), ρ) := by
    unfold b_law_day N_law_day
    exact seq_ret e
  unfold f_law_day
  rw [fn_ret h rfl]
  show Out.ok (_, pick [false, false] ρ) = _
  cases ρ with
  | nil => rfl
  | cons a r => cases r <;> rfl
section
variable {m q n : Int} {fs : List Int}
theorem spots_len (hm : 1 ≤ m) : (spots m q fs).length = m.toNat := by
  unfold spots cnts
  rw [List.length_set, List.length_map, rgI_len]
theorem prop_places {x : Ex} {ρ : List D} (hx : x.f ρ = .ok (depotD m q fs, ρ)) (hm : 1 ≤ m) (hm8 : m ≤ 8) : (eProp "Depot" "places" f_Depot_places x).f ρ = .ok (.tup ((spots m q fs).map .int), ρ) :=
  prop_ev hx (by show (decide (("Depot" : PySem.Str) = "Depot") && !(["period", "quota", "firsts"] : List PySem.Str).contains "places") = true; decide) (passX_dep m q fs) (places_ok hm hm8) rfl
/-- the day's places: the quota goes back to the last weekday -/
def dueL (m q n : Int) (fs : List Int) : List Int := (spots m q fs).set (n % m).toNat ((spots m q fs).getD (n % m).toNat 0 + q)
theorem rem_get (hm : 1 ≤ m) : ∃ k : Nat, n % m = (k : Int) ∧ k < (spots m q fs).length := by
  have t0 := Int.emod_nonneg n (show m ≠ 0 by omega)
  have t1 := Int.emod_lt_of_pos n (show 0 < m by omega)
  exact ⟨(n % m).toNat, (Int.toNat_of_nonneg t0).symm, by rw [spots_len hm]; omega⟩
theorem due_ok (hm : 1 ≤ m) (hm8 : m ≤ 8) (h0 : 0 ≤ n) (h1 : n ≤ 10 ^ 30) : f_Depot_due_places [depotD m q fs, .int n] = .ok (.tup ((dueL m q n fs).map .int), []) := by
  obtain ⟨k, hk, hl⟩ := rem_get (q := q) (n := n) (fs := fs) hm
  have e1 : L2.atI ((spots m q fs).map D.int) (n % m) = some (.int ((spots m q fs).getD (n % m).toNat 0)) := by
    rw [hk, at_nat, List.getElem?_map, List.getElem?_eq_getElem hl, Int.toNat_natCast, List.getD_eq_getElem?_getD, List.getElem?_eq_getElem hl]
    rfl
  have e2 : L2.ixN ((spots m q fs).map D.int).length (n % m) = some (n % m).toNat := by
    rw [hk, Int.toNat_natCast]
    exact ix_of (by rw [List.length_map]; exact hl)
  have e3 := prop_places (x := eV 0) (ρ := [depotD m q fs, .int n, .unset]) (q := q) (fs := fs) rfl hm hm8
  have h : b_Depot_due_places (frameD N_Depot_due_places.length [depotD m q fs, .int n]) = .ok (.ret (.tup ((dueL m q n fs).map .int)), [depotD m q fs, .int n, .own ((dueL m q n fs).map .int)]) := by
    unfold b_Depot_due_places N_Depot_due_places
    rw [seq_next (ρ' := [depotD m q fs, .int n, .unset]) (by simp only [frameD, pick, Nat.sub_self, List.replicate_zero, sSeq, sNil, sSet, sRet, sRetN, sExpr, sIf, sBrk, sCont, sNever, f_eV, f_eMv, f_eFz, f_eC, f_eOp, f_eAnd, f_eOr, f_eNot, f_eIf, f_tru1, f_eCh, f_eFr, f_eAndV, f_eOrV, f_eK, f_eNx, f_eMut, evs_nil, evs_cons, pu_eC, pu_eV, pu_eOp, pu_eK, pu_eFr, pus_nil, pus_cons, getD_0, getD_S, un_un, un_non, un_bl, un_int, un_str, un_seq, un_obj, un_deep, un_fn, un_ty, give, truth, oNot, cLt_d, cLe_d, cGt_d, cGe_d, oNotV, oNeg, D.isTupK, D.isLst, isObj, sFld, putD, Out.bind_ok, Out.bind_exc, Out.bind_stuck, give_some, give_none, List.replicate, List.length_cons, List.length_nil, List.set_cons_zero, List.set_cons_succ, List.getElem?_cons_zero, List.getElem?_cons_succ, List.getElem?_nil, lk_non, lk_bl, lk_int, lk_str, lk_fz, lk_bor, lk_own, lk_tmp, lk_scr, lk_obj, lk_objo, lk_deep, looks_nil, looks_cons, D.stb, D.canFz, D.frz, D.isFz, D.isNon, stbs, getO, pN, sStore, sAug, sAugS, Option.bind_some, Option.map_some, Option.bind_none, Option.map_none, List.nil_append, List.cons_append, Bool.and_true, Bool.true_and, Bool.or_true, Bool.true_or, Bool.and_false, Bool.false_and, Bool.or_false, Bool.false_or, Bool.not_true, Bool.not_false, if_true, if_false, Bool.false_eq_true, reduceIte, List.all_cons, List.all_nil, decide_true, decide_false, cd_ev (ρ := [depotD m q fs, .int n, .unset]) rfl h0 h1])]
    rw [seq_next (ρ' := [depotD m q fs, .int n, .own ((spots m q fs).map .int)]) (by simp only [frameD, pick, Nat.sub_self, List.replicate_zero, sSeq, sNil, sSet, sRet, sRetN, sExpr, sIf, sBrk, sCont, sNever, f_eV, f_eMv, f_eFz, f_eC, f_eOp, f_eAnd, f_eOr, f_eNot, f_eIf, f_tru1, f_eCh, f_eFr, f_eAndV, f_eOrV, f_eK, f_eNx, f_eMut, evs_nil, evs_cons, pu_eC, pu_eV, pu_eOp, pu_eK, pu_eFr, pus_nil, pus_cons, getD_0, getD_S, un_un, un_non, un_bl, un_int, un_str, un_seq, un_obj, un_deep, un_fn, un_ty, give, truth, oNot, cLt_d, cLe_d, cGt_d, cGe_d, oNotV, oNeg, D.isTupK, D.isLst, isObj, sFld, putD, Out.bind_ok, Out.bind_exc, Out.bind_stuck, give_some, give_none, List.replicate, List.length_cons, List.length_nil, List.set_cons_zero, List.set_cons_succ, List.getElem?_cons_zero, List.getElem?_cons_succ, List.getElem?_nil, lk_non, lk_bl, lk_int, lk_str, lk_fz, lk_bor, lk_own, lk_tmp, lk_scr, lk_obj, lk_objo, lk_deep, looks_nil, looks_cons, D.stb, D.canFz, D.frz, D.isFz, D.isNon, stbs, getO, pN, sStore, sAug, sAugS, Option.bind_some, Option.map_some, Option.bind_none, Option.map_none, List.nil_append, List.cons_append, Bool.and_true, Bool.true_and, Bool.or_true, Bool.true_or, Bool.and_false, Bool.false_and, Bool.or_false, Bool.false_or, Bool.not_true, Bool.not_false, if_true, if_false, Bool.false_eq_true, reduceIte, List.all_cons, List.all_nil, decide_true, decide_false, e3, oListOf])]
    rw [seq_next (ρ' := [depotD m q fs, .int n, .own ((dueL m q n fs).map .int)]) (by
      unfold dueL
      rw [List.map_set]
      simp only [frameD, pick, Nat.sub_self, List.replicate_zero, sSeq, sNil, sSet, sRet, sRetN, sExpr, sIf, sBrk, sCont, sNever, f_eV, f_eMv, f_eFz, f_eC, f_eOp, f_eAnd, f_eOr, f_eNot, f_eIf, f_tru1, f_eCh, f_eFr, f_eAndV, f_eOrV, f_eK, f_eNx, f_eMut, evs_nil, evs_cons, pu_eC, pu_eV, pu_eOp, pu_eK, pu_eFr, pus_nil, pus_cons, getD_0, getD_S, un_un, un_non, un_bl, un_int, un_str, un_seq, un_obj, un_deep, un_fn, un_ty, give, truth, oNot, cLt_d, cLe_d, cGt_d, cGe_d, oNotV, oNeg, D.isTupK, D.isLst, isObj, sFld, putD, Out.bind_ok, Out.bind_exc, Out.bind_stuck, give_some, give_none, List.replicate, List.length_cons, List.length_nil, List.set_cons_zero, List.set_cons_succ, List.getElem?_cons_zero, List.getElem?_cons_succ, List.getElem?_nil, lk_non, lk_bl, lk_int, lk_str, lk_fz, lk_bor, lk_own, lk_tmp, lk_scr, lk_obj, lk_objo, lk_deep, looks_nil, looks_cons, D.stb, D.canFz, D.frz, D.isFz, D.isNon, stbs, getO, pN, sStore, sAug, sAugS, Option.bind_some, Option.map_some, Option.bind_none, Option.map_none, List.nil_append, List.cons_append, Bool.and_true, Bool.true_and, Bool.or_true, Bool.true_or, Bool.and_false, Bool.false_and, Bool.or_false, Bool.false_or, Bool.not_true, Bool.not_false, if_true, if_false, Bool.false_eq_true, reduceIte, List.all_cons, List.all_nil, decide_true, decide_false, look_dep, un_dep, stb_dep, fld_m, fld_q, mod_int (i := n) (j := m) (by omega), e1, e2, o2])]
    simp only [frameD, pick, Nat.sub_self, List.replicate_zero, sSeq, sNil, sSet, sRet, sRetN, sExpr, sIf, sBrk, sCont, sNever, f_eV, f_eMv, f_eFz, f_eC, f_eOp, f_eAnd, f_eOr, f_eNot, f_eIf, f_tru1, f_eCh, f_eFr, f_eAndV, f_eOrV, f_eK, f_eNx, f_eMut, evs_nil, evs_cons, pu_eC, pu_eV, pu_eOp, pu_eK, pu_eFr, pus_nil, pus_cons, getD_0, getD_S, un_un, un_non, un_bl, un_int, un_str, un_seq, un_obj, un_deep, un_fn, un_ty, give, truth, oNot, cLt_d, cLe_d, cGt_d, cGe_d, oNotV, oNeg, D.isTupK, D.isLst, isObj, sFld, putD, Out.bind_ok, Out.bind_exc, Out.bind_stuck, give_some, give_none, List.replicate, List.length_cons, List.length_nil, List.set_cons_zero, List.set_cons_succ, List.getElem?_cons_zero, List.getElem?_cons_succ, List.getElem?_nil, lk_non, lk_bl, lk_int, lk_str, lk_fz, lk_bor, lk_own, lk_tmp, lk_scr, lk_obj, lk_objo, lk_deep, looks_nil, looks_cons, D.stb, D.canFz, D.frz, D.isFz, D.isNon, stbs, getO, pN, sStore, sAug, sAugS, Option.bind_some, Option.map_some, Option.bind_none, Option.map_none, List.nil_append, List.cons_append, Bool.and_true, Bool.true_and, Bool.or_true, Bool.true_or, Bool.and_false, Bool.false_and, Bool.or_false, Bool.false_or, Bool.not_true, Bool.not_false, if_true, if_false, Bool.false_eq_true, reduceIte, List.all_cons, List.all_nil, decide_true, decide_false, oTupOf]
  unfold f_Depot_due_places
  rw [fn_ret h rfl]
  rfl
theorem oSl_to (xs : List D) (k : Nat) : oSl (.tup xs) none (some (k : Int)) = some (.tup (xs.take k)) := by
  show some (D.tup (cutD xs none (some (k : Int)))) = _
  unfold cutD
  rw [HT.sIx_none, HT.sIx_nat, List.drop_zero, Nat.sub_zero]
  congr 2
  rw [Nat.min_def]
  split
  · rfl
  · rw [List.take_length, List.take_of_length_le (by omega)]
/-- begun mornings -/
def begunI (m q n : Int) (fs : List Int) : Int := n / m * (spots m q fs).sum + ((spots m q fs).take (n % m).toNat).sum
theorem mulS {i j : Int} (h0 : -(2 ^ 60) < j) (h1 : j < 2 ^ 60) : oMul [.int i, .int j] = some (.int (i * j)) := mulR (by omega) (by omega)
theorem count_le12 (h : fs.length ≤ 12) (c : Int) : ((fs.count c : Nat) : Int) ≤ 12 := by have := List.count_le_length (a := c) (l := fs); omega
theorem sum_bound : ∀ {xs : List Int} {b : Int}, 0 ≤ b → (∀ x ∈ xs, -b ≤ x ∧ x ≤ b) → -(b * xs.length) ≤ xs.sum ∧ xs.sum ≤ b * xs.length
  | [], b, _, _ => by simp
  | x :: xs, b, h0, h => by
    obtain ⟨h1, h2⟩ := sum_bound (xs := xs) h0 fun y hy => h y (List.mem_cons_of_mem _ hy)
    obtain ⟨h3, h4⟩ := h x List.mem_cons_self
    rw [List.sum_cons, List.length_cons]
    have : b * ((xs.length + 1 : Nat) : Int) = b * (xs.length : Int) + b := by rw [Int.natCast_add, Int.mul_add]; simp
    omega
theorem spots_b (hd : DepOk m q fs) : ∀ x ∈ spots m q fs, -12 ≤ x ∧ x ≤ 12 := by
  intro x hx
  have q12 : q ≤ 12 := by have := hd.n1; have := hd.n12; omega
  have h1 := hd.ones
  have h2 := hd.q1
  have h3 := count_le12 hd.n12 1
  unfold spots at hx
  rcases List.mem_or_eq_of_mem_set hx with h | h
  · obtain ⟨c, _, rfl⟩ := List.mem_map.mp h
    have := count_le12 hd.n12 c
    omega
  · omega
theorem begun_ok (hd : DepOk m q fs) (h0 : 0 ≤ n) (h1 : n ≤ 10 ^ 30) : f_Depot_begun [depotD m q fs, .int n] = .ok (.int (begunI m q n fs), []) := by
  have hm := hd.m1
  have hm8 := hd.m8
  have t0 := Int.emod_nonneg n (show m ≠ 0 by omega)
  have sb := sum_bound (b := 12) (by decide) (spots_b hd)
  have sl := spots_len (q := q) (fs := fs) hm
  rw [sl] at sb
  have e3 := prop_places (x := eV 0) (ρ := [depotD m q fs, .int n, .int (n / m), .int (n % m)]) (q := q) (fs := fs) rfl hm hm8
  have e4 : oSum [D.tup ((spots m q fs).map .int)] = some (.int (spots m q fs).sum) := sum_ints _ _ _ rfl
  have e5 : (eSl false true (eProp "Depot" "places" f_Depot_places (eV 0)) (eC .non) (eV 3)).f [depotD m q fs, .int n, .int (n / m), .int (n % m)] = .ok (.tup (((spots m q fs).take (n % m).toNat).map .int), [depotD m q fs, .int n, .int (n / m), .int (n % m)]) := by
    refine f_eSlE (l := .non) (h := .int (n % m)) (lo := none) (hi := some (n % m)) e3 rfl rfl rfl rfl rfl ?_
    obtain ⟨k, hk⟩ : ∃ k : Nat, n % m = (k : Int) := ⟨(n % m).toNat, (Int.toNat_of_nonneg t0).symm⟩
    rw [hk, Int.toNat_natCast, oSl_to, ← List.map_take]
  have e6 : oSum [D.tup (((spots m q fs).take (n % m).toNat).map .int)] = some (.int ((spots m q fs).take (n % m).toNat).sum) := sum_ints _ _ _ rfl
  have h : b_Depot_begun (frameD N_Depot_begun.length [depotD m q fs, .int n]) = .ok (.ret (.int (begunI m q n fs)), [depotD m q fs, .int n, .int (n / m), .int (n % m)]) := by
    unfold b_Depot_begun N_Depot_begun begunI
    rw [seq_next (ρ' := [depotD m q fs, .int n, .unset, .unset]) (by simp only [frameD, pick, Nat.sub_self, List.replicate_zero, sSeq, sNil, sSet, sRet, sRetN, sExpr, sIf, sBrk, sCont, sNever, f_eV, f_eMv, f_eFz, f_eC, f_eOp, f_eAnd, f_eOr, f_eNot, f_eIf, f_tru1, f_eCh, f_eFr, f_eAndV, f_eOrV, f_eK, f_eNx, f_eMut, evs_nil, evs_cons, pu_eC, pu_eV, pu_eOp, pu_eK, pu_eFr, pus_nil, pus_cons, getD_0, getD_S, un_un, un_non, un_bl, un_int, un_str, un_seq, un_obj, un_deep, un_fn, un_ty, give, truth, oNot, cLt_d, cLe_d, cGt_d, cGe_d, oNotV, oNeg, D.isTupK, D.isLst, isObj, sFld, putD, Out.bind_ok, Out.bind_exc, Out.bind_stuck, give_some, give_none, List.replicate, List.length_cons, List.length_nil, List.set_cons_zero, List.set_cons_succ, List.getElem?_cons_zero, List.getElem?_cons_succ, List.getElem?_nil, lk_non, lk_bl, lk_int, lk_str, lk_fz, lk_bor, lk_own, lk_tmp, lk_scr, lk_obj, lk_objo, lk_deep, looks_nil, looks_cons, D.stb, D.canFz, D.frz, D.isFz, D.isNon, stbs, getO, pN, sStore, sAug, sAugS, Option.bind_some, Option.map_some, Option.bind_none, Option.map_none, List.nil_append, List.cons_append, Bool.and_true, Bool.true_and, Bool.or_true, Bool.true_or, Bool.and_false, Bool.false_and, Bool.or_false, Bool.false_or, Bool.not_true, Bool.not_false, if_true, if_false, Bool.false_eq_true, reduceIte, List.all_cons, List.all_nil, decide_true, decide_false, cd_ev (ρ := [depotD m q fs, .int n, .unset, .unset]) rfl h0 h1])]
    rw [seq_next (ρ' := [depotD m q fs, .int n, .int (n / m), .unset]) (by simp only [frameD, pick, Nat.sub_self, List.replicate_zero, sSeq, sNil, sSet, sRet, sRetN, sExpr, sIf, sBrk, sCont, sNever, f_eV, f_eMv, f_eFz, f_eC, f_eOp, f_eAnd, f_eOr, f_eNot, f_eIf, f_tru1, f_eCh, f_eFr, f_eAndV, f_eOrV, f_eK, f_eNx, f_eMut, evs_nil, evs_cons, pu_eC, pu_eV, pu_eOp, pu_eK, pu_eFr, pus_nil, pus_cons, getD_0, getD_S, un_un, un_non, un_bl, un_int, un_str, un_seq, un_obj, un_deep, un_fn, un_ty, give, truth, oNot, cLt_d, cLe_d, cGt_d, cGe_d, oNotV, oNeg, D.isTupK, D.isLst, isObj, sFld, putD, Out.bind_ok, Out.bind_exc, Out.bind_stuck, give_some, give_none, List.replicate, List.length_cons, List.length_nil, List.set_cons_zero, List.set_cons_succ, List.getElem?_cons_zero, List.getElem?_cons_succ, List.getElem?_nil, lk_non, lk_bl, lk_int, lk_str, lk_fz, lk_bor, lk_own, lk_tmp, lk_scr, lk_obj, lk_objo, lk_deep, looks_nil, looks_cons, D.stb, D.canFz, D.frz, D.isFz, D.isNon, stbs, getO, pN, sStore, sAug, sAugS, Option.bind_some, Option.map_some, Option.bind_none, Option.map_none, List.nil_append, List.cons_append, Bool.and_true, Bool.true_and, Bool.or_true, Bool.true_or, Bool.and_false, Bool.false_and, Bool.or_false, Bool.false_or, Bool.not_true, Bool.not_false, if_true, if_false, Bool.false_eq_true, reduceIte, List.all_cons, List.all_nil, decide_true, decide_false, look_dep, un_dep, stb_dep, fld_m, fdiv_int (i := n) (j := m) (by omega) (wide_of (by omega) (by omega))])]
    rw [seq_next (ρ' := [depotD m q fs, .int n, .int (n / m), .int (n % m)]) (by simp only [frameD, pick, Nat.sub_self, List.replicate_zero, sSeq, sNil, sSet, sRet, sRetN, sExpr, sIf, sBrk, sCont, sNever, f_eV, f_eMv, f_eFz, f_eC, f_eOp, f_eAnd, f_eOr, f_eNot, f_eIf, f_tru1, f_eCh, f_eFr, f_eAndV, f_eOrV, f_eK, f_eNx, f_eMut, evs_nil, evs_cons, pu_eC, pu_eV, pu_eOp, pu_eK, pu_eFr, pus_nil, pus_cons, getD_0, getD_S, un_un, un_non, un_bl, un_int, un_str, un_seq, un_obj, un_deep, un_fn, un_ty, give, truth, oNot, cLt_d, cLe_d, cGt_d, cGe_d, oNotV, oNeg, D.isTupK, D.isLst, isObj, sFld, putD, Out.bind_ok, Out.bind_exc, Out.bind_stuck, give_some, give_none, List.replicate, List.length_cons, List.length_nil, List.set_cons_zero, List.set_cons_succ, List.getElem?_cons_zero, List.getElem?_cons_succ, List.getElem?_nil, lk_non, lk_bl, lk_int, lk_str, lk_fz, lk_bor, lk_own, lk_tmp, lk_scr, lk_obj, lk_objo, lk_deep, looks_nil, looks_cons, D.stb, D.canFz, D.frz, D.isFz, D.isNon, stbs, getO, pN, sStore, sAug, sAugS, Option.bind_some, Option.map_some, Option.bind_none, Option.map_none, List.nil_append, List.cons_append, Bool.and_true, Bool.true_and, Bool.or_true, Bool.true_or, Bool.and_false, Bool.false_and, Bool.or_false, Bool.false_or, Bool.not_true, Bool.not_false, if_true, if_false, Bool.false_eq_true, reduceIte, List.all_cons, List.all_nil, decide_true, decide_false, look_dep, un_dep, stb_dep, fld_m, mod_int (i := n) (j := m) (by omega)])]
    simp only [frameD, pick, Nat.sub_self, List.replicate_zero, sSeq, sNil, sSet, sRet, sRetN, sExpr, sIf, sBrk, sCont, sNever, f_eV, f_eMv, f_eFz, f_eC, f_eOp, f_eAnd, f_eOr, f_eNot, f_eIf, f_tru1, f_eCh, f_eFr, f_eAndV, f_eOrV, f_eK, f_eNx, f_eMut, evs_nil, evs_cons, pu_eC, pu_eV, pu_eOp, pu_eK, pu_eFr, pus_nil, pus_cons, getD_0, getD_S, un_un, un_non, un_bl, un_int, un_str, un_seq, un_obj, un_deep, un_fn, un_ty, give, truth, oNot, cLt_d, cLe_d, cGt_d, cGe_d, oNotV, oNeg, D.isTupK, D.isLst, isObj, sFld, putD, Out.bind_ok, Out.bind_exc, Out.bind_stuck, give_some, give_none, List.replicate, List.length_cons, List.length_nil, List.set_cons_zero, List.set_cons_succ, List.getElem?_cons_zero, List.getElem?_cons_succ, List.getElem?_nil, lk_non, lk_bl, lk_int, lk_str, lk_fz, lk_bor, lk_own, lk_tmp, lk_scr, lk_obj, lk_objo, lk_deep, looks_nil, looks_cons, D.stb, D.canFz, D.frz, D.isFz, D.isNon, stbs, getO, pN, sStore, sAug, sAugS, Option.bind_some, Option.map_some, Option.bind_none, Option.map_none, List.nil_append, List.cons_append, Bool.and_true, Bool.true_and, Bool.or_true, Bool.true_or, Bool.and_false, Bool.false_and, Bool.or_false, Bool.false_or, Bool.not_true, Bool.not_false, if_true, if_false, Bool.false_eq_true, reduceIte, List.all_cons, List.all_nil, decide_true, decide_false, e3, e4, e5, e6, mulS (i := n / m) (j := (spots m q fs).sum) (by omega) (by omega), add_int]
  unfold f_Depot_begun
  rw [fn_ret h rfl]
  rfl
end
end Law

/-! k00: the two tellings are alike -/
namespace Law
open Ev
def planF (m q : Int) (fs : List Int) : D := D.lst [.int m, .int q, .lst (fs.map .int)]
section
variable {m q n s : Int} {fs : List Int}
def dueC (m q n : Int) (fs : List Int) : List Int := (rgI 1 m.toNat).map fun c => (spots m q fs).getD (c - 1).toNat 0 + q * (if c == n % m + 1 then 1 else 0)
def begC (m q n : Int) (fs : List Int) : Int := ((rgI 1 m.toNat).map fun c => (spots m q fs).getD (c - 1).toNat 0 * ((n - c + m) / m)).sum
theorem due_eq (hm : 1 ≤ m) : dueC m q n fs = dueL m q n fs := by
  have t0 := Int.emod_nonneg n (show m ≠ 0 by omega)
  have t1 := Int.emod_lt_of_pos n (show 0 < m by omega)
  have sl := spots_len (q := q) (fs := fs) hm
  refine List.ext_getElem? fun i => ?_
  unfold dueC dueL
  by_cases hi : i < m.toNat
  · rw [List.getElem?_map, rgI_get hi]
    show some ((spots m q fs).getD (1 + (i : Int) - 1).toNat 0 + q * (if (1 + (i : Int) == n % m + 1) = true then 1 else 0)) = _
    have e1 : (1 + (i : Int) - 1).toNat = i := by omega
    rw [e1]
    by_cases c : (n % m).toNat = i
    · subst c
      rw [List.getElem?_set_self (by omega), show (1 + ((n % m).toNat : Int) == n % m + 1) = true from beq_iff_eq.mpr (by omega)]
      simp
    · rw [List.getElem?_set_ne c, show (1 + (i : Int) == n % m + 1) = false from beq_eq_false_iff_ne.mpr (by omega), List.getD_eq_getElem?_getD, List.getElem?_eq_getElem (by omega)]
      simp
  · rw [List.getElem?_eq_none (by rw [List.length_map, rgI_len]; omega), List.getElem?_eq_none (by rw [List.length_set]; omega)]
theorem sum_map (a r : Int) (hr : 0 ≤ r) : ∀ (xs : List Int) (k : Nat), ((List.range xs.length).map fun i => xs.getD i 0 * (a + if ((k + i : Nat) : Int) < r then 1 else 0)).sum = a * xs.sum + (xs.take (r.toNat - k)).sum
  | [], k => by simp
  | x :: xs, k => by
    have ih := sum_map a r hr xs (k + 1)
    rw [List.length_cons, List.range_succ_eq_map, List.map_cons, List.sum_cons, List.map_map]
    have e : ((List.range xs.length).map ((fun i => (x :: xs).getD i 0 * (a + if ((k + i : Nat) : Int) < r then 1 else 0)) ∘ Nat.succ)) = (List.range xs.length).map fun i => xs.getD i 0 * (a + if ((k + 1 + i : Nat) : Int) < r then 1 else 0) := by
      refine List.map_congr_left fun i _ => ?_
      show (x :: xs).getD (i + 1) 0 * (a + if ((k + (i + 1) : Nat) : Int) < r then 1 else 0) = _
      rw [show k + (i + 1) = k + 1 + i by omega]
      rfl
    rw [e, ih, List.sum_cons]
    show x * (a + if ((k + 0 : Nat) : Int) < r then 1 else 0) + _ = _
    by_cases c : (k : Int) < r
    · rw [Nat.add_zero, if_pos c, show r.toNat - k = (r.toNat - (k + 1)) + 1 by omega, List.take_succ_cons, List.sum_cons]
      rw [Int.mul_add, Int.mul_add, Int.mul_comm x a]
      omega
    · rw [Nat.add_zero, if_neg c, show r.toNat - k = 0 by omega, show r.toNat - (k + 1) = 0 by omega, List.take_zero, List.take_zero, Int.add_zero, Int.mul_add, Int.mul_comm x a]
      simp
theorem beg_eq (hm : 1 ≤ m) : begC m q n fs = begunI m q n fs := by
  have t0 := Int.emod_nonneg n (show m ≠ 0 by omega)
  have t1 := Int.emod_lt_of_pos n (show 0 < m by omega)
  have sl := spots_len (q := q) (fs := fs) hm
  have h := sum_map (n / m) (n % m) t0 (spots m q fs) 0
  rw [Nat.sub_zero] at h
  unfold begC begunI
  rw [← h, sl]
  unfold rgI
  rw [List.map_map]
  congr 1
  refine List.map_congr_left fun i hi => ?_
  have hi := List.mem_range.mp hi
  show (spots m q fs).getD (1 + (i : Int) - 1).toNat 0 * ((n - (1 + (i : Int)) + m) / m) = _
  rw [show (1 + (i : Int) - 1).toNat = i by omega, Nat.zero_add]
  congr 1
  have dm := Int.mul_ediv_add_emod n m
  by_cases c : (i : Int) < n % m
  · rw [if_pos c, show n - (1 + (i : Int)) + m = (n % m - (1 + (i : Int))) + (n / m + 1) * m by rw [Int.add_mul, Int.one_mul, Int.mul_comm]; omega, Int.add_mul_ediv_right _ _ (by omega), Int.ediv_eq_zero_of_lt (by omega) (by omega)]
    omega
  · rw [if_neg c, show n - (1 + (i : Int)) + m = (n % m - (1 + (i : Int)) + m) + (n / m) * m by rw [Int.mul_comm]; omega, Int.add_mul_ediv_right _ _ (by omega), Int.ediv_eq_zero_of_lt (by omega) (by omega)]
    omega
def told (m q n s : Int) (fs : List Int) : D := .tup [.int m, .int q, .tup (fs.map .int), .int (fs.length : Nat), .tup ((spots m q fs).map .int), .int ((s - 1) % m + 1), .int (n / m), .int (n % m + 1), .tup ((dueL m q n fs).map .int), .int (begunI m q n fs)]
theorem meth_dep {mm : PySem.Str} {F : Fn} {x y : Ex} {ρ : List D} {r : D} {l : Int} (ho : isObj "Depot" mm (depotD m q fs) = true) (hx : x.f ρ = .ok (depotD m q fs, ρ)) (hy : y.f ρ = .ok (.int l, ρ)) (e : F [depotD m q fs, .int l] = .ok (r, [])) (hr : r.canFz = true) : (eMeth "Depot" mm F x [.ex y]).f ρ = .ok (r, ρ) :=
  meth_ev1 hx ho (passX_dep m q fs) hy e hr (stb_dep m q fs)
theorem told_ok (hd : DepOk m q fs) (h0 : 0 ≤ n) (h1 : n ≤ 10 ^ 30) (hs : 1 ≤ s) : f_law_told_numbers [depotD m q fs, .int n, .int s] = .ok (told m q n s fs, []) := by
  have hm := hd.m1
  have hm8 := hd.m8
  have isO : ∀ mm : PySem.Str, (["period", "quota", "firsts"] : List PySem.Str).contains mm = false → isObj "Depot" mm (depotD m q fs) = true := fun mm h => by
    show (decide (("Depot" : PySem.Str) = "Depot") && !(["period", "quota", "firsts"] : List PySem.Str).contains mm) = true
    rw [h]
    rfl
  have p1 : (eProp "Depot" "size" f_Depot_size (eV 0)).f [depotD m q fs, .int n, .int s, .unset] = .ok (.int (fs.length : Nat), [depotD m q fs, .int n, .int s, .unset]) := prop_ev (x := eV 0) rfl (isO _ (by decide)) (passX_dep m q fs) size_ok rfl
  have p2 : (eProp "Depot" "places" f_Depot_places (eV 0)).f [depotD m q fs, .int n, .int s, .unset] = .ok (.tup ((spots m q fs).map .int), [depotD m q fs, .int n, .int s, .unset]) := prop_places (x := eV 0) rfl hm hm8
  have p3 : (eMeth "Depot" "weekday" f_Depot_weekday (eV 0) [.ex (eV 2)]).f [depotD m q fs, .int n, .int s, .unset] = .ok (.int ((s - 1) % m + 1), [depotD m q fs, .int n, .int s, .unset]) := meth_dep (isO _ (by decide)) (x := eV 0) (y := eV 2) rfl rfl (weekday_ok hm hs) rfl
  have q1 : ∀ d : D, (eMeth "Depot" "closings" f_Depot_closings (eV 0) [.ex (eV 1)]).f [depotD m q fs, .int n, .int s, .tup [.int m, .int q, .tup (fs.map .int), .int (fs.length : Nat), .tup ((spots m q fs).map .int), .int ((s - 1) % m + 1)]] = .ok (.int (n / m), [depotD m q fs, .int n, .int s, .tup [.int m, .int q, .tup (fs.map .int), .int (fs.length : Nat), .tup ((spots m q fs).map .int), .int ((s - 1) % m + 1)]]) := fun _ => meth_dep (isO _ (by decide)) (x := eV 0) (y := eV 1) rfl rfl (closings_ok hm hm8 h0 h1) rfl
  have q2 : (eMeth "Depot" "last_weekday" f_Depot_last_weekday (eV 0) [.ex (eV 1)]).f [depotD m q fs, .int n, .int s, .tup [.int m, .int q, .tup (fs.map .int), .int (fs.length : Nat), .tup ((spots m q fs).map .int), .int ((s - 1) % m + 1)]] = .ok (.int (n % m + 1), [depotD m q fs, .int n, .int s, .tup [.int m, .int q, .tup (fs.map .int), .int (fs.length : Nat), .tup ((spots m q fs).map .int), .int ((s - 1) % m + 1)]]) := meth_dep (isO _ (by decide)) (x := eV 0) (y := eV 1) rfl rfl (lastw_ok hm h0 h1) rfl
  have q3 : (eMeth "Depot" "due_places" f_Depot_due_places (eV 0) [.ex (eV 1)]).f [depotD m q fs, .int n, .int s, .tup [.int m, .int q, .tup (fs.map .int), .int (fs.length : Nat), .tup ((spots m q fs).map .int), .int ((s - 1) % m + 1)]] = .ok (.tup ((dueL m q n fs).map .int), [depotD m q fs, .int n, .int s, .tup [.int m, .int q, .tup (fs.map .int), .int (fs.length : Nat), .tup ((spots m q fs).map .int), .int ((s - 1) % m + 1)]]) := meth_dep (isO _ (by decide)) (x := eV 0) (y := eV 1) rfl rfl (due_ok hm hm8 h0 h1) rfl
  have q4 : (eMeth "Depot" "begun" f_Depot_begun (eV 0) [.ex (eV 1)]).f [depotD m q fs, .int n, .int s, .tup [.int m, .int q, .tup (fs.map .int), .int (fs.length : Nat), .tup ((spots m q fs).map .int), .int ((s - 1) % m + 1)]] = .ok (.int (begunI m q n fs), [depotD m q fs, .int n, .int s, .tup [.int m, .int q, .tup (fs.map .int), .int (fs.length : Nat), .tup ((spots m q fs).map .int), .int ((s - 1) % m + 1)]]) := meth_dep (isO _ (by decide)) (x := eV 0) (y := eV 1) rfl rfl (begun_ok hd h0 h1) rfl
  have h : b_law_told_numbers (frameD N_law_told_numbers.length [depotD m q fs, .int n, .int s]) = .ok (.ret (told m q n s fs), [depotD m q fs, .int n, .int s, .tup [.int m, .int q, .tup (fs.map .int), .int (fs.length : Nat), .tup ((spots m q fs).map .int), .int ((s - 1) % m + 1)]]) := by
    unfold b_law_told_numbers N_law_told_numbers
    rw [seq_next (ρ' := [depotD m q fs, .int n, .int s, .tup [.int m, .int q, .tup (fs.map .int), .int (fs.length : Nat), .tup ((spots m q fs).map .int), .int ((s - 1) % m + 1)]]) (by
      simp only [frameD, pick, Nat.sub_self, List.replicate_zero, sSeq, sNil, sSet, sRet, sRetN, sExpr, sIf, sBrk, sCont, sNever, f_eV, f_eMv, f_eFz, f_eC, f_eOp, f_eAnd, f_eOr, f_eNot, f_eIf, f_tru1, f_eCh, f_eFr, f_eAndV, f_eOrV, f_eK, f_eNx, f_eMut, evs_nil, evs_cons, pu_eC, pu_eV, pu_eOp, pu_eK, pu_eFr, pus_nil, pus_cons, getD_0, getD_S, un_un, un_non, un_bl, un_int, un_str, un_seq, un_obj, un_deep, un_fn, un_ty, give, truth, oNot, cLt_d, cLe_d, cGt_d, cGe_d, oNotV, oNeg, D.isTupK, D.isLst, isObj, sFld, putD, Out.bind_ok, Out.bind_exc, Out.bind_stuck, give_some, give_none, List.replicate, List.length_cons, List.length_nil, List.set_cons_zero, List.set_cons_succ, List.getElem?_cons_zero, List.getElem?_cons_succ, List.getElem?_nil, lk_non, lk_bl, lk_int, lk_str, lk_fz, lk_bor, lk_own, lk_tmp, lk_scr, lk_obj, lk_objo, lk_deep, looks_nil, looks_cons, D.stb, D.canFz, D.frz, D.isFz, D.isNon, stbs, getO, pN, sStore, sAug, sAugS, Option.bind_some, Option.map_some, Option.bind_none, Option.map_none, List.nil_append, List.cons_append, Bool.and_true, Bool.true_and, Bool.or_true, Bool.true_or, Bool.and_false, Bool.false_and, Bool.or_false, Bool.false_or, Bool.not_true, Bool.not_false, if_true, if_false, Bool.false_eq_true, reduceIte, List.all_cons, List.all_nil, decide_true, decide_false, look_dep, un_dep, stb_dep, fld_m, fld_q, fld_f, p1, p2, p3, oTup, List.map_cons, List.map_nil]
      rfl)]
    simp only [frameD, pick, Nat.sub_self, List.replicate_zero, sSeq, sNil, sSet, sRet, sRetN, sExpr, sIf, sBrk, sCont, sNever, f_eV, f_eMv, f_eFz, f_eC, f_eOp, f_eAnd, f_eOr, f_eNot, f_eIf, f_tru1, f_eCh, f_eFr, f_eAndV, f_eOrV, f_eK, f_eNx, f_eMut, evs_nil, evs_cons, pu_eC, pu_eV, pu_eOp, pu_eK, pu_eFr, pus_nil, pus_cons, getD_0, getD_S, un_un, un_non, un_bl, un_int, un_str, un_seq, un_obj, un_deep, un_fn, un_ty, give, truth, oNot, cLt_d, cLe_d, cGt_d, cGe_d, oNotV, oNeg, D.isTupK, D.isLst, isObj, sFld, putD, Out.bind_ok, Out.bind_exc, Out.bind_stuck, give_some, give_none, List.replicate, List.length_cons, List.length_nil, List.set_cons_zero, List.set_cons_succ, List.getElem?_cons_zero, List.getElem?_cons_succ, List.getElem?_nil, lk_non, lk_bl, lk_int, lk_str, lk_fz, lk_bor, lk_own, lk_tmp, lk_scr, lk_obj, lk_objo, lk_deep, looks_nil, looks_cons, D.stb, D.canFz, D.frz, D.isFz, D.isNon, stbs, getO, pN, sStore, sAug, sAugS, Option.bind_some, Option.map_some, Option.bind_none, Option.map_none, List.nil_append, List.cons_append, Bool.and_true, Bool.true_and, Bool.or_true, Bool.true_or, Bool.and_false, Bool.false_and, Bool.or_false, Bool.false_or, Bool.not_true, Bool.not_false, if_true, if_false, Bool.false_eq_true, reduceIte, List.all_cons, List.all_nil, decide_true, decide_false, q1 .non, q2, q3, q4, oTup, List.map_cons, List.map_nil]
    rfl
  unfold f_law_told_numbers
  rw [fn_ret h rfl]
  rfl
theorem count_filter (fs : List Int) (c : Int) : ((fs.filter fun f => f == c).map fun f => f).length = fs.count c := by
  rw [List.length_map, List.count, List.countP_eq_length_filter]
theorem dn_ok (hd : DepOk m q fs) (h0 : 0 ≤ n) (h1 : n ≤ 10 ^ 30) : f_law_due_numbers [planF m q fs, .int n, .int s] = .ok (told m q n s fs, []) := by
  have hm := hd.m1
  have hm8 := hd.m8
  have n12 := hd.n12
  have q1 := hd.q1
  have q12 : q ≤ 12 := by have := hd.n1; omega
  have t0 := Int.emod_nonneg n (show m ≠ 0 by omega)
  have t1 := Int.emod_lt_of_pos n (show 0 < m by omega)
  have sl := spots_len (q := q) (fs := fs) hm
  have sb := spots_b hd
  have lastE : (n + 1 - 1) % m + 1 = n % m + 1 := by rw [show n + 1 - 1 = n by omega]
  have pu_Lc : ∀ {p : Bool} {vs : List Nat} {it : Its} {g : Tg} {t x : Ex}, (eLc p vs it g t x).pu = (p && (it.pu && (t.pu && x.pu))) := fun {_ _ _ _ _ _} => rfl
  have getS : ∀ c : Int, 1 ≤ c → c < m + 1 → L2.atI ((spots m q fs).map D.int) (c - 1) = some (.int ((spots m q fs).getD (c - 1).toNat 0)) ∧ (spots m q fs).getD (c - 1).toNat 0 ∈ spots m q fs := fun c c0 c1 => by
    obtain ⟨k, hk⟩ : ∃ k : Nat, c - 1 = (k : Int) := ⟨(c - 1).toNat, by omega⟩
    have hl : k < (spots m q fs).length := by omega
    rw [hk, at_nat, Int.toNat_natCast, List.getElem?_map, List.getElem?_eq_getElem hl, List.getD_eq_getElem?_getD, List.getElem?_eq_getElem hl]
    exact ⟨rfl, List.getElem_mem hl⟩
  -- the calls of day
  have d1 : (eCall f_law_day [.ex (eOp oAdd [eV 1, eC (.int 1)]), .ex (eV 3)]).f [planF m q fs, .int n, .int s, .int m, .unset, .unset, .unset, .unset, .unset, .unset, .unset] = .ok (.int (n % m + 1), [planF m q fs, .int n, .int s, .int m, .unset, .unset, .unset, .unset, .unset, .unset, .unset]) :=
    callV2 (x := eOp oAdd [eV 1, eC (.int 1)]) (y := eV 3) rfl rfl rfl rfl (by have z := day_ok (s := n + 1) hm (by omega); rw [lastE] at z; exact z) rfl rfl
  -- the counts
  have c1 : (eLc true [9] (itOp false kR2 [eC (.int 1), eOp oAdd [eV 3, eC (.int 1)]]) (gN 9) (eC (.bl true)) (eOp oLen [eLc true [10] (itSeq false (eOp oIx [eV 0, eC (.int 2)])) (gN 10) (eOp oEq [eV 10, eV 9]) (eV 10)])).f [planF m q fs, .int n, .int s, .int m, .int (n % m + 1), .unset, .unset, .unset, .unset, .unset, .unset] =
      .ok (D.own ((cnts m fs).map .int), [planF m q fs, .int n, .int s, .int m, .int (n % m + 1), .unset, .unset, .unset, .unset, .unset, .unset]) := by
    rw [lc_r2 (lo := 1) (hi := m + 1) (F := fun c => ((fs.count c : Nat) : Int)) rfl (by simp only [frameD, pick, Nat.sub_self, List.replicate_zero, sSeq, sNil, sSet, sRet, sRetN, sExpr, sIf, sBrk, sCont, sNever, f_eV, f_eMv, f_eFz, f_eC, f_eOp, f_eAnd, f_eOr, f_eNot, f_eIf, f_tru1, f_eCh, f_eFr, f_eAndV, f_eOrV, f_eK, f_eNx, f_eMut, evs_nil, evs_cons, pu_eC, pu_eV, pu_eOp, pu_eK, pu_eFr, pus_nil, pus_cons, getD_0, getD_S, un_un, un_non, un_bl, un_int, un_str, un_seq, un_obj, un_deep, un_fn, un_ty, give, truth, oNot, cLt_d, cLe_d, cGt_d, cGe_d, oNotV, oNeg, D.isTupK, D.isLst, isObj, sFld, putD, Out.bind_ok, Out.bind_exc, Out.bind_stuck, give_some, give_none, List.replicate, List.length_cons, List.length_nil, List.set_cons_zero, List.set_cons_succ, List.getElem?_cons_zero, List.getElem?_cons_succ, List.getElem?_nil, lk_non, lk_bl, lk_int, lk_str, lk_fz, lk_bor, lk_own, lk_tmp, lk_scr, lk_obj, lk_objo, lk_deep, looks_nil, looks_cons, D.stb, D.canFz, D.frz, D.isFz, D.isNon, stbs, getO, pN, sStore, sAug, sAugS, Option.bind_some, Option.map_some, Option.bind_none, Option.map_none, List.nil_append, List.cons_append, Bool.and_true, Bool.true_and, Bool.or_true, Bool.true_or, Bool.and_false, Bool.false_and, Bool.or_false, Bool.false_or, Bool.not_true, Bool.not_false, if_true, if_false, Bool.false_eq_true, reduceIte, List.all_cons, List.all_nil, decide_true, decide_false, add_int]) (by decide) (by decide) (by omega) (by omega) (by omega) rfl (fun c c0 c1 => ⟨[planF m q fs, .int n, .int s, .int m, .int (n % m + 1), .unset, .unset, .unset, .unset, .int c, .unset], rfl, rfl, by
      have inner := lc_seq (p := true) (tm := false) (vs := [10]) (a := eOp oIx [eV 0, eC (.int 2)]) (t := eOp oEq [eV 10, eV 9]) (x := eV 10) (g := gN 10) (ρ := [planF m q fs, .int n, .int s, .int m, .int (n % m + 1), .unset, .unset, .unset, .unset, .int c, .unset]) (d := .lst (fs.map .int)) (is := fs) (P := fun f => f == c) (F := fun f => f)
        (by unfold planF; simp only [frameD, pick, Nat.sub_self, List.replicate_zero, sSeq, sNil, sSet, sRet, sRetN, sExpr, sIf, sBrk, sCont, sNever, f_eV, f_eMv, f_eFz, f_eC, f_eOp, f_eAnd, f_eOr, f_eNot, f_eIf, f_tru1, f_eCh, f_eFr, f_eAndV, f_eOrV, f_eK, f_eNx, f_eMut, evs_nil, evs_cons, pu_eC, pu_eV, pu_eOp, pu_eK, pu_eFr, pus_nil, pus_cons, getD_0, getD_S, un_un, un_non, un_bl, un_int, un_str, un_seq, un_obj, un_deep, un_fn, un_ty, give, truth, oNot, cLt_d, cLe_d, cGt_d, cGe_d, oNotV, oNeg, D.isTupK, D.isLst, isObj, sFld, putD, Out.bind_ok, Out.bind_exc, Out.bind_stuck, give_some, give_none, List.replicate, List.length_cons, List.length_nil, List.set_cons_zero, List.set_cons_succ, List.getElem?_cons_zero, List.getElem?_cons_succ, List.getElem?_nil, lk_non, lk_bl, lk_int, lk_str, lk_fz, lk_bor, lk_own, lk_tmp, lk_scr, lk_obj, lk_objo, lk_deep, looks_nil, looks_cons, D.stb, D.canFz, D.frz, D.isFz, D.isNon, stbs, getO, pN, sStore, sAug, sAugS, Option.bind_some, Option.map_some, Option.bind_none, Option.map_none, List.nil_append, List.cons_append, Bool.and_true, Bool.true_and, Bool.or_true, Bool.true_or, Bool.and_false, Bool.false_and, Bool.or_false, Bool.false_or, Bool.not_true, Bool.not_false, if_true, if_false, Bool.false_eq_true, reduceIte, List.all_cons, List.all_nil, decide_true, decide_false, ix_seq', at2]) rfl rfl (by omega) rfl (fun i _ => ⟨[planF m q fs, .int n, .int s, .int m, .int (n % m + 1), .unset, .unset, .unset, .unset, .int c, .int i], rfl, by unfold planF; simp only [frameD, pick, Nat.sub_self, List.replicate_zero, sSeq, sNil, sSet, sRet, sRetN, sExpr, sIf, sBrk, sCont, sNever, f_eV, f_eMv, f_eFz, f_eC, f_eOp, f_eAnd, f_eOr, f_eNot, f_eIf, f_tru1, f_eCh, f_eFr, f_eAndV, f_eOrV, f_eK, f_eNx, f_eMut, evs_nil, evs_cons, pu_eC, pu_eV, pu_eOp, pu_eK, pu_eFr, pus_nil, pus_cons, getD_0, getD_S, un_un, un_non, un_bl, un_int, un_str, un_seq, un_obj, un_deep, un_fn, un_ty, give, truth, oNot, cLt_d, cLe_d, cGt_d, cGe_d, oNotV, oNeg, D.isTupK, D.isLst, isObj, sFld, putD, Out.bind_ok, Out.bind_exc, Out.bind_stuck, give_some, give_none, List.replicate, List.length_cons, List.length_nil, List.set_cons_zero, List.set_cons_succ, List.getElem?_cons_zero, List.getElem?_cons_succ, List.getElem?_nil, lk_non, lk_bl, lk_int, lk_str, lk_fz, lk_bor, lk_own, lk_tmp, lk_scr, lk_obj, lk_objo, lk_deep, looks_nil, looks_cons, D.stb, D.canFz, D.frz, D.isFz, D.isNon, stbs, getO, pN, sStore, sAug, sAugS, Option.bind_some, Option.map_some, Option.bind_none, Option.map_none, List.nil_append, List.cons_append, Bool.and_true, Bool.true_and, Bool.or_true, Bool.true_or, Bool.and_false, Bool.false_and, Bool.or_false, Bool.false_or, Bool.not_true, Bool.not_false, if_true, if_false, Bool.false_eq_true, reduceIte, List.all_cons, List.all_nil, decide_true, decide_false, eq_int], rfl, rfl⟩)
      simp only [frameD, pick, Nat.sub_self, List.replicate_zero, sSeq, sNil, sSet, sRet, sRetN, sExpr, sIf, sBrk, sCont, sNever, f_eV, f_eMv, f_eFz, f_eC, f_eOp, f_eAnd, f_eOr, f_eNot, f_eIf, f_tru1, f_eCh, f_eFr, f_eAndV, f_eOrV, f_eK, f_eNx, f_eMut, evs_nil, evs_cons, pu_eC, pu_eV, pu_eOp, pu_eK, pu_eFr, pus_nil, pus_cons, getD_0, getD_S, un_un, un_non, un_bl, un_int, un_str, un_seq, un_obj, un_deep, un_fn, un_ty, give, truth, oNot, cLt_d, cLe_d, cGt_d, cGe_d, oNotV, oNeg, D.isTupK, D.isLst, isObj, sFld, putD, Out.bind_ok, Out.bind_exc, Out.bind_stuck, give_some, give_none, List.replicate, List.length_cons, List.length_nil, List.set_cons_zero, List.set_cons_succ, List.getElem?_cons_zero, List.getElem?_cons_succ, List.getElem?_nil, lk_non, lk_bl, lk_int, lk_str, lk_fz, lk_bor, lk_own, lk_tmp, lk_scr, lk_obj, lk_objo, lk_deep, looks_nil, looks_cons, D.stb, D.canFz, D.frz, D.isFz, D.isNon, stbs, getO, pN, sStore, sAug, sAugS, Option.bind_some, Option.map_some, Option.bind_none, Option.map_none, List.nil_append, List.cons_append, Bool.and_true, Bool.true_and, Bool.or_true, Bool.true_or, Bool.and_false, Bool.false_and, Bool.or_false, Bool.false_or, Bool.not_true, Bool.not_false, if_true, if_false, Bool.false_eq_true, reduceIte, List.all_cons, List.all_nil, decide_true, decide_false, inner, len_seq, List.length_map]
      rw [← count_filter fs c, List.length_map], rfl⟩)]
    unfold cnts
    rw [show (m + 1 - 1).toNat = m.toNat by omega]
  obtain ⟨r, hr⟩ := cnts_ne (m := m) (fs := fs) hm
  -- the day's places
  have c2 : (eLc true [9] (itOp false kR2 [eC (.int 1), eOp oAdd [eV 3, eC (.int 1)]]) (gN 9) (eC (.bl true)) (eOp oAdd [eOp oIx [eV 5, eOp oSub [eV 9, eC (.int 1)]], eOp oMul [eOp oIx [eV 0, eC (.int 1)], eOp oInt [eOp oEq [eV 9, eV 4]]]])).f [planF m q fs, .int n, .int s, .int m, .int (n % m + 1), .own ((spots m q fs).map .int), .unset, .unset, .unset, .unset, .unset] =
      .ok (D.own ((dueC m q n fs).map .int), [planF m q fs, .int n, .int s, .int m, .int (n % m + 1), .own ((spots m q fs).map .int), .unset, .unset, .unset, .unset, .unset]) := by
    rw [lc_r2 (lo := 1) (hi := m + 1) (F := fun c => (spots m q fs).getD (c - 1).toNat 0 + q * (if c == n % m + 1 then 1 else 0)) rfl (by unfold planF; simp only [frameD, pick, Nat.sub_self, List.replicate_zero, sSeq, sNil, sSet, sRet, sRetN, sExpr, sIf, sBrk, sCont, sNever, f_eV, f_eMv, f_eFz, f_eC, f_eOp, f_eAnd, f_eOr, f_eNot, f_eIf, f_tru1, f_eCh, f_eFr, f_eAndV, f_eOrV, f_eK, f_eNx, f_eMut, evs_nil, evs_cons, pu_eC, pu_eV, pu_eOp, pu_eK, pu_eFr, pus_nil, pus_cons, getD_0, getD_S, un_un, un_non, un_bl, un_int, un_str, un_seq, un_obj, un_deep, un_fn, un_ty, give, truth, oNot, cLt_d, cLe_d, cGt_d, cGe_d, oNotV, oNeg, D.isTupK, D.isLst, isObj, sFld, putD, Out.bind_ok, Out.bind_exc, Out.bind_stuck, give_some, give_none, List.replicate, List.length_cons, List.length_nil, List.set_cons_zero, List.set_cons_succ, List.getElem?_cons_zero, List.getElem?_cons_succ, List.getElem?_nil, lk_non, lk_bl, lk_int, lk_str, lk_fz, lk_bor, lk_own, lk_tmp, lk_scr, lk_obj, lk_objo, lk_deep, looks_nil, looks_cons, D.stb, D.canFz, D.frz, D.isFz, D.isNon, stbs, getO, pN, sStore, sAug, sAugS, Option.bind_some, Option.map_some, Option.bind_none, Option.map_none, List.nil_append, List.cons_append, Bool.and_true, Bool.true_and, Bool.or_true, Bool.true_or, Bool.and_false, Bool.false_and, Bool.or_false, Bool.false_or, Bool.not_true, Bool.not_false, if_true, if_false, Bool.false_eq_true, reduceIte, List.all_cons, List.all_nil, decide_true, decide_false, add_int]) (by decide) (by decide) (by omega) (by omega) (by omega) rfl (fun c c0 c1 => ⟨[planF m q fs, .int n, .int s, .int m, .int (n % m + 1), .own ((spots m q fs).map .int), .unset, .unset, .unset, .int c, .unset], rfl, rfl, by
      have oi : ∀ b : Bool, oInt [.bl b] = some (.int (if b then 1 else 0)) := fun _ => rfl
      unfold planF
      simp only [frameD, pick, Nat.sub_self, List.replicate_zero, sSeq, sNil, sSet, sRet, sRetN, sExpr, sIf, sBrk, sCont, sNever, f_eV, f_eMv, f_eFz, f_eC, f_eOp, f_eAnd, f_eOr, f_eNot, f_eIf, f_tru1, f_eCh, f_eFr, f_eAndV, f_eOrV, f_eK, f_eNx, f_eMut, evs_nil, evs_cons, pu_eC, pu_eV, pu_eOp, pu_eK, pu_eFr, pus_nil, pus_cons, getD_0, getD_S, un_un, un_non, un_bl, un_int, un_str, un_seq, un_obj, un_deep, un_fn, un_ty, give, truth, oNot, cLt_d, cLe_d, cGt_d, cGe_d, oNotV, oNeg, D.isTupK, D.isLst, isObj, sFld, putD, Out.bind_ok, Out.bind_exc, Out.bind_stuck, give_some, give_none, List.replicate, List.length_cons, List.length_nil, List.set_cons_zero, List.set_cons_succ, List.getElem?_cons_zero, List.getElem?_cons_succ, List.getElem?_nil, lk_non, lk_bl, lk_int, lk_str, lk_fz, lk_bor, lk_own, lk_tmp, lk_scr, lk_obj, lk_objo, lk_deep, looks_nil, looks_cons, D.stb, D.canFz, D.frz, D.isFz, D.isNon, stbs, getO, pN, sStore, sAug, sAugS, Option.bind_some, Option.map_some, Option.bind_none, Option.map_none, List.nil_append, List.cons_append, Bool.and_true, Bool.true_and, Bool.or_true, Bool.true_or, Bool.and_false, Bool.false_and, Bool.or_false, Bool.false_or, Bool.not_true, Bool.not_false, if_true, if_false, Bool.false_eq_true, reduceIte, List.all_cons, List.all_nil, decide_true, decide_false, sub_int, ix_seq', (getS c c0 c1).1, at1, eq_int, oi, mulL (i := q) (by omega) (by omega), add_int], rfl⟩)]
    unfold dueC
    rw [show (m + 1 - 1).toNat = m.toNat by omega]
  have c3 : (eLc true [9] (itOp false kR2 [eC (.int 1), eOp oAdd [eV 3, eC (.int 1)]]) (gN 9) (eC (.bl true)) (eOp oMul [eOp oIx [eV 5, eOp oSub [eV 9, eC (.int 1)]], eOp oFdiv [eOp oAdd [eOp oSub [eV 1, eV 9], eV 3], eV 3]])).f [planF m q fs, .int n, .int s, .int m, .int (n % m + 1), .own ((spots m q fs).map .int), .own ((dueC m q n fs).map .int), .unset, .unset, .unset, .unset] =
      .ok (D.own (((rgI 1 m.toNat).map fun c => (spots m q fs).getD (c - 1).toNat 0 * ((n - c + m) / m)).map .int), [planF m q fs, .int n, .int s, .int m, .int (n % m + 1), .own ((spots m q fs).map .int), .own ((dueC m q n fs).map .int), .unset, .unset, .unset, .unset]) := by
    rw [lc_r2 (lo := 1) (hi := m + 1) (F := fun c => (spots m q fs).getD (c - 1).toNat 0 * ((n - c + m) / m)) rfl (by unfold planF; simp only [frameD, pick, Nat.sub_self, List.replicate_zero, sSeq, sNil, sSet, sRet, sRetN, sExpr, sIf, sBrk, sCont, sNever, f_eV, f_eMv, f_eFz, f_eC, f_eOp, f_eAnd, f_eOr, f_eNot, f_eIf, f_tru1, f_eCh, f_eFr, f_eAndV, f_eOrV, f_eK, f_eNx, f_eMut, evs_nil, evs_cons, pu_eC, pu_eV, pu_eOp, pu_eK, pu_eFr, pus_nil, pus_cons, getD_0, getD_S, un_un, un_non, un_bl, un_int, un_str, un_seq, un_obj, un_deep, un_fn, un_ty, give, truth, oNot, cLt_d, cLe_d, cGt_d, cGe_d, oNotV, oNeg, D.isTupK, D.isLst, isObj, sFld, putD, Out.bind_ok, Out.bind_exc, Out.bind_stuck, give_some, give_none, List.replicate, List.length_cons, List.length_nil, List.set_cons_zero, List.set_cons_succ, List.getElem?_cons_zero, List.getElem?_cons_succ, List.getElem?_nil, lk_non, lk_bl, lk_int, lk_str, lk_fz, lk_bor, lk_own, lk_tmp, lk_scr, lk_obj, lk_objo, lk_deep, looks_nil, looks_cons, D.stb, D.canFz, D.frz, D.isFz, D.isNon, stbs, getO, pN, sStore, sAug, sAugS, Option.bind_some, Option.map_some, Option.bind_none, Option.map_none, List.nil_append, List.cons_append, Bool.and_true, Bool.true_and, Bool.or_true, Bool.true_or, Bool.and_false, Bool.false_and, Bool.or_false, Bool.false_or, Bool.not_true, Bool.not_false, if_true, if_false, Bool.false_eq_true, reduceIte, List.all_cons, List.all_nil, decide_true, decide_false, add_int]) (by decide) (by decide) (by omega) (by omega) (by omega) rfl (fun c c0 c1 => ⟨[planF m q fs, .int n, .int s, .int m, .int (n % m + 1), .own ((spots m q fs).map .int), .own ((dueC m q n fs).map .int), .unset, .unset, .int c, .unset], rfl, rfl, by
      have bb := sb _ (getS c c0 c1).2
      unfold planF
      simp only [frameD, pick, Nat.sub_self, List.replicate_zero, sSeq, sNil, sSet, sRet, sRetN, sExpr, sIf, sBrk, sCont, sNever, f_eV, f_eMv, f_eFz, f_eC, f_eOp, f_eAnd, f_eOr, f_eNot, f_eIf, f_tru1, f_eCh, f_eFr, f_eAndV, f_eOrV, f_eK, f_eNx, f_eMut, evs_nil, evs_cons, pu_eC, pu_eV, pu_eOp, pu_eK, pu_eFr, pus_nil, pus_cons, getD_0, getD_S, un_un, un_non, un_bl, un_int, un_str, un_seq, un_obj, un_deep, un_fn, un_ty, give, truth, oNot, cLt_d, cLe_d, cGt_d, cGe_d, oNotV, oNeg, D.isTupK, D.isLst, isObj, sFld, putD, Out.bind_ok, Out.bind_exc, Out.bind_stuck, give_some, give_none, List.replicate, List.length_cons, List.length_nil, List.set_cons_zero, List.set_cons_succ, List.getElem?_cons_zero, List.getElem?_cons_succ, List.getElem?_nil, lk_non, lk_bl, lk_int, lk_str, lk_fz, lk_bor, lk_own, lk_tmp, lk_scr, lk_obj, lk_objo, lk_deep, looks_nil, looks_cons, D.stb, D.canFz, D.frz, D.isFz, D.isNon, stbs, getO, pN, sStore, sAug, sAugS, Option.bind_some, Option.map_some, Option.bind_none, Option.map_none, List.nil_append, List.cons_append, Bool.and_true, Bool.true_and, Bool.or_true, Bool.true_or, Bool.and_false, Bool.false_and, Bool.or_false, Bool.false_or, Bool.not_true, Bool.not_false, if_true, if_false, Bool.false_eq_true, reduceIte, List.all_cons, List.all_nil, decide_true, decide_false, sub_int, ix_seq', (getS c c0 c1).1, add_int, fdiv_int (j := m) (by omega) (wide_of (by omega) (by omega)), mulL (i := (spots m q fs).getD (c - 1).toNat 0) (by omega) (by omega)], rfl⟩)]
    rw [show (m + 1 - 1).toNat = m.toNat by omega]
  have e7 : oSum [D.own (((rgI 1 m.toNat).map fun c => (spots m q fs).getD (c - 1).toNat 0 * ((n - c + m) / m)).map .int)] = some (.int (begC m q n fs)) := sum_ints _ _ _ rfl
  have d2 : (eCall f_law_day [.ex (eV 2), .ex (eV 3)]).f [planF m q fs, .int n, .int s, .int m, .int (n % m + 1), .own ((spots m q fs).map .int), .own ((dueC m q n fs).map .int), .int (begC m q n fs), .unset, .unset, .unset] = .ok (.int ((s - 1) % m + 1), [planF m q fs, .int n, .int s, .int m, .int (n % m + 1), .own ((spots m q fs).map .int), .own ((dueC m q n fs).map .int), .int (begC m q n fs), .unset, .unset, .unset]) :=
    callV2 (x := eV 2) (y := eV 3) rfl rfl rfl rfl (day_ok hm (by omega)) rfl rfl
  have h : b_law_due_numbers (frameD N_law_due_numbers.length [planF m q fs, .int n, .int s]) = .ok (.ret (told m q n s fs), [planF m q fs, .int n, .int s, .int m, .int (n % m + 1), .own ((spots m q fs).map .int), .own ((dueC m q n fs).map .int), .int (begC m q n fs), .tup [.int m, .int q, .tup (fs.map .int), .int (fs.length : Nat), .tup ((spots m q fs).map .int), .int ((s - 1) % m + 1)], .unset, .unset]) := by
    unfold b_law_due_numbers N_law_due_numbers
    rw [seq_next (ρ' := [planF m q fs, .int n, .int s, .int m, .unset, .unset, .unset, .unset, .unset, .unset, .unset]) (by unfold planF; simp only [frameD, pick, Nat.sub_self, List.replicate_zero, sSeq, sNil, sSet, sRet, sRetN, sExpr, sIf, sBrk, sCont, sNever, f_eV, f_eMv, f_eFz, f_eC, f_eOp, f_eAnd, f_eOr, f_eNot, f_eIf, f_tru1, f_eCh, f_eFr, f_eAndV, f_eOrV, f_eK, f_eNx, f_eMut, evs_nil, evs_cons, pu_eC, pu_eV, pu_eOp, pu_eK, pu_eFr, pus_nil, pus_cons, getD_0, getD_S, un_un, un_non, un_bl, un_int, un_str, un_seq, un_obj, un_deep, un_fn, un_ty, give, truth, oNot, cLt_d, cLe_d, cGt_d, cGe_d, oNotV, oNeg, D.isTupK, D.isLst, isObj, sFld, putD, Out.bind_ok, Out.bind_exc, Out.bind_stuck, give_some, give_none, List.replicate, List.length_cons, List.length_nil, List.set_cons_zero, List.set_cons_succ, List.getElem?_cons_zero, List.getElem?_cons_succ, List.getElem?_nil, lk_non, lk_bl, lk_int, lk_str, lk_fz, lk_bor, lk_own, lk_tmp, lk_scr, lk_obj, lk_objo, lk_deep, looks_nil, looks_cons, D.stb, D.canFz, D.frz, D.isFz, D.isNon, stbs, getO, pN, sStore, sAug, sAugS, Option.bind_some, Option.map_some, Option.bind_none, Option.map_none, List.nil_append, List.cons_append, Bool.and_true, Bool.true_and, Bool.or_true, Bool.true_or, Bool.and_false, Bool.false_and, Bool.or_false, Bool.false_or, Bool.not_true, Bool.not_false, if_true, if_false, Bool.false_eq_true, reduceIte, List.all_cons, List.all_nil, decide_true, decide_false, ix_seq', at0])]
    rw [seq_next (ρ' := [planF m q fs, .int n, .int s, .int m, .int (n % m + 1), .unset, .unset, .unset, .unset, .unset, .unset]) (by simp only [frameD, pick, Nat.sub_self, List.replicate_zero, sSeq, sNil, sSet, sRet, sRetN, sExpr, sIf, sBrk, sCont, sNever, f_eV, f_eMv, f_eFz, f_eC, f_eOp, f_eAnd, f_eOr, f_eNot, f_eIf, f_tru1, f_eCh, f_eFr, f_eAndV, f_eOrV, f_eK, f_eNx, f_eMut, evs_nil, evs_cons, pu_eC, pu_eV, pu_eOp, pu_eK, pu_eFr, pus_nil, pus_cons, getD_0, getD_S, un_un, un_non, un_bl, un_int, un_str, un_seq, un_obj, un_deep, un_fn, un_ty, give, truth, oNot, cLt_d, cLe_d, cGt_d, cGe_d, oNotV, oNeg, D.isTupK, D.isLst, isObj, sFld, putD, Out.bind_ok, Out.bind_exc, Out.bind_stuck, give_some, give_none, List.replicate, List.length_cons, List.length_nil, List.set_cons_zero, List.set_cons_succ, List.getElem?_cons_zero, List.getElem?_cons_succ, List.getElem?_nil, lk_non, lk_bl, lk_int, lk_str, lk_fz, lk_bor, lk_own, lk_tmp, lk_scr, lk_obj, lk_objo, lk_deep, looks_nil, looks_cons, D.stb, D.canFz, D.frz, D.isFz, D.isNon, stbs, getO, pN, sStore, sAug, sAugS, Option.bind_some, Option.map_some, Option.bind_none, Option.map_none, List.nil_append, List.cons_append, Bool.and_true, Bool.true_and, Bool.or_true, Bool.true_or, Bool.and_false, Bool.false_and, Bool.or_false, Bool.false_or, Bool.not_true, Bool.not_false, if_true, if_false, Bool.false_eq_true, reduceIte, List.all_cons, List.all_nil, decide_true, decide_false, d1])]
    rw [seq_next (ρ' := [planF m q fs, .int n, .int s, .int m, .int (n % m + 1), .own ((cnts m fs).map .int), .unset, .unset, .unset, .unset, .unset]) (by simp only [frameD, pick, Nat.sub_self, List.replicate_zero, sSeq, sNil, sSet, sRet, sRetN, sExpr, sIf, sBrk, sCont, sNever, f_eV, f_eMv, f_eFz, f_eC, f_eOp, f_eAnd, f_eOr, f_eNot, f_eIf, f_tru1, f_eCh, f_eFr, f_eAndV, f_eOrV, f_eK, f_eNx, f_eMut, evs_nil, evs_cons, pu_eC, pu_eV, pu_eOp, pu_eK, pu_eFr, pus_nil, pus_cons, getD_0, getD_S, un_un, un_non, un_bl, un_int, un_str, un_seq, un_obj, un_deep, un_fn, un_ty, give, truth, oNot, cLt_d, cLe_d, cGt_d, cGe_d, oNotV, oNeg, D.isTupK, D.isLst, isObj, sFld, putD, Out.bind_ok, Out.bind_exc, Out.bind_stuck, give_some, give_none, List.replicate, List.length_cons, List.length_nil, List.set_cons_zero, List.set_cons_succ, List.getElem?_cons_zero, List.getElem?_cons_succ, List.getElem?_nil, lk_non, lk_bl, lk_int, lk_str, lk_fz, lk_bor, lk_own, lk_tmp, lk_scr, lk_obj, lk_objo, lk_deep, looks_nil, looks_cons, D.stb, D.canFz, D.frz, D.isFz, D.isNon, stbs, getO, pN, sStore, sAug, sAugS, Option.bind_some, Option.map_some, Option.bind_none, Option.map_none, List.nil_append, List.cons_append, Bool.and_true, Bool.true_and, Bool.or_true, Bool.true_or, Bool.and_false, Bool.false_and, Bool.or_false, Bool.false_or, Bool.not_true, Bool.not_false, if_true, if_false, Bool.false_eq_true, reduceIte, List.all_cons, List.all_nil, decide_true, decide_false, c1])]
    rw [seq_next (ρ' := [planF m q fs, .int n, .int s, .int m, .int (n % m + 1), .own ((spots m q fs).map .int), .unset, .unset, .unset, .unset, .unset]) (by
      unfold spots
      rw [hr]
      unfold planF
      simp only [frameD, pick, Nat.sub_self, List.replicate_zero, sSeq, sNil, sSet, sRet, sRetN, sExpr, sIf, sBrk, sCont, sNever, f_eV, f_eMv, f_eFz, f_eC, f_eOp, f_eAnd, f_eOr, f_eNot, f_eIf, f_tru1, f_eCh, f_eFr, f_eAndV, f_eOrV, f_eK, f_eNx, f_eMut, evs_nil, evs_cons, pu_eC, pu_eV, pu_eOp, pu_eK, pu_eFr, pus_nil, pus_cons, getD_0, getD_S, un_un, un_non, un_bl, un_int, un_str, un_seq, un_obj, un_deep, un_fn, un_ty, give, truth, oNot, cLt_d, cLe_d, cGt_d, cGe_d, oNotV, oNeg, D.isTupK, D.isLst, isObj, sFld, putD, Out.bind_ok, Out.bind_exc, Out.bind_stuck, give_some, give_none, List.replicate, List.length_cons, List.length_nil, List.set_cons_zero, List.set_cons_succ, List.getElem?_cons_zero, List.getElem?_cons_succ, List.getElem?_nil, lk_non, lk_bl, lk_int, lk_str, lk_fz, lk_bor, lk_own, lk_tmp, lk_scr, lk_obj, lk_objo, lk_deep, looks_nil, looks_cons, D.stb, D.canFz, D.frz, D.isFz, D.isNon, stbs, getO, pN, sStore, sAug, sAugS, Option.bind_some, Option.map_some, Option.bind_none, Option.map_none, List.nil_append, List.cons_append, Bool.and_true, Bool.true_and, Bool.or_true, Bool.true_or, Bool.and_false, Bool.false_and, Bool.or_false, Bool.false_or, Bool.not_true, Bool.not_false, if_true, if_false, Bool.false_eq_true, reduceIte, List.all_cons, List.all_nil, decide_true, decide_false, List.map_cons, ix_seq', at0, at1, sub_int, ix0])]
    rw [seq_next (ρ' := [planF m q fs, .int n, .int s, .int m, .int (n % m + 1), .own ((spots m q fs).map .int), .own ((dueC m q n fs).map .int), .unset, .unset, .unset, .unset]) (by simp only [frameD, pick, Nat.sub_self, List.replicate_zero, sSeq, sNil, sSet, sRet, sRetN, sExpr, sIf, sBrk, sCont, sNever, f_eV, f_eMv, f_eFz, f_eC, f_eOp, f_eAnd, f_eOr, f_eNot, f_eIf, f_tru1, f_eCh, f_eFr, f_eAndV, f_eOrV, f_eK, f_eNx, f_eMut, evs_nil, evs_cons, pu_eC, pu_eV, pu_eOp, pu_eK, pu_eFr, pus_nil, pus_cons, getD_0, getD_S, un_un, un_non, un_bl, un_int, un_str, un_seq, un_obj, un_deep, un_fn, un_ty, give, truth, oNot, cLt_d, cLe_d, cGt_d, cGe_d, oNotV, oNeg, D.isTupK, D.isLst, isObj, sFld, putD, Out.bind_ok, Out.bind_exc, Out.bind_stuck, give_some, give_none, List.replicate, List.length_cons, List.length_nil, List.set_cons_zero, List.set_cons_succ, List.getElem?_cons_zero, List.getElem?_cons_succ, List.getElem?_nil, lk_non, lk_bl, lk_int, lk_str, lk_fz, lk_bor, lk_own, lk_tmp, lk_scr, lk_obj, lk_objo, lk_deep, looks_nil, looks_cons, D.stb, D.canFz, D.frz, D.isFz, D.isNon, stbs, getO, pN, sStore, sAug, sAugS, Option.bind_some, Option.map_some, Option.bind_none, Option.map_none, List.nil_append, List.cons_append, Bool.and_true, Bool.true_and, Bool.or_true, Bool.true_or, Bool.and_false, Bool.false_and, Bool.or_false, Bool.false_or, Bool.not_true, Bool.not_false, if_true, if_false, Bool.false_eq_true, reduceIte, List.all_cons, List.all_nil, decide_true, decide_false, c2])]
    rw [seq_next (ρ' := [planF m q fs, .int n, .int s, .int m, .int (n % m + 1), .own ((spots m q fs).map .int), .own ((dueC m q n fs).map .int), .int (begC m q n fs), .unset, .unset, .unset]) (by simp only [frameD, pick, Nat.sub_self, List.replicate_zero, sSeq, sNil, sSet, sRet, sRetN, sExpr, sIf, sBrk, sCont, sNever, f_eV, f_eMv, f_eFz, f_eC, f_eOp, f_eAnd, f_eOr, f_eNot, f_eIf, f_tru1, f_eCh, f_eFr, f_eAndV, f_eOrV, f_eK, f_eNx, f_eMut, evs_nil, evs_cons, pu_eC, pu_eV, pu_eOp, pu_eK, pu_eFr, pus_nil, pus_cons, getD_0, getD_S, un_un, un_non, un_bl, un_int, un_str, un_seq, un_obj, un_deep, un_fn, un_ty, give, truth, oNot, cLt_d, cLe_d, cGt_d, cGe_d, oNotV, oNeg, D.isTupK, D.isLst, isObj, sFld, putD, Out.bind_ok, Out.bind_exc, Out.bind_stuck, give_some, give_none, List.replicate, List.length_cons, List.length_nil, List.set_cons_zero, List.set_cons_succ, List.getElem?_cons_zero, List.getElem?_cons_succ, List.getElem?_nil, lk_non, lk_bl, lk_int, lk_str, lk_fz, lk_bor, lk_own, lk_tmp, lk_scr, lk_obj, lk_objo, lk_deep, looks_nil, looks_cons, D.stb, D.canFz, D.frz, D.isFz, D.isNon, stbs, getO, pN, sStore, sAug, sAugS, Option.bind_some, Option.map_some, Option.bind_none, Option.map_none, List.nil_append, List.cons_append, Bool.and_true, Bool.true_and, Bool.or_true, Bool.true_or, Bool.and_false, Bool.false_and, Bool.or_false, Bool.false_or, Bool.not_true, Bool.not_false, if_true, if_false, Bool.false_eq_true, reduceIte, List.all_cons, List.all_nil, decide_true, decide_false, c3, e7])]
    rw [seq_next (ρ' := [planF m q fs, .int n, .int s, .int m, .int (n % m + 1), .own ((spots m q fs).map .int), .own ((dueC m q n fs).map .int), .int (begC m q n fs), .tup [.int m, .int q, .tup (fs.map .int), .int (fs.length : Nat), .tup ((spots m q fs).map .int), .int ((s - 1) % m + 1)], .unset, .unset]) (by
      unfold planF at d2 ⊢
      simp only [frameD, pick, Nat.sub_self, List.replicate_zero, sSeq, sNil, sSet, sRet, sRetN, sExpr, sIf, sBrk, sCont, sNever, f_eV, f_eMv, f_eFz, f_eC, f_eOp, f_eAnd, f_eOr, f_eNot, f_eIf, f_tru1, f_eCh, f_eFr, f_eAndV, f_eOrV, f_eK, f_eNx, f_eMut, evs_nil, evs_cons, pu_eC, pu_eV, pu_eOp, pu_eK, pu_eFr, pus_nil, pus_cons, getD_0, getD_S, un_un, un_non, un_bl, un_int, un_str, un_seq, un_obj, un_deep, un_fn, un_ty, give, truth, oNot, cLt_d, cLe_d, cGt_d, cGe_d, oNotV, oNeg, D.isTupK, D.isLst, isObj, sFld, putD, Out.bind_ok, Out.bind_exc, Out.bind_stuck, give_some, give_none, List.replicate, List.length_cons, List.length_nil, List.set_cons_zero, List.set_cons_succ, List.getElem?_cons_zero, List.getElem?_cons_succ, List.getElem?_nil, lk_non, lk_bl, lk_int, lk_str, lk_fz, lk_bor, lk_own, lk_tmp, lk_scr, lk_obj, lk_objo, lk_deep, looks_nil, looks_cons, D.stb, D.canFz, D.frz, D.isFz, D.isNon, stbs, getO, pN, sStore, sAug, sAugS, Option.bind_some, Option.map_some, Option.bind_none, Option.map_none, List.nil_append, List.cons_append, Bool.and_true, Bool.true_and, Bool.or_true, Bool.true_or, Bool.and_false, Bool.false_and, Bool.or_false, Bool.false_or, Bool.not_true, Bool.not_false, if_true, if_false, Bool.false_eq_true, reduceIte, List.all_cons, List.all_nil, decide_true, decide_false, d2, ix_seq', at1, at2, oTupOf, len_seq, List.length_map, oTup, List.map_cons, List.map_nil]
      rfl)]
    unfold planF
    simp only [frameD, pick, Nat.sub_self, List.replicate_zero, sSeq, sNil, sSet, sRet, sRetN, sExpr, sIf, sBrk, sCont, sNever, f_eV, f_eMv, f_eFz, f_eC, f_eOp, f_eAnd, f_eOr, f_eNot, f_eIf, f_tru1, f_eCh, f_eFr, f_eAndV, f_eOrV, f_eK, f_eNx, f_eMut, evs_nil, evs_cons, pu_eC, pu_eV, pu_eOp, pu_eK, pu_eFr, pus_nil, pus_cons, getD_0, getD_S, un_un, un_non, un_bl, un_int, un_str, un_seq, un_obj, un_deep, un_fn, un_ty, give, truth, oNot, cLt_d, cLe_d, cGt_d, cGe_d, oNotV, oNeg, D.isTupK, D.isLst, isObj, sFld, putD, Out.bind_ok, Out.bind_exc, Out.bind_stuck, give_some, give_none, List.replicate, List.length_cons, List.length_nil, List.set_cons_zero, List.set_cons_succ, List.getElem?_cons_zero, List.getElem?_cons_succ, List.getElem?_nil, lk_non, lk_bl, lk_int, lk_str, lk_fz, lk_bor, lk_own, lk_tmp, lk_scr, lk_obj, lk_objo, lk_deep, looks_nil, looks_cons, D.stb, D.canFz, D.frz, D.isFz, D.isNon, stbs, getO, pN, sStore, sAug, sAugS, Option.bind_some, Option.map_some, Option.bind_none, Option.map_none, List.nil_append, List.cons_append, Bool.and_true, Bool.true_and, Bool.or_true, Bool.true_or, Bool.and_false, Bool.false_and, Bool.or_false, Bool.false_or, Bool.not_true, Bool.not_false, if_true, if_false, Bool.false_eq_true, reduceIte, List.all_cons, List.all_nil, decide_true, decide_false, fdiv_int (i := n) (j := m) (by omega) (wide_of (by omega) (by omega)), oTupOf, oTup, List.map_cons, List.map_nil]
    unfold told
    rw [← due_eq hm, ← beg_eq hm]
    rfl
  unfold f_law_due_numbers
  rw [fn_ret h rfl]
  rfl
end
end Law

/-! k00: the law -/
namespace Law
open Ev
theorem plan_stb (m q : Int) (fs : List Int) : (plan m q fs).stb = true := rfl
theorem plan_can (m q : Int) (fs : List Int) : (plan m q fs).canFz = true := rfl
theorem plan_frz (m q : Int) (fs : List Int) : (plan m q fs).frz = planF m q fs := rfl
theorem setD_same {ρ : List D} {i : Nat} {d : D} (h : ρ[i]? = some d) : ρ.set i d = ρ := by
  obtain ⟨hi, e⟩ := List.getElem?_eq_some_iff.mp h
  rw [← e]
  exact List.set_getElem_self hi
/-- the lists given to the depots are changed -/
theorem given_ok {ρ : List D} {k : Nat} {G : List (List Int)} (hk : k < G.length) (hG : ρ[5]? = some (.deep .own (G.map gD))) (h7 : ρ[7]? = some (.int (k : Int))) (hne : ∀ g ∈ G, g ≠ []) (hl : ∀ g ∈ G, g.length ≤ 1000) :
    ∃ G' : List (List Int), sSeq (sIf (eOp oEq [eOp oIx [eOp oIx [eV 5, eV 7], eC (.int 0)], eC (.int 1)]) (sExpr (eMut (pD 5 (eV 7)) mAppend [eC (.int 1)])) (sNil)) (sStore (pD 5 (eV 7)) (eOp oAdd [eC (.int 1), eOp oMod [eOp oInt [eOp oIx [eOp oIx [eV 5, eV 7], eC (.int 0)]], eC (.int 8)]]) (eC (.int 0))) ρ = .ok (.next, ρ.set 5 (.deep .own (G'.map gD))) ∧
      G'.length = G.length ∧ (∀ g ∈ G', g ≠ []) ∧ ∀ (b : Nat), (∀ g ∈ G, g.length ≤ b) → ∀ g ∈ G', g.length ≤ b + 1 := by
  have hz : PySem.sizeLine = 16777216 := PySem.sizeLine_eq
  have h5 : 5 < ρ.length := (List.getElem?_eq_some_iff.mp hG).1
  have v7 : (eV 7).f ρ = .ok (.int (k : Int), ρ) := eV_at h7 rfl
  have ix := ixD_ok hG v7 rfl hk
  obtain ⟨h, tl, hg⟩ : ∃ h tl, G[k] = h :: tl := List.exists_cons_of_ne_nil (hne _ (List.getElem_mem hk))
  have c1 : oIx [gT G[k], .int 0] = some (.int h) := by
    rw [hg]
    exact at0 (D.int h) (tl.map .int)
  have gstb : ((gT G[k]).stb || pus [eC (.int 0)]) = true := rfl
  have ix0' : (eOp oIx [eOp oIx [eV 5, eV 7], eC (.int 0)]).f ρ = .ok (.int h, ρ) := by
    rw [f_eOp, evs_cons, ix, Out.bind_ok]
    dsimp only
    rw [if_pos gstb, evs_cons, f_eC, Out.bind_ok]
    dsimp only
    rw [if_pos (by rfl), evs_nil, Out.bind_ok, Out.bind_ok, Out.bind_ok]
    dsimp only
    rw [c1]
    rfl
  have aD := atD_ok hG v7 hk
  -- the first step
  have first : ∃ G1 : List (List Int), sIf (eOp oEq [eOp oIx [eOp oIx [eV 5, eV 7], eC (.int 0)], eC (.int 1)]) (sExpr (eMut (pD 5 (eV 7)) mAppend [eC (.int 1)])) (sNil) ρ = .ok (.next, ρ.set 5 (.deep .own (G1.map gD))) ∧ G1.length = G.length ∧ (∀ g ∈ G1, g ≠ []) ∧ ∀ (b : Nat), (∀ g ∈ G, g.length ≤ b) → ∀ g ∈ G1, g.length ≤ b + 1 := by
    have e0 : (eOp oEq [eOp oIx [eOp oIx [eV 5, eV 7], eC (.int 0)], eC (.int 1)]).f ρ = .ok (.bl (h == 1), ρ) := by
      rw [f_eOp, evs_cons, ix0', Out.bind_ok]
      dsimp only
      rw [if_pos (by rfl), evs_cons, f_eC, Out.bind_ok]
      dsimp only
      rw [if_pos (by rfl), evs_nil, Out.bind_ok, Out.bind_ok, Out.bind_ok]
      dsimp only
      rw [eq_int]
      rfl
    by_cases c : h = 1
    · refine ⟨G.set k (G[k] ++ [1]), ?_, List.length_set, fun g hg' => ?_, fun b hb g hg' => ?_⟩
      · have e1 : (eMut (pD 5 (eV 7)) mAppend [eC (.int 1)]).f ρ = .ok (.non, ρ.set 5 (.deep .own ((G.set k (G[k] ++ [1])).map gD))) := by
          have g1 : (pD 5 (eV 7)).get ρ = some (G[k].map .int) := by
            show (atD 5 (eV 7) ρ).map (·.2.2) = _
            rw [aD]
            rfl
          rw [f_eMut, g1]
          dsimp only
          rw [if_pos (by rfl), evs_cons, f_eC, Out.bind_ok]
          dsimp only
          rw [if_pos (by rfl), evs_nil, Out.bind_ok, Out.bind_ok]
          dsimp only
          rw [g1]
          dsimp only
          have ma : mAppend (G[k].map .int) [.int 1] = some (.non, (G[k] ++ [1]).map .int) := by
            show (if ((D.int 1).canFz && decide ((G[k].map D.int).length < PySem.sizeLine)) = true then some (D.non, G[k].map D.int ++ [(D.int 1).frz]) else none) = _
            have := hl _ (List.getElem_mem hk)
            rw [if_pos (by rw [Bool.and_eq_true]; exact ⟨rfl, decide_eq_true (by rw [List.length_map]; omega)⟩), List.map_append]
            rfl
          rw [ma]
          dsimp only
          show Out.ok (D.non, (match atD 5 (eV 7) ρ with | some (ds, n, _) => ρ.set 5 (.deep .own (ds.set n (.own ((G[k] ++ [1]).map .int)))) | none => ρ)) = _
          rw [aD]
          dsimp only
          rw [set_map]
        subst c
        show ((eOp oEq [eOp oIx [eOp oIx [eV 5, eV 7], eC (.int 0)], eC (.int 1)]).f ρ).bind _ = _
        rw [e0, Out.bind_ok]
        show sExpr (eMut (pD 5 (eV 7)) mAppend [eC (.int 1)]) ρ = _
        show ((eMut (pD 5 (eV 7)) mAppend [eC (.int 1)]).f ρ).bind _ = _
        rw [e1]
        rfl
      · rcases List.mem_or_eq_of_mem_set hg' with z | z
        · exact hne g z
        · rw [z]; simp
      · rcases List.mem_or_eq_of_mem_set hg' with z | z
        · exact Nat.le_succ_of_le (hb g z)
        · rw [z, List.length_append]; exact Nat.succ_le_succ (hb _ (List.getElem_mem hk))
    · refine ⟨G, ?_, rfl, hne, fun b hb g hg' => Nat.le_succ_of_le (hb g hg')⟩
      have c' : (h == 1) = false := beq_eq_false_iff_ne.mpr c
      show ((eOp oEq [eOp oIx [eOp oIx [eV 5, eV 7], eC (.int 0)], eC (.int 1)]).f ρ).bind _ = _
      rw [e0, Out.bind_ok, c']
      show Out.ok (Fl.next, ρ) = _
      rw [setD_same hG]
  obtain ⟨G1, e1, l1, n1, b1⟩ := first
  have hk1 : k < G1.length := by omega
  have hG1 : (ρ.set 5 (.deep .own (G1.map gD)))[5]? = some (.deep .own (G1.map gD)) := List.getElem?_set_self h5
  have h71 : (ρ.set 5 (.deep .own (G1.map gD)))[7]? = some (.int (k : Int)) := by rw [List.getElem?_set_ne (by decide)]; exact h7
  have v71 : (eV 7).f (ρ.set 5 (.deep .own (G1.map gD))) = .ok (.int (k : Int), ρ.set 5 (.deep .own (G1.map gD))) := eV_at h71 rfl
  have ix1 := ixD_ok hG1 v71 rfl hk1
  have aD1 := atD_ok hG1 v71 hk1
  obtain ⟨h', tl', hg1⟩ : ∃ h tl, G1[k] = h :: tl := List.exists_cons_of_ne_nil (n1 _ (List.getElem_mem hk1))
  have c11 : oIx [gT G1[k], .int 0] = some (.int h') := by
    rw [hg1]
    exact at0 (D.int h') (tl'.map .int)
  have gstb1 : ((gT G1[k]).stb || pus [eC (.int 0)]) = true := rfl
  have ev : (eOp oAdd [eC (.int 1), eOp oMod [eOp oInt [eOp oIx [eOp oIx [eV 5, eV 7], eC (.int 0)]], eC (.int 8)]]).f (ρ.set 5 (.deep .own (G1.map gD))) = .ok (.int (1 + h' % 8), ρ.set 5 (.deep .own (G1.map gD))) := by
    have i0 : (eOp oIx [eOp oIx [eV 5, eV 7], eC (.int 0)]).f (ρ.set 5 (.deep .own (G1.map gD))) = .ok (.int h', ρ.set 5 (.deep .own (G1.map gD))) := by
      rw [f_eOp, evs_cons, ix1, Out.bind_ok]
      dsimp only
      rw [if_pos gstb1, evs_cons, f_eC, Out.bind_ok]
      dsimp only
      rw [if_pos (by rfl), evs_nil, Out.bind_ok, Out.bind_ok, Out.bind_ok]
      dsimp only
      rw [c11]
      rfl
    generalize ρ.set 5 (.deep .own (G1.map gD)) = ρ1 at i0 ⊢
    generalize hX : eOp oIx [eOp oIx [eV 5, eV 7], eC (.int 0)] = X at i0 ⊢
    simp only [frameD, pick, Nat.sub_self, List.replicate_zero, sSeq, sNil, sSet, sRet, sRetN, sExpr, sIf, sBrk, sCont, sNever, f_eV, f_eMv, f_eFz, f_eC, f_eOp, f_eAnd, f_eOr, f_eNot, f_eIf, f_tru1, f_eCh, f_eFr, f_eAndV, f_eOrV, f_eK, f_eNx, f_eMut, evs_nil, evs_cons, pu_eC, pu_eV, pu_eOp, pu_eK, pu_eFr, pus_nil, pus_cons, getD_0, getD_S, un_un, un_non, un_bl, un_int, un_str, un_seq, un_obj, un_deep, un_fn, un_ty, give, truth, oNot, cLt_d, cLe_d, cGt_d, cGe_d, oNotV, oNeg, D.isTupK, D.isLst, isObj, sFld, putD, Out.bind_ok, Out.bind_exc, Out.bind_stuck, give_some, give_none, List.replicate, List.length_cons, List.length_nil, List.set_cons_zero, List.set_cons_succ, List.getElem?_cons_zero, List.getElem?_cons_succ, List.getElem?_nil, lk_non, lk_bl, lk_int, lk_str, lk_fz, lk_bor, lk_own, lk_tmp, lk_scr, lk_obj, lk_objo, lk_deep, looks_nil, looks_cons, D.stb, D.canFz, D.frz, D.isFz, D.isNon, stbs, getO, pN, sStore, sAug, sAugS, Option.bind_some, Option.map_some, Option.bind_none, Option.map_none, List.nil_append, List.cons_append, Bool.and_true, Bool.true_and, Bool.or_true, Bool.true_or, Bool.and_false, Bool.false_and, Bool.or_false, Bool.false_or, Bool.not_true, Bool.not_false, if_true, if_false, Bool.false_eq_true, reduceIte, List.all_cons, List.all_nil, decide_true, decide_false, i0, int_int, mod_int (j := 8) (by decide), add_int]
  refine ⟨G1.set k ((1 + h' % 8) :: tl'), ?_, by rw [List.length_set, l1], fun g hg' => ?_, fun b hb g hg' => ?_⟩
  · rw [seq_next e1]
    show ((eOp oAdd [eC (.int 1), eOp oMod [eOp oInt [eOp oIx [eOp oIx [eV 5, eV 7], eC (.int 0)]], eC (.int 8)]]).f (ρ.set 5 (.deep .own (G1.map gD)))).bind _ = _
    rw [ev, Out.bind_ok]
    have g1 : (pD 5 (eV 7)).get (ρ.set 5 (.deep .own (G1.map gD))) = some (G1[k].map .int) := by
      show (atD 5 (eV 7) _).map (·.2.2) = _
      rw [aD1]
      rfl
    dsimp only
    rw [if_pos (by rfl), g1]
    dsimp only
    rw [if_pos (by rfl), f_eC, Out.bind_ok]
    dsimp only
    rw [g1]
    dsimp only
    rw [hg1, List.map_cons, List.length_cons, ix0]
    dsimp only
    show Out.ok (Fl.next, (match atD 5 (eV 7) (ρ.set 5 (.deep .own (G1.map gD))) with | some (ds, n, _) => (ρ.set 5 (.deep .own (G1.map gD))).set 5 (.deep .own (ds.set n (.own (((1 + h' % 8) :: tl').map .int)))) | none => ρ.set 5 (.deep .own (G1.map gD)))) = _
    rw [aD1]
    dsimp only
    rw [set_map, List.set_set]
  · rcases List.mem_or_eq_of_mem_set hg' with z | z
    · exact n1 g z
    · rw [z]; simp
  · rcases List.mem_or_eq_of_mem_set hg' with z | z
    · exact b1 b hb g z
    · rw [z]
      have := b1 b hb _ (List.getElem_mem hk1)
      rw [hg1] at this
      exact this
end Law

/-! k00: the law, joined -/
namespace Law
open Ev
section
variable {ns : List Int} {PL SP ST DP u7 u8 u9 u10 u11 : D} {p : Pool} {G : List (List Int)}
/-- the law's names -/
def LS (ns : List Int) (p : Pool) (PL SP ST : D) (G : List (List Int)) (DP u7 u8 u9 u10 u11 : D) : List D := [.seq false .scr (ns.map .int), p.d, PL, SP, ST, .deep .own (G.map gD), DP, u7, u8, u9, u10, u11]
theorem told_can (m q n s : Int) (fs : List Int) : (told m q n s fs).canFz = true := rfl
theorem told_frz (m q n s : Int) (fs : List Int) : (told m q n s fs).frz = told m q n s fs := rfl
theorem told_px (m q n s : Int) (fs : List Int) : passX false (told m q n s fs) = some (told m q n s fs) := rfl
theorem told_stb (m q n s : Int) (fs : List Int) : (told m q n s fs).stb = true := rfl
theorem same_told {m q n s : Int} {fs : List Int} (hd : DepOk m q fs) : f_law_same 4 [told m q n s fs, told m q n s fs] = .ok (.bl true, []) := by
  have n12 := hd.n12
  have sl := spots_len (q := q) (fs := fs) hd.m1
  have m8 := hd.m8
  refine same_seq 3 true _ (fun d h => ?_) (by show 10 ≤ 1000000; decide)
  have ti : ∀ is : List Int, is.length ≤ 1000 → Same 3 (.tup (is.map .int)) ∧ (D.tup (is.map .int)).isFz = true := fun is hl => ⟨same_ints 1 true is (by omega), rfl⟩
  have ii : ∀ i : Int, Same 3 (.int i) ∧ (D.int i).isFz = true := fun i => ⟨same_int 2 i, rfl⟩
  rcases List.mem_cons.mp h with h | h
  · rw [h]; exact ii _
  rcases List.mem_cons.mp h with h | h
  · rw [h]; exact ii _
  rcases List.mem_cons.mp h with h | h
  · rw [h]; exact ti _ (by omega)
  rcases List.mem_cons.mp h with h | h
  · rw [h]; exact ii _
  rcases List.mem_cons.mp h with h | h
  · rw [h]; exact ti _ (by omega)
  rcases List.mem_cons.mp h with h | h
  · rw [h]; exact ii _
  rcases List.mem_cons.mp h with h | h
  · rw [h]; exact ii _
  rcases List.mem_cons.mp h with h | h
  · rw [h]; exact ii _
  rcases List.mem_cons.mp h with h | h
  · rw [h]; exact ti _ (by unfold dueL; rw [List.length_set]; omega)
  rcases List.mem_cons.mp h with h | h
  · rw [h]; exact ii _
  · cases h
def stepB : Blk := (sSeq (sSet 7 (eFr (eOp oIx [eV 8, eC (.int 0)]))) (sSeq (sSet 9 (eFr (eOp oIx [eV 3, eOp oIx [eV 8, eC (.int 1)]]))) (sSeq (sSet 10 (eFr (eOp oIx [eV 4, eOp oIx [eV 8, eC (.int 1)]]))) (sSeq (sSet 11 (eFr (eCall f_law_due_numbers [.ex (eOp oIx [eV 2, eV 7]), .ex (eV 9), .ex (eV 10)]))) (sSeq (sIf (eNot (tru1 (eCall (f_law_same 4) [.ex (eFr (eCall f_law_told_numbers [.ex (eOp oIx [eV 6, eV 7]), .ex (eV 9), .ex (eV 10)])), .ex (eV 11)]))) (sRet (eC (.bl false))) (sNil)) (sSeq (sIf (eOp oEq [eOp oIx [eOp oIx [eV 5, eV 7], eC (.int 0)], eC (.int 1)]) (sExpr (eMut (pD 5 (eV 7)) mAppend [eC (.int 1)])) (sNil)) (sStore (pD 5 (eV 7)) (eOp oAdd [eC (.int 1), eOp oMod [eOp oInt [eOp oIx [eOp oIx [eV 5, eV 7], eC (.int 0)]], eC (.int 8)]]) (eC (.int 0)))))))))
theorem body_ok {k j : Nat} {m q n s : Int} {fs : List Int} {pls sps sts dps : List D} (hd : DepOk m q fs) (h0 : 0 ≤ n) (h1 : n ≤ 10 ^ 30) (hs : 1 ≤ s) (hk : k < G.length) (e1 : pls[k]? = some (planF m q fs)) (e2 : sps[j]? = some (.int n)) (e3 : sts[j]? = some (.int s)) (e4 : dps[k]? = some (depotD m q fs))
    (hne : ∀ g ∈ G, g ≠ []) (hl : ∀ g ∈ G, g.length ≤ 1000) :
    ∃ (G' : List (List Int)), stepB
      (LS ns p (.lst pls) (.lst sps) (.own sts) G (.own dps) u7 (.tup [.int (k : Int), .int (j : Int)]) u9 u10 u11) = .ok (.next, LS ns p (.lst pls) (.lst sps) (.own sts) G' (.own dps) (.int (k : Int)) (.tup [.int (k : Int), .int (j : Int)]) (.int n) (.int s) (told m q n s fs)) ∧
      G'.length = G.length ∧ (∀ g ∈ G', g ≠ []) ∧ ∀ (b : Nat), (∀ g ∈ G, g.length ≤ b) → ∀ g ∈ G', g.length ≤ b + 1 := by
  have a1 : L2.atI pls (k : Int) = some (planF m q fs) := by rw [at_nat, e1]
  have a2 : L2.atI sps (j : Int) = some (.int n) := by rw [at_nat, e2]
  have a3 : L2.atI sts (j : Int) = some (.int s) := by rw [at_nat, e3]
  have a4 : L2.atI dps (k : Int) = some (depotD m q fs) := by rw [at_nat, e4]
  have plx : passX false (planF m q fs) = some (planF m q fs) := rfl
  have pls' : (planF m q fs).stb = true := rfl
  obtain ⟨G', g1, g2, g3, g4⟩ := given_ok (ρ := LS ns p (.lst pls) (.lst sps) (.own sts) G (.own dps) (.int (k : Int)) (.tup [.int (k : Int), .int (j : Int)]) (.int n) (.int s) (told m q n s fs)) hk rfl rfl hne hl
  refine ⟨G', ?_, g2, g3, g4⟩
  unfold stepB
  rw [seq_next (ρ' := LS ns p (.lst pls) (.lst sps) (.own sts) G (.own dps) (.int (k : Int)) (.tup [.int (k : Int), .int (j : Int)]) u9 u10 u11) (by unfold LS; simp only [frameD, pick, Nat.sub_self, List.replicate_zero, sSeq, sNil, sSet, sRet, sRetN, sExpr, sIf, sBrk, sCont, sNever, f_eV, f_eMv, f_eFz, f_eC, f_eOp, f_eAnd, f_eOr, f_eNot, f_eIf, f_tru1, f_eCh, f_eFr, f_eAndV, f_eOrV, f_eK, f_eNx, f_eMut, evs_nil, evs_cons, pu_eC, pu_eV, pu_eOp, pu_eK, pu_eFr, pus_nil, pus_cons, getD_0, getD_S, un_un, un_non, un_bl, un_int, un_str, un_seq, un_obj, un_deep, un_fn, un_ty, give, truth, oNot, cLt_d, cLe_d, cGt_d, cGe_d, oNotV, oNeg, D.isTupK, D.isLst, isObj, sFld, putD, Out.bind_ok, Out.bind_exc, Out.bind_stuck, give_some, give_none, List.replicate, List.length_cons, List.length_nil, List.set_cons_zero, List.set_cons_succ, List.getElem?_cons_zero, List.getElem?_cons_succ, List.getElem?_nil, lk_non, lk_bl, lk_int, lk_str, lk_fz, lk_bor, lk_own, lk_tmp, lk_scr, lk_obj, lk_objo, lk_deep, looks_nil, looks_cons, D.stb, D.canFz, D.frz, D.isFz, D.isNon, stbs, getO, pN, sStore, sAug, sAugS, Option.bind_some, Option.map_some, Option.bind_none, Option.map_none, List.nil_append, List.cons_append, Bool.and_true, Bool.true_and, Bool.or_true, Bool.true_or, Bool.and_false, Bool.false_and, Bool.or_false, Bool.false_or, Bool.not_true, Bool.not_false, if_true, if_false, Bool.false_eq_true, reduceIte, List.all_cons, List.all_nil, decide_true, decide_false, ix_seq', at0])]
  rw [seq_next (ρ' := LS ns p (.lst pls) (.lst sps) (.own sts) G (.own dps) (.int (k : Int)) (.tup [.int (k : Int), .int (j : Int)]) (.int n) u10 u11) (by unfold LS; simp only [frameD, pick, Nat.sub_self, List.replicate_zero, sSeq, sNil, sSet, sRet, sRetN, sExpr, sIf, sBrk, sCont, sNever, f_eV, f_eMv, f_eFz, f_eC, f_eOp, f_eAnd, f_eOr, f_eNot, f_eIf, f_tru1, f_eCh, f_eFr, f_eAndV, f_eOrV, f_eK, f_eNx, f_eMut, evs_nil, evs_cons, pu_eC, pu_eV, pu_eOp, pu_eK, pu_eFr, pus_nil, pus_cons, getD_0, getD_S, un_un, un_non, un_bl, un_int, un_str, un_seq, un_obj, un_deep, un_fn, un_ty, give, truth, oNot, cLt_d, cLe_d, cGt_d, cGe_d, oNotV, oNeg, D.isTupK, D.isLst, isObj, sFld, putD, Out.bind_ok, Out.bind_exc, Out.bind_stuck, give_some, give_none, List.replicate, List.length_cons, List.length_nil, List.set_cons_zero, List.set_cons_succ, List.getElem?_cons_zero, List.getElem?_cons_succ, List.getElem?_nil, lk_non, lk_bl, lk_int, lk_str, lk_fz, lk_bor, lk_own, lk_tmp, lk_scr, lk_obj, lk_objo, lk_deep, looks_nil, looks_cons, D.stb, D.canFz, D.frz, D.isFz, D.isNon, stbs, getO, pN, sStore, sAug, sAugS, Option.bind_some, Option.map_some, Option.bind_none, Option.map_none, List.nil_append, List.cons_append, Bool.and_true, Bool.true_and, Bool.or_true, Bool.true_or, Bool.and_false, Bool.false_and, Bool.or_false, Bool.false_or, Bool.not_true, Bool.not_false, if_true, if_false, Bool.false_eq_true, reduceIte, List.all_cons, List.all_nil, decide_true, decide_false, ix_seq', at1, a2])]
  rw [seq_next (ρ' := LS ns p (.lst pls) (.lst sps) (.own sts) G (.own dps) (.int (k : Int)) (.tup [.int (k : Int), .int (j : Int)]) (.int n) (.int s) u11) (by unfold LS; simp only [frameD, pick, Nat.sub_self, List.replicate_zero, sSeq, sNil, sSet, sRet, sRetN, sExpr, sIf, sBrk, sCont, sNever, f_eV, f_eMv, f_eFz, f_eC, f_eOp, f_eAnd, f_eOr, f_eNot, f_eIf, f_tru1, f_eCh, f_eFr, f_eAndV, f_eOrV, f_eK, f_eNx, f_eMut, evs_nil, evs_cons, pu_eC, pu_eV, pu_eOp, pu_eK, pu_eFr, pus_nil, pus_cons, getD_0, getD_S, un_un, un_non, un_bl, un_int, un_str, un_seq, un_obj, un_deep, un_fn, un_ty, give, truth, oNot, cLt_d, cLe_d, cGt_d, cGe_d, oNotV, oNeg, D.isTupK, D.isLst, isObj, sFld, putD, Out.bind_ok, Out.bind_exc, Out.bind_stuck, give_some, give_none, List.replicate, List.length_cons, List.length_nil, List.set_cons_zero, List.set_cons_succ, List.getElem?_cons_zero, List.getElem?_cons_succ, List.getElem?_nil, lk_non, lk_bl, lk_int, lk_str, lk_fz, lk_bor, lk_own, lk_tmp, lk_scr, lk_obj, lk_objo, lk_deep, looks_nil, looks_cons, D.stb, D.canFz, D.frz, D.isFz, D.isNon, stbs, getO, pN, sStore, sAug, sAugS, Option.bind_some, Option.map_some, Option.bind_none, Option.map_none, List.nil_append, List.cons_append, Bool.and_true, Bool.true_and, Bool.or_true, Bool.true_or, Bool.and_false, Bool.false_and, Bool.or_false, Bool.false_or, Bool.not_true, Bool.not_false, if_true, if_false, Bool.false_eq_true, reduceIte, List.all_cons, List.all_nil, decide_true, decide_false, ix_seq', at1, a3])]
  rw [seq_next (ρ' := LS ns p (.lst pls) (.lst sps) (.own sts) G (.own dps) (.int (k : Int)) (.tup [.int (k : Int), .int (j : Int)]) (.int n) (.int s) (told m q n s fs)) (by
    have c : (eCall f_law_due_numbers [.ex (eOp oIx [eV 2, eV 7]), .ex (eV 9), .ex (eV 10)]).f (LS ns p (.lst pls) (.lst sps) (.own sts) G (.own dps) (.int (k : Int)) (.tup [.int (k : Int), .int (j : Int)]) (.int n) (.int s) u11) = .ok (told m q n s fs, LS ns p (.lst pls) (.lst sps) (.own sts) G (.own dps) (.int (k : Int)) (.tup [.int (k : Int), .int (j : Int)]) (.int n) (.int s) u11) :=
      callV3 (a := planF m q fs) (b := .int n) (c := .int s) (by unfold LS; simp only [frameD, pick, Nat.sub_self, List.replicate_zero, sSeq, sNil, sSet, sRet, sRetN, sExpr, sIf, sBrk, sCont, sNever, f_eV, f_eMv, f_eFz, f_eC, f_eOp, f_eAnd, f_eOr, f_eNot, f_eIf, f_tru1, f_eCh, f_eFr, f_eAndV, f_eOrV, f_eK, f_eNx, f_eMut, evs_nil, evs_cons, pu_eC, pu_eV, pu_eOp, pu_eK, pu_eFr, pus_nil, pus_cons, getD_0, getD_S, un_un, un_non, un_bl, un_int, un_str, un_seq, un_obj, un_deep, un_fn, un_ty, give, truth, oNot, cLt_d, cLe_d, cGt_d, cGe_d, oNotV, oNeg, D.isTupK, D.isLst, isObj, sFld, putD, Out.bind_ok, Out.bind_exc, Out.bind_stuck, give_some, give_none, List.replicate, List.length_cons, List.length_nil, List.set_cons_zero, List.set_cons_succ, List.getElem?_cons_zero, List.getElem?_cons_succ, List.getElem?_nil, lk_non, lk_bl, lk_int, lk_str, lk_fz, lk_bor, lk_own, lk_tmp, lk_scr, lk_obj, lk_objo, lk_deep, looks_nil, looks_cons, D.stb, D.canFz, D.frz, D.isFz, D.isNon, stbs, getO, pN, sStore, sAug, sAugS, Option.bind_some, Option.map_some, Option.bind_none, Option.map_none, List.nil_append, List.cons_append, Bool.and_true, Bool.true_and, Bool.or_true, Bool.true_or, Bool.and_false, Bool.false_and, Bool.or_false, Bool.false_or, Bool.not_true, Bool.not_false, if_true, if_false, Bool.false_eq_true, reduceIte, List.all_cons, List.all_nil, decide_true, decide_false, ix_seq', a1]) rfl rfl plx rfl rfl (dn_ok hd h0 h1) rfl rfl rfl
    unfold LS at c ⊢
    simp only [frameD, pick, Nat.sub_self, List.replicate_zero, sSeq, sNil, sSet, sRet, sRetN, sExpr, sIf, sBrk, sCont, sNever, f_eV, f_eMv, f_eFz, f_eC, f_eOp, f_eAnd, f_eOr, f_eNot, f_eIf, f_tru1, f_eCh, f_eFr, f_eAndV, f_eOrV, f_eK, f_eNx, f_eMut, evs_nil, evs_cons, pu_eC, pu_eV, pu_eOp, pu_eK, pu_eFr, pus_nil, pus_cons, getD_0, getD_S, un_un, un_non, un_bl, un_int, un_str, un_seq, un_obj, un_deep, un_fn, un_ty, give, truth, oNot, cLt_d, cLe_d, cGt_d, cGe_d, oNotV, oNeg, D.isTupK, D.isLst, isObj, sFld, putD, Out.bind_ok, Out.bind_exc, Out.bind_stuck, give_some, give_none, List.replicate, List.length_cons, List.length_nil, List.set_cons_zero, List.set_cons_succ, List.getElem?_cons_zero, List.getElem?_cons_succ, List.getElem?_nil, lk_non, lk_bl, lk_int, lk_str, lk_fz, lk_bor, lk_own, lk_tmp, lk_scr, lk_obj, lk_objo, lk_deep, looks_nil, looks_cons, D.stb, D.canFz, D.frz, D.isFz, D.isNon, stbs, getO, pN, sStore, sAug, sAugS, Option.bind_some, Option.map_some, Option.bind_none, Option.map_none, List.nil_append, List.cons_append, Bool.and_true, Bool.true_and, Bool.or_true, Bool.true_or, Bool.and_false, Bool.false_and, Bool.or_false, Bool.false_or, Bool.not_true, Bool.not_false, if_true, if_false, Bool.false_eq_true, reduceIte, List.all_cons, List.all_nil, decide_true, decide_false, c, told_can, told_frz, told_stb])]
  rw [seq_next (ρ' := LS ns p (.lst pls) (.lst sps) (.own sts) G (.own dps) (.int (k : Int)) (.tup [.int (k : Int), .int (j : Int)]) (.int n) (.int s) (told m q n s fs)) (by
    have c : (eCall f_law_told_numbers [.ex (eOp oIx [eV 6, eV 7]), .ex (eV 9), .ex (eV 10)]).f (LS ns p (.lst pls) (.lst sps) (.own sts) G (.own dps) (.int (k : Int)) (.tup [.int (k : Int), .int (j : Int)]) (.int n) (.int s) (told m q n s fs)) = .ok (told m q n s fs, LS ns p (.lst pls) (.lst sps) (.own sts) G (.own dps) (.int (k : Int)) (.tup [.int (k : Int), .int (j : Int)]) (.int n) (.int s) (told m q n s fs)) :=
      callV3 (a := depotD m q fs) (b := .int n) (c := .int s) (by unfold LS; simp only [frameD, pick, Nat.sub_self, List.replicate_zero, sSeq, sNil, sSet, sRet, sRetN, sExpr, sIf, sBrk, sCont, sNever, f_eV, f_eMv, f_eFz, f_eC, f_eOp, f_eAnd, f_eOr, f_eNot, f_eIf, f_tru1, f_eCh, f_eFr, f_eAndV, f_eOrV, f_eK, f_eNx, f_eMut, evs_nil, evs_cons, pu_eC, pu_eV, pu_eOp, pu_eK, pu_eFr, pus_nil, pus_cons, getD_0, getD_S, un_un, un_non, un_bl, un_int, un_str, un_seq, un_obj, un_deep, un_fn, un_ty, give, truth, oNot, cLt_d, cLe_d, cGt_d, cGe_d, oNotV, oNeg, D.isTupK, D.isLst, isObj, sFld, putD, Out.bind_ok, Out.bind_exc, Out.bind_stuck, give_some, give_none, List.replicate, List.length_cons, List.length_nil, List.set_cons_zero, List.set_cons_succ, List.getElem?_cons_zero, List.getElem?_cons_succ, List.getElem?_nil, lk_non, lk_bl, lk_int, lk_str, lk_fz, lk_bor, lk_own, lk_tmp, lk_scr, lk_obj, lk_objo, lk_deep, looks_nil, looks_cons, D.stb, D.canFz, D.frz, D.isFz, D.isNon, stbs, getO, pN, sStore, sAug, sAugS, Option.bind_some, Option.map_some, Option.bind_none, Option.map_none, List.nil_append, List.cons_append, Bool.and_true, Bool.true_and, Bool.or_true, Bool.true_or, Bool.and_false, Bool.false_and, Bool.or_false, Bool.false_or, Bool.not_true, Bool.not_false, if_true, if_false, Bool.false_eq_true, reduceIte, List.all_cons, List.all_nil, decide_true, decide_false, ix_seq', a4]) rfl rfl (passX_dep m q fs) rfl rfl (told_ok hd h0 h1 hs) rfl rfl rfl
    have c2 : (eCall (f_law_same 4) [.ex (eFr (eCall f_law_told_numbers [.ex (eOp oIx [eV 6, eV 7]), .ex (eV 9), .ex (eV 10)])), .ex (eV 11)]).f (LS ns p (.lst pls) (.lst sps) (.own sts) G (.own dps) (.int (k : Int)) (.tup [.int (k : Int), .int (j : Int)]) (.int n) (.int s) (told m q n s fs)) = .ok (.bl true, LS ns p (.lst pls) (.lst sps) (.own sts) G (.own dps) (.int (k : Int)) (.tup [.int (k : Int), .int (j : Int)]) (.int n) (.int s) (told m q n s fs)) :=
      callV2 (a := told m q n s fs) (b := told m q n s fs) (by rw [f_eFr, c, Out.bind_ok, if_pos (told_can m q n s fs), told_frz]) rfl (told_px m q n s fs) (told_px m q n s fs) (same_told hd) rfl rfl
    simp only [frameD, pick, Nat.sub_self, List.replicate_zero, sSeq, sNil, sSet, sRet, sRetN, sExpr, sIf, sBrk, sCont, sNever, f_eV, f_eMv, f_eFz, f_eC, f_eOp, f_eAnd, f_eOr, f_eNot, f_eIf, f_tru1, f_eCh, f_eFr, f_eAndV, f_eOrV, f_eK, f_eNx, f_eMut, evs_nil, evs_cons, pu_eC, pu_eV, pu_eOp, pu_eK, pu_eFr, pus_nil, pus_cons, getD_0, getD_S, un_un, un_non, un_bl, un_int, un_str, un_seq, un_obj, un_deep, un_fn, un_ty, give, truth, oNot, cLt_d, cLe_d, cGt_d, cGe_d, oNotV, oNeg, D.isTupK, D.isLst, isObj, sFld, putD, Out.bind_ok, Out.bind_exc, Out.bind_stuck, give_some, give_none, List.replicate, List.length_cons, List.length_nil, List.set_cons_zero, List.set_cons_succ, List.getElem?_cons_zero, List.getElem?_cons_succ, List.getElem?_nil, lk_non, lk_bl, lk_int, lk_str, lk_fz, lk_bor, lk_own, lk_tmp, lk_scr, lk_obj, lk_objo, lk_deep, looks_nil, looks_cons, D.stb, D.canFz, D.frz, D.isFz, D.isNon, stbs, getO, pN, sStore, sAug, sAugS, Option.bind_some, Option.map_some, Option.bind_none, Option.map_none, List.nil_append, List.cons_append, Bool.and_true, Bool.true_and, Bool.or_true, Bool.true_or, Bool.and_false, Bool.false_and, Bool.or_false, Bool.false_or, Bool.not_true, Bool.not_false, if_true, if_false, Bool.false_eq_true, reduceIte, List.all_cons, List.all_nil, decide_true, decide_false, c2])]
  rw [g1]
  rfl
end
end Law

/-! k00: the law's end -/
namespace Law
open Ev
theorem gD_one {ρ : List D} : True := trivial
/-- a Depot is made and kept -/
theorem mk_list {k : Nat} {m q : Int} {fs : List Int} {p : Pool} {pls sps sts dps : List D} {G : List (List Int)} {ns : List Int} {u8 u9 u10 u11 : D} (hd : DepOk m q fs) (hk : k < G.length) (hg : G[k] = fs) (e1 : pls[k]? = some (planF m q fs)) (hl : dps.length ≤ 1000) :
    sExpr (eMut (pN 6) mAppend [eMake "Depot" f_Depot__init [.ex (eOp oIx [eOp oIx [eV 2, eV 7], eC (.int 0)]), .ex (eOp oIx [eOp oIx [eV 2, eV 7], eC (.int 1)]), .ex (eOp oIx [eV 5, eV 7])]]) (LS ns p (.lst pls) (.lst sps) (.own sts) G (.own dps) (.int (k : Int)) u8 u9 u10 u11) = .ok (.next, LS ns p (.lst pls) (.lst sps) (.own sts) G (.own (dps ++ [depotD m q fs])) (.int (k : Int)) u8 u9 u10 u11) := by
  have hz : PySem.sizeLine = 16777216 := PySem.sizeLine_eq
  have a1 : L2.atI pls (k : Int) = some (planF m q fs) := by rw [at_nat, e1]
  have p1 : oIx [planF m q fs, .int 0] = some (.int m) := rfl
  have p2 : oIx [planF m q fs, .int 1] = some (.int q) := rfl
  have pst : (planF m q fs).stb = true := rfl
  have px := make3 (c := "Depot") (F := f_Depot__init) (x := eOp oIx [eOp oIx [eV 2, eV 7], eC (.int 0)]) (y := eOp oIx [eOp oIx [eV 2, eV 7], eC (.int 1)]) (z := eOp oIx [eV 5, eV 7]) (ρ := LS ns p (.lst pls) (.lst sps) (.own sts) G (.own dps) (.int (k : Int)) u8 u9 u10 u11) (a := .int m) (b := .int q) (e := gT G[k])
    (by unfold LS; simp only [frameD, pick, Nat.sub_self, List.replicate_zero, sSeq, sNil, sSet, sRet, sRetN, sExpr, sIf, sBrk, sCont, sNever, f_eV, f_eMv, f_eFz, f_eC, f_eOp, f_eAnd, f_eOr, f_eNot, f_eIf, f_tru1, f_eCh, f_eFr, f_eAndV, f_eOrV, f_eK, f_eNx, f_eMut, evs_nil, evs_cons, pu_eC, pu_eV, pu_eOp, pu_eK, pu_eFr, pus_nil, pus_cons, getD_0, getD_S, un_un, un_non, un_bl, un_int, un_str, un_seq, un_obj, un_deep, un_fn, un_ty, give, truth, oNot, cLt_d, cLe_d, cGt_d, cGe_d, oNotV, oNeg, D.isTupK, D.isLst, isObj, sFld, putD, Out.bind_ok, Out.bind_exc, Out.bind_stuck, give_some, give_none, List.replicate, List.length_cons, List.length_nil, List.set_cons_zero, List.set_cons_succ, List.getElem?_cons_zero, List.getElem?_cons_succ, List.getElem?_nil, lk_non, lk_bl, lk_int, lk_str, lk_fz, lk_bor, lk_own, lk_tmp, lk_scr, lk_obj, lk_objo, lk_deep, looks_nil, looks_cons, D.stb, D.canFz, D.frz, D.isFz, D.isNon, stbs, getO, pN, sStore, sAug, sAugS, Option.bind_some, Option.map_some, Option.bind_none, Option.map_none, List.nil_append, List.cons_append, Bool.and_true, Bool.true_and, Bool.or_true, Bool.true_or, Bool.and_false, Bool.false_and, Bool.or_false, Bool.false_or, Bool.not_true, Bool.not_false, if_true, if_false, Bool.false_eq_true, reduceIte, List.all_cons, List.all_nil, decide_true, decide_false, ix_seq' _ _ pls, a1, p1, pst]) (by unfold LS; simp only [frameD, pick, Nat.sub_self, List.replicate_zero, sSeq, sNil, sSet, sRet, sRetN, sExpr, sIf, sBrk, sCont, sNever, f_eV, f_eMv, f_eFz, f_eC, f_eOp, f_eAnd, f_eOr, f_eNot, f_eIf, f_tru1, f_eCh, f_eFr, f_eAndV, f_eOrV, f_eK, f_eNx, f_eMut, evs_nil, evs_cons, pu_eC, pu_eV, pu_eOp, pu_eK, pu_eFr, pus_nil, pus_cons, getD_0, getD_S, un_un, un_non, un_bl, un_int, un_str, un_seq, un_obj, un_deep, un_fn, un_ty, give, truth, oNot, cLt_d, cLe_d, cGt_d, cGe_d, oNotV, oNeg, D.isTupK, D.isLst, isObj, sFld, putD, Out.bind_ok, Out.bind_exc, Out.bind_stuck, give_some, give_none, List.replicate, List.length_cons, List.length_nil, List.set_cons_zero, List.set_cons_succ, List.getElem?_cons_zero, List.getElem?_cons_succ, List.getElem?_nil, lk_non, lk_bl, lk_int, lk_str, lk_fz, lk_bor, lk_own, lk_tmp, lk_scr, lk_obj, lk_objo, lk_deep, looks_nil, looks_cons, D.stb, D.canFz, D.frz, D.isFz, D.isNon, stbs, getO, pN, sStore, sAug, sAugS, Option.bind_some, Option.map_some, Option.bind_none, Option.map_none, List.nil_append, List.cons_append, Bool.and_true, Bool.true_and, Bool.or_true, Bool.true_or, Bool.and_false, Bool.false_and, Bool.or_false, Bool.false_or, Bool.not_true, Bool.not_false, if_true, if_false, Bool.false_eq_true, reduceIte, List.all_cons, List.all_nil, decide_true, decide_false, ix_seq' _ _ pls, a1, p2, pst]) (ixD_ok rfl rfl rfl hk) rfl rfl rfl (by rw [hg]; exact init_ok rfl rfl rfl rfl hd) rfl rfl rfl
  have ma : mAppend dps [.obj .own "Depot" ["period", "quota", "firsts"] [.int m, .int q, .tup (fs.map .int)]] = some (.non, dps ++ [depotD m q fs]) := by
    show (if ((D.obj .own "Depot" ["period", "quota", "firsts"] [.int m, .int q, .tup (fs.map .int)]).canFz && decide (dps.length < PySem.sizeLine)) = true then some (D.non, dps ++ [(D.obj .own "Depot" ["period", "quota", "firsts"] [.int m, .int q, .tup (fs.map .int)]).frz]) else none) = _
    rw [if_pos (by rw [Bool.and_eq_true]; exact ⟨rfl, decide_eq_true (by omega)⟩)]
    rfl
  show ((eMut (pN 6) mAppend _).f _).bind _ = _
  rw [f_eMut, show (pN 6).get (LS ns p (.lst pls) (.lst sps) (.own sts) G (.own dps) (.int (k : Int)) u8 u9 u10 u11) = some dps from rfl]
  dsimp only
  rw [if_pos (by rfl), evs_cons, px, Out.bind_ok]
  dsimp only
  rw [if_pos (by rfl), evs_nil, Out.bind_ok, Out.bind_ok]
  dsimp only
  rw [show (pN 6).get (LS ns p (.lst pls) (.lst sps) (.own sts) G (.own dps) (.int (k : Int)) u8 u9 u10 u11) = some dps from rfl]
  dsimp only
  rw [ma]
  rfl
theorem mk_tup {k : Nat} {m q : Int} {fs : List Int} {p : Pool} {pls sps sts dps : List D} {G : List (List Int)} {ns : List Int} {u8 u9 u10 u11 : D} (hd : DepOk m q fs) (hk : k < G.length) (hg : G[k] = fs) (e1 : pls[k]? = some (planF m q fs)) (hl : dps.length ≤ 1000) :
    sExpr (eMut (pN 6) mAppend [eMake "Depot" f_Depot__init [.ex (eOp oIx [eOp oIx [eV 2, eV 7], eC (.int 0)]), .ex (eOp oIx [eOp oIx [eV 2, eV 7], eC (.int 1)]), .ex (eOp oTupOf [eOp oIx [eV 5, eV 7]])]]) (LS ns p (.lst pls) (.lst sps) (.own sts) G (.own dps) (.int (k : Int)) u8 u9 u10 u11) = .ok (.next, LS ns p (.lst pls) (.lst sps) (.own sts) G (.own (dps ++ [depotD m q fs])) (.int (k : Int)) u8 u9 u10 u11) := by
  have hz : PySem.sizeLine = 16777216 := PySem.sizeLine_eq
  have a1 : L2.atI pls (k : Int) = some (planF m q fs) := by rw [at_nat, e1]
  have p1 : oIx [planF m q fs, .int 0] = some (.int m) := rfl
  have p2 : oIx [planF m q fs, .int 1] = some (.int q) := rfl
  have pst : (planF m q fs).stb = true := rfl
  have ix := ixD_ok (ρ := LS ns p (.lst pls) (.lst sps) (.own sts) G (.own dps) (.int (k : Int)) u8 u9 u10 u11) (i := 5) (x := eV 7) rfl rfl rfl hk
  have px := make3 (c := "Depot") (F := f_Depot__init) (x := eOp oIx [eOp oIx [eV 2, eV 7], eC (.int 0)]) (y := eOp oIx [eOp oIx [eV 2, eV 7], eC (.int 1)]) (z := eOp oTupOf [eOp oIx [eV 5, eV 7]]) (ρ := LS ns p (.lst pls) (.lst sps) (.own sts) G (.own dps) (.int (k : Int)) u8 u9 u10 u11) (a := .int m) (b := .int q) (e := .tup (G[k].map .int))
    (by unfold LS; simp only [frameD, pick, Nat.sub_self, List.replicate_zero, sSeq, sNil, sSet, sRet, sRetN, sExpr, sIf, sBrk, sCont, sNever, f_eV, f_eMv, f_eFz, f_eC, f_eOp, f_eAnd, f_eOr, f_eNot, f_eIf, f_tru1, f_eCh, f_eFr, f_eAndV, f_eOrV, f_eK, f_eNx, f_eMut, evs_nil, evs_cons, pu_eC, pu_eV, pu_eOp, pu_eK, pu_eFr, pus_nil, pus_cons, getD_0, getD_S, un_un, un_non, un_bl, un_int, un_str, un_seq, un_obj, un_deep, un_fn, un_ty, give, truth, oNot, cLt_d, cLe_d, cGt_d, cGe_d, oNotV, oNeg, D.isTupK, D.isLst, isObj, sFld, putD, Out.bind_ok, Out.bind_exc, Out.bind_stuck, give_some, give_none, List.replicate, List.length_cons, List.length_nil, List.set_cons_zero, List.set_cons_succ, List.getElem?_cons_zero, List.getElem?_cons_succ, List.getElem?_nil, lk_non, lk_bl, lk_int, lk_str, lk_fz, lk_bor, lk_own, lk_tmp, lk_scr, lk_obj, lk_objo, lk_deep, looks_nil, looks_cons, D.stb, D.canFz, D.frz, D.isFz, D.isNon, stbs, getO, pN, sStore, sAug, sAugS, Option.bind_some, Option.map_some, Option.bind_none, Option.map_none, List.nil_append, List.cons_append, Bool.and_true, Bool.true_and, Bool.or_true, Bool.true_or, Bool.and_false, Bool.false_and, Bool.or_false, Bool.false_or, Bool.not_true, Bool.not_false, if_true, if_false, Bool.false_eq_true, reduceIte, List.all_cons, List.all_nil, decide_true, decide_false, ix_seq' _ _ pls, a1, p1, pst]) (by unfold LS; simp only [frameD, pick, Nat.sub_self, List.replicate_zero, sSeq, sNil, sSet, sRet, sRetN, sExpr, sIf, sBrk, sCont, sNever, f_eV, f_eMv, f_eFz, f_eC, f_eOp, f_eAnd, f_eOr, f_eNot, f_eIf, f_tru1, f_eCh, f_eFr, f_eAndV, f_eOrV, f_eK, f_eNx, f_eMut, evs_nil, evs_cons, pu_eC, pu_eV, pu_eOp, pu_eK, pu_eFr, pus_nil, pus_cons, getD_0, getD_S, un_un, un_non, un_bl, un_int, un_str, un_seq, un_obj, un_deep, un_fn, un_ty, give, truth, oNot, cLt_d, cLe_d, cGt_d, cGe_d, oNotV, oNeg, D.isTupK, D.isLst, isObj, sFld, putD, Out.bind_ok, Out.bind_exc, Out.bind_stuck, give_some, give_none, List.replicate, List.length_cons, List.length_nil, List.set_cons_zero, List.set_cons_succ, List.getElem?_cons_zero, List.getElem?_cons_succ, List.getElem?_nil, lk_non, lk_bl, lk_int, lk_str, lk_fz, lk_bor, lk_own, lk_tmp, lk_scr, lk_obj, lk_objo, lk_deep, looks_nil, looks_cons, D.stb, D.canFz, D.frz, D.isFz, D.isNon, stbs, getO, pN, sStore, sAug, sAugS, Option.bind_some, Option.map_some, Option.bind_none, Option.map_none, List.nil_append, List.cons_append, Bool.and_true, Bool.true_and, Bool.or_true, Bool.true_or, Bool.and_false, Bool.false_and, Bool.or_false, Bool.false_or, Bool.not_true, Bool.not_false, if_true, if_false, Bool.false_eq_true, reduceIte, List.all_cons, List.all_nil, decide_true, decide_false, ix_seq' _ _ pls, a1, p2, pst]) (by
      rw [f_eOp, evs_cons, ix, Out.bind_ok]
      dsimp only
      rw [if_pos (by rfl), evs_nil, Out.bind_ok, Out.bind_ok]
      rfl) rfl rfl rfl (by rw [hg]; exact init_ok rfl rfl rfl rfl hd) rfl rfl rfl
  have ma : mAppend dps [.obj .own "Depot" ["period", "quota", "firsts"] [.int m, .int q, .tup (fs.map .int)]] = some (.non, dps ++ [depotD m q fs]) := by
    show (if ((D.obj .own "Depot" ["period", "quota", "firsts"] [.int m, .int q, .tup (fs.map .int)]).canFz && decide (dps.length < PySem.sizeLine)) = true then some (D.non, dps ++ [(D.obj .own "Depot" ["period", "quota", "firsts"] [.int m, .int q, .tup (fs.map .int)]).frz]) else none) = _
    rw [if_pos (by rw [Bool.and_eq_true]; exact ⟨rfl, decide_eq_true (by omega)⟩)]
    rfl
  show ((eMut (pN 6) mAppend _).f _).bind _ = _
  rw [f_eMut, show (pN 6).get (LS ns p (.lst pls) (.lst sps) (.own sts) G (.own dps) (.int (k : Int)) u8 u9 u10 u11) = some dps from rfl]
  dsimp only
  rw [if_pos (by rfl), evs_cons, px, Out.bind_ok]
  dsimp only
  rw [if_pos (by rfl), evs_nil, Out.bind_ok, Out.bind_ok]
  dsimp only
  rw [show (pN 6).get (LS ns p (.lst pls) (.lst sps) (.own sts) G (.own dps) (.int (k : Int)) u8 u9 u10 u11) = some dps from rfl]
  dsimp only
  rw [ma]
  rfl
/-- .. one way or the other -/
theorem mk_step {k : Nat} {m q : Int} {fs : List Int} {p : Pool} (hp : p.Fine) {pls sps sts dps : List D} {G : List (List Int)} {ns : List Int} {u8 u9 u10 u11 : D} (hd : DepOk m q fs) (hk : k < G.length) (hg : G[k] = fs) (e1 : pls[k]? = some (planF m q fs)) (hl : dps.length ≤ 1000) :
    ∃ z : Pool, z.Fine ∧ sIf (eOp oEq [eCall f_law_take [.sl 1 true, .ex (eC (.int 2))], eC (.int 0)]) (sExpr (eMut (pN 6) mAppend [eMake "Depot" f_Depot__init [.ex (eOp oIx [eOp oIx [eV 2, eV 7], eC (.int 0)]), .ex (eOp oIx [eOp oIx [eV 2, eV 7], eC (.int 1)]), .ex (eOp oIx [eV 5, eV 7])]])) (sExpr (eMut (pN 6) mAppend [eMake "Depot" f_Depot__init [.ex (eOp oIx [eOp oIx [eV 2, eV 7], eC (.int 0)]), .ex (eOp oIx [eOp oIx [eV 2, eV 7], eC (.int 1)]), .ex (eOp oTupOf [eOp oIx [eV 5, eV 7]])]])) (LS ns p (.lst pls) (.lst sps) (.own sts) G (.own dps) (.int (k : Int)) u8 u9 u10 u11) = .ok (.next, LS ns z (.lst pls) (.lst sps) (.own sts) G (.own (dps ++ [depotD m q fs])) (.int (k : Int)) u8 u9 u10 u11) := by
  obtain ⟨z, r, e, hz, r0, r1⟩ := take_ok p hp (l := 2) (by decide) (by decide)
  refine ⟨z, hz, ?_⟩
  have c : (eOp oEq [eCall f_law_take [.sl 1 true, .ex (eC (.int 2))], eC (.int 0)]).f (LS ns p (.lst pls) (.lst sps) (.own sts) G (.own dps) (.int (k : Int)) u8 u9 u10 u11) = .ok (.bl (r == 0), LS ns z (.lst pls) (.lst sps) (.own sts) G (.own dps) (.int (k : Int)) u8 u9 u10 u11) := by
    rw [f_eOp, evs_cons, callI (i := 1) (p := p) rfl rfl e rfl, Out.bind_ok]
    rfl
  show ((eOp oEq [eCall f_law_take [.sl 1 true, .ex (eC (.int 2))], eC (.int 0)]).f _).bind _ = _
  rw [c, Out.bind_ok]
  by_cases h : r = 0
  · subst h
    exact mk_list hd hk hg e1 hl
  · rw [show (r == 0) = false from beq_eq_false_iff_ne.mpr h]
    exact mk_tup hd hk hg e1 hl
end Law

/-! k00: the law holds -/
namespace Law
open Ev
theorem six_ok {ns : List Int} {p : Pool} {B : Blk} {pls sps sts dps : List D} (hB : ∀ (k j : Nat) (G : List (List Int)) (u7 u9 u10 u11 : D), k < 2 → j < 2 → G.length = 2 → (∀ g ∈ G, g ≠ []) → (∀ g ∈ G, g.length ≤ 1000) →
      ∃ (G' : List (List Int)) (w7 w9 w10 w11 : D), B (LS ns p (.lst pls) (.lst sps) (.own sts) G (.own dps) u7 (.tup [.int (k : Int), .int (j : Int)]) u9 u10 u11) = .ok (.next, LS ns p (.lst pls) (.lst sps) (.own sts) G' (.own dps) w7 (.tup [.int (k : Int), .int (j : Int)]) w9 w10 w11) ∧ G'.length = 2 ∧ (∀ g ∈ G', g ≠ []) ∧ ∀ (b : Nat), (∀ g ∈ G, g.length ≤ b) → ∀ g ∈ G', g.length ≤ b + 1) :
    ∀ (l : List (Nat × Nat)) (b : Nat) (G : List (List Int)) (u7 u8 u9 u10 u11 : D), (∀ x ∈ l, x.1 < 2 ∧ x.2 < 2) → G.length = 2 → (∀ g ∈ G, g ≠ []) → (∀ g ∈ G, g.length ≤ b) → b + l.length ≤ 1000 →
      ∃ ρ, forL (gN 8) B (l.map fun x => D.tup [.int (x.1 : Int), .int (x.2 : Int)]) (LS ns p (.lst pls) (.lst sps) (.own sts) G (.own dps) u7 u8 u9 u10 u11) = .ok (.next, ρ)
  | [], b, G, u7, u8, u9, u10, u11, _, _, _, _, _ => ⟨_, rfl⟩
  | (k, j) :: l, b, G, u7, u8, u9, u10, u11, h, hG, hne, hb, hl => by
    obtain ⟨h1, h2⟩ := h (k, j) List.mem_cons_self
    rw [List.length_cons] at hl
    obtain ⟨G', w7, w9, w10, w11, e, g1, g2, g3⟩ := hB k j G u7 u9 u10 u11 h1 h2 hG hne (fun g hg => Nat.le_trans (hb g hg) (by omega))
    obtain ⟨ρ, e2⟩ := six_ok hB l (b + 1) G' w7 (.tup [.int (k : Int), .int (j : Int)]) w9 w10 w11 (fun x hx => h x (List.mem_cons_of_mem _ hx)) g1 g2 (g3 b hb) (by omega)
    refine ⟨ρ, ?_⟩
    rw [List.map_cons, forL_next (ρ1 := LS ns p (.lst pls) (.lst sps) (.own sts) G (.own dps) u7 (.tup [.int (k : Int), .int (j : Int)]) u9 u10 u11) (gN_ok rfl) e, e2]
theorem law_true (ns : List Int) (hl : ns.length ≤ 63) : f_law [.seq false .scr (ns.map .int)] = .ok (.bl true, []) := by
  have F0 : (Pool.mk 0 1 0 0 ns).Fine := ⟨Int.le_refl 0, by show (0 : Int) ≤ 1; decide, by show (1 : Int) < 2 ^ 31; decide⟩
  obtain ⟨P1, m0, q0, f0, d0, F1, L0, a0, b0⟩ := depot_ok _ F0 (dr := 12) (pe := 8) (by decide) (by decide) (by decide) (by decide)
  obtain ⟨P2, m1, q1, f1, d1, F2, L1, a1, b1⟩ := depot_ok P1 F1 (dr := 12) (pe := 8) (by decide) (by decide) (by decide) (by decide)
  have D0 : DepOk m0 q0 f0 := ⟨L0, a0, by omega⟩
  have D1 : DepOk m1 q1 f1 := ⟨L1, a1, by omega⟩
  obtain ⟨P3, n0, g0, F3, n00, n01⟩ := great_ok P2 F2 (m := 10 ^ 30) (by decide) (by decide)
  obtain ⟨P4, n1, g1, F4, n10, n11⟩ := great_ok P3 F3 (m := 10 ^ 30) (by decide) (by decide)
  obtain ⟨P5, s0, g2, F5, s00, s01⟩ := great_ok P4 F4 (m := 10 ^ 30 + 7) (by decide) (by decide)
  obtain ⟨P6, s1, g3, F6, s10, s11⟩ := great_ok P5 F5 (m := 10 ^ 30 + 7) (by decide) (by decide)
  have e30 : oPow [.int 10, .int 30] = some (.int (10 ^ 30)) := pow_int (by decide)
  have e12 : oPow [.int 10, .int 12] = some (.int 1000000000000) := pow_int (by decide)
  have n84 := Int.emod_nonneg n1 (show (840 : Int) ≠ 0 by decide)
  have t1 : 1 ≤ (1 + s1) * 1000000000000 + n1 % 840 := by omega
  have pl0 : (plan m0 q0 f0).stb = true := rfl
  have pl1 : (plan m1 q1 f1).stb = true := rfl
  have ne0 : f0 ≠ [] := fun z => by have := L0.n1; have := L0.q1; rw [z] at *; simp at *; omega
  have ne1 : f1 ≠ [] := fun z => by have := L1.n1; have := L1.q1; rw [z] at *; simp at *; omega
  -- the depots
  obtain ⟨P7, F7, k0⟩ := mk_step (k := 0) (ns := ns) (p := P6) F6 (pls := [planF m0 q0 f0, planF m1 q1 f1]) (sps := [.int n0, .int n1]) (sts := [.int (1 + s0), .int ((1 + s1) * 1000000000000 + n1 % 840)]) (dps := []) (G := [f0, f1]) (u8 := .unset) (u9 := .unset) (u10 := .unset) (u11 := .unset) D0 (by show 0 < 2; decide) rfl rfl (by show 0 ≤ 1000; decide)
  obtain ⟨P8, F8, k1⟩ := mk_step (k := 1) (ns := ns) (p := P7) F7 (pls := [planF m0 q0 f0, planF m1 q1 f1]) (sps := [.int n0, .int n1]) (sts := [.int (1 + s0), .int ((1 + s1) * 1000000000000 + n1 % 840)]) (dps := [depotD m0 q0 f0]) (G := [f0, f1]) (u8 := .unset) (u9 := .unset) (u10 := .unset) (u11 := .unset) D1 (by show 1 < 2; decide) rfl rfl (by show 1 ≤ 1000; decide)
  -- the six steps
  obtain ⟨ρ, six⟩ := six_ok (ns := ns) (p := P8) (B := stepB) (pls := [planF m0 q0 f0, planF m1 q1 f1]) (sps := [.int n0, .int n1]) (sts := [.int (1 + s0), .int ((1 + s1) * 1000000000000 + n1 % 840)]) (dps := [depotD m0 q0 f0, depotD m1 q1 f1]) (fun k j G u7 u9 u10 u11 hk hj hG hne hb => by
    have pick : ∃ (m q n s : Int) (fs : List Int), DepOk m q fs ∧ 0 ≤ n ∧ n ≤ 10 ^ 30 ∧ 1 ≤ s ∧ [planF m0 q0 f0, planF m1 q1 f1][k]? = some (planF m q fs) ∧ [D.int n0, D.int n1][j]? = some (.int n) ∧ [D.int (1 + s0), D.int ((1 + s1) * 1000000000000 + n1 % 840)][j]? = some (.int s) ∧ [depotD m0 q0 f0, depotD m1 q1 f1][k]? = some (depotD m q fs) := by
      match k, j, hk, hj with
      | 0, 0, _, _ => exact ⟨m0, q0, n0, _, f0, D0, n00, n01, by omega, rfl, rfl, rfl, rfl⟩
      | 0, 1, _, _ => exact ⟨m0, q0, n1, _, f0, D0, n10, n11, t1, rfl, rfl, rfl, rfl⟩
      | 1, 0, _, _ => exact ⟨m1, q1, n0, _, f1, D1, n00, n01, by omega, rfl, rfl, rfl, rfl⟩
      | 1, 1, _, _ => exact ⟨m1, q1, n1, _, f1, D1, n10, n11, t1, rfl, rfl, rfl, rfl⟩
    obtain ⟨m, q, n, s, fs, c1, c2, c3, c4, c5, c6, c7, c8⟩ := pick
    obtain ⟨G', e, z1, z2, z3⟩ := body_ok (ns := ns) (p := P8) (u7 := u7) (u9 := u9) (u10 := u10) (u11 := u11) c1 c2 c3 c4 (by omega : k < G.length) c5 c6 c7 c8 hne hb
    exact ⟨G', _, _, _, _, e, z1.trans hG, z2, z3⟩) [(0, 0), (1, 0), (0, 1), (1, 1), (0, 0), (1, 0)] 12 [f0, f1] (.int 1) .unset .unset .unset .unset (by decide) rfl (by
      intro g hg
      rcases List.mem_cons.mp hg with z | z
      · rw [z]; exact ne0
      · rw [List.mem_singleton.mp z]; exact ne1) (by
      intro g hg
      rcases List.mem_cons.mp hg with z | z
      · rw [z]; omega
      · rw [List.mem_singleton.mp z]; omega) (by decide)
  have s8 : f_law_same 4 [.int 8, .int 8] = .ok (.bl true, []) := same_int 3 8
  have s12 : f_law_same 4 [.int 12, .int 12] = .ok (.bl true, []) := same_int 3 12
  have h : b_law (frameD N_law.length [.seq false .scr (ns.map .int)]) = .ok (.ret (.bl true), ρ) := by
    unfold b_law N_law
    rw [seq_next (ρ' := [.seq false .scr (ns.map .int), (Pool.mk 0 1 0 0 ns).d, .unset, .unset, .unset, .unset, .unset, .unset, .unset, .unset, .unset, .unset]) (by
      have c : (eCall f_law_pool [.ex (eV 0)]).f [.seq false .scr (ns.map .int), .unset, .unset, .unset, .unset, .unset, .unset, .unset, .unset, .unset, .unset, .unset] = .ok ((Pool.mk 0 1 0 0 ns).d, [.seq false .scr (ns.map .int), .unset, .unset, .unset, .unset, .unset, .unset, .unset, .unset, .unset, .unset, .unset]) := callV1 (x := eV 0) rfl rfl (pool_ok ns) rfl
      simp only [frameD, pick, Nat.sub_self, List.replicate_zero, sSeq, sNil, sSet, sRet, sRetN, sExpr, sIf, sBrk, sCont, sNever, f_eV, f_eMv, f_eFz, f_eC, f_eOp, f_eAnd, f_eOr, f_eNot, f_eIf, f_tru1, f_eCh, f_eFr, f_eAndV, f_eOrV, f_eK, f_eNx, f_eMut, evs_nil, evs_cons, pu_eC, pu_eV, pu_eOp, pu_eK, pu_eFr, pus_nil, pus_cons, getD_0, getD_S, un_un, un_non, un_bl, un_int, un_str, un_seq, un_obj, un_deep, un_fn, un_ty, give, truth, oNot, cLt_d, cLe_d, cGt_d, cGe_d, oNotV, oNeg, D.isTupK, D.isLst, isObj, sFld, putD, Out.bind_ok, Out.bind_exc, Out.bind_stuck, give_some, give_none, List.replicate, List.length_cons, List.length_nil, List.set_cons_zero, List.set_cons_succ, List.getElem?_cons_zero, List.getElem?_cons_succ, List.getElem?_nil, lk_non, lk_bl, lk_int, lk_str, lk_fz, lk_bor, lk_own, lk_tmp, lk_scr, lk_obj, lk_objo, lk_deep, looks_nil, looks_cons, D.stb, D.canFz, D.frz, D.isFz, D.isNon, stbs, getO, pN, sStore, sAug, sAugS, Option.bind_some, Option.map_some, Option.bind_none, Option.map_none, List.nil_append, List.cons_append, Bool.and_true, Bool.true_and, Bool.or_true, Bool.true_or, Bool.and_false, Bool.false_and, Bool.or_false, Bool.false_or, Bool.not_true, Bool.not_false, if_true, if_false, Bool.false_eq_true, reduceIte, List.all_cons, List.all_nil, decide_true, decide_false, c, stb_d])]
    rw [seq_next (ρ' := [.seq false .scr (ns.map .int), P2.d, .lst [planF m0 q0 f0, planF m1 q1 f1], .unset, .unset, .unset, .unset, .unset, .unset, .unset, .unset, .unset]) (by
      simp only [frameD, pick, Nat.sub_self, List.replicate_zero, sSeq, sNil, sSet, sRet, sRetN, sExpr, sIf, sBrk, sCont, sNever, f_eV, f_eMv, f_eFz, f_eC, f_eOp, f_eAnd, f_eOr, f_eNot, f_eIf, f_tru1, f_eCh, f_eFr, f_eAndV, f_eOrV, f_eK, f_eNx, f_eMut, evs_nil, evs_cons, pu_eC, pu_eV, pu_eOp, pu_eK, pu_eFr, pus_nil, pus_cons, getD_0, getD_S, un_un, un_non, un_bl, un_int, un_str, un_seq, un_obj, un_deep, un_fn, un_ty, give, truth, oNot, cLt_d, cLe_d, cGt_d, cGe_d, oNotV, oNeg, D.isTupK, D.isLst, isObj, sFld, putD, Out.bind_ok, Out.bind_exc, Out.bind_stuck, give_some, give_none, List.replicate, List.length_cons, List.length_nil, List.set_cons_zero, List.set_cons_succ, List.getElem?_cons_zero, List.getElem?_cons_succ, List.getElem?_nil, lk_non, lk_bl, lk_int, lk_str, lk_fz, lk_bor, lk_own, lk_tmp, lk_scr, lk_obj, lk_objo, lk_deep, looks_nil, looks_cons, D.stb, D.canFz, D.frz, D.isFz, D.isNon, stbs, getO, pN, sStore, sAug, sAugS, Option.bind_some, Option.map_some, Option.bind_none, Option.map_none, List.nil_append, List.cons_append, Bool.and_true, Bool.true_and, Bool.or_true, Bool.true_or, Bool.and_false, Bool.false_and, Bool.or_false, Bool.false_or, Bool.not_true, Bool.not_false, if_true, if_false, Bool.false_eq_true, reduceIte, List.all_cons, List.all_nil, decide_true, decide_false, callI2 (i := 1) (x := eC (.int 12)) (y := eC (.int 8)) (p := Pool.mk 0 1 0 0 ns) (ρ := [.seq false .scr (ns.map .int), (Pool.mk 0 1 0 0 ns).d, .unset, .unset, .unset, .unset, .unset, .unset, .unset, .unset, .unset, .unset]) rfl rfl rfl d0 rfl, pl0, pl1,
        callI2 (i := 1) (x := eC (.int 12)) (y := eC (.int 8)) (p := P1) (ρ := [.seq false .scr (ns.map .int), P1.d, .unset, .unset, .unset, .unset, .unset, .unset, .unset, .unset, .unset, .unset]) rfl rfl rfl d1 rfl, oLst, plan_can, plan_frz, List.map_cons, List.map_nil]
      rfl)]
    have x30 : ∀ ρ : List D, (eOp oPow [eC (.int 10), eC (.int 30)]).f ρ = .ok (.int (10 ^ 30), ρ) := fun ρ => by simp only [frameD, pick, Nat.sub_self, List.replicate_zero, sSeq, sNil, sSet, sRet, sRetN, sExpr, sIf, sBrk, sCont, sNever, f_eV, f_eMv, f_eFz, f_eC, f_eOp, f_eAnd, f_eOr, f_eNot, f_eIf, f_tru1, f_eCh, f_eFr, f_eAndV, f_eOrV, f_eK, f_eNx, f_eMut, evs_nil, evs_cons, pu_eC, pu_eV, pu_eOp, pu_eK, pu_eFr, pus_nil, pus_cons, getD_0, getD_S, un_un, un_non, un_bl, un_int, un_str, un_seq, un_obj, un_deep, un_fn, un_ty, give, truth, oNot, cLt_d, cLe_d, cGt_d, cGe_d, oNotV, oNeg, D.isTupK, D.isLst, isObj, sFld, putD, Out.bind_ok, Out.bind_exc, Out.bind_stuck, give_some, give_none, List.replicate, List.length_cons, List.length_nil, List.set_cons_zero, List.set_cons_succ, List.getElem?_cons_zero, List.getElem?_cons_succ, List.getElem?_nil, lk_non, lk_bl, lk_int, lk_str, lk_fz, lk_bor, lk_own, lk_tmp, lk_scr, lk_obj, lk_objo, lk_deep, looks_nil, looks_cons, D.stb, D.canFz, D.frz, D.isFz, D.isNon, stbs, getO, pN, sStore, sAug, sAugS, Option.bind_some, Option.map_some, Option.bind_none, Option.map_none, List.nil_append, List.cons_append, Bool.and_true, Bool.true_and, Bool.or_true, Bool.true_or, Bool.and_false, Bool.false_and, Bool.or_false, Bool.false_or, Bool.not_true, Bool.not_false, if_true, if_false, Bool.false_eq_true, reduceIte, List.all_cons, List.all_nil, decide_true, decide_false, e30]
    have x37 : ∀ ρ : List D, (eOp oAdd [eOp oPow [eC (.int 10), eC (.int 30)], eC (.int 7)]).f ρ = .ok (.int (10 ^ 30 + 7), ρ) := fun ρ => by simp only [frameD, pick, Nat.sub_self, List.replicate_zero, sSeq, sNil, sSet, sRet, sRetN, sExpr, sIf, sBrk, sCont, sNever, f_eV, f_eMv, f_eFz, f_eC, f_eOp, f_eAnd, f_eOr, f_eNot, f_eIf, f_tru1, f_eCh, f_eFr, f_eAndV, f_eOrV, f_eK, f_eNx, f_eMut, evs_nil, evs_cons, pu_eC, pu_eV, pu_eOp, pu_eK, pu_eFr, pus_nil, pus_cons, getD_0, getD_S, un_un, un_non, un_bl, un_int, un_str, un_seq, un_obj, un_deep, un_fn, un_ty, give, truth, oNot, cLt_d, cLe_d, cGt_d, cGe_d, oNotV, oNeg, D.isTupK, D.isLst, isObj, sFld, putD, Out.bind_ok, Out.bind_exc, Out.bind_stuck, give_some, give_none, List.replicate, List.length_cons, List.length_nil, List.set_cons_zero, List.set_cons_succ, List.getElem?_cons_zero, List.getElem?_cons_succ, List.getElem?_nil, lk_non, lk_bl, lk_int, lk_str, lk_fz, lk_bor, lk_own, lk_tmp, lk_scr, lk_obj, lk_objo, lk_deep, looks_nil, looks_cons, D.stb, D.canFz, D.frz, D.isFz, D.isNon, stbs, getO, pN, sStore, sAug, sAugS, Option.bind_some, Option.map_some, Option.bind_none, Option.map_none, List.nil_append, List.cons_append, Bool.and_true, Bool.true_and, Bool.or_true, Bool.true_or, Bool.and_false, Bool.false_and, Bool.or_false, Bool.false_or, Bool.not_true, Bool.not_false, if_true, if_false, Bool.false_eq_true, reduceIte, List.all_cons, List.all_nil, decide_true, decide_false, e30, add_int]
    rw [seq_next (ρ' := [.seq false .scr (ns.map .int), P4.d, .lst [planF m0 q0 f0, planF m1 q1 f1], .lst [.int n0, .int n1], .unset, .unset, .unset, .unset, .unset, .unset, .unset, .unset]) (by
      simp only [frameD, pick, Nat.sub_self, List.replicate_zero, sSeq, sNil, sSet, sRet, sRetN, sExpr, sIf, sBrk, sCont, sNever, f_eV, f_eMv, f_eFz, f_eC, f_eOp, f_eAnd, f_eOr, f_eNot, f_eIf, f_tru1, f_eCh, f_eFr, f_eAndV, f_eOrV, f_eK, f_eNx, f_eMut, evs_nil, evs_cons, pu_eC, pu_eV, pu_eOp, pu_eK, pu_eFr, pus_nil, pus_cons, getD_0, getD_S, un_un, un_non, un_bl, un_int, un_str, un_seq, un_obj, un_deep, un_fn, un_ty, give, truth, oNot, cLt_d, cLe_d, cGt_d, cGe_d, oNotV, oNeg, D.isTupK, D.isLst, isObj, sFld, putD, Out.bind_ok, Out.bind_exc, Out.bind_stuck, give_some, give_none, List.replicate, List.length_cons, List.length_nil, List.set_cons_zero, List.set_cons_succ, List.getElem?_cons_zero, List.getElem?_cons_succ, List.getElem?_nil, lk_non, lk_bl, lk_int, lk_str, lk_fz, lk_bor, lk_own, lk_tmp, lk_scr, lk_obj, lk_objo, lk_deep, looks_nil, looks_cons, D.stb, D.canFz, D.frz, D.isFz, D.isNon, stbs, getO, pN, sStore, sAug, sAugS, Option.bind_some, Option.map_some, Option.bind_none, Option.map_none, List.nil_append, List.cons_append, Bool.and_true, Bool.true_and, Bool.or_true, Bool.true_or, Bool.and_false, Bool.false_and, Bool.or_false, Bool.false_or, Bool.not_true, Bool.not_false, if_true, if_false, Bool.false_eq_true, reduceIte, List.all_cons, List.all_nil, decide_true, decide_false, callI (i := 1) (p := P2) (ρ := [.seq false .scr (ns.map .int), P2.d, .lst [planF m0 q0 f0, planF m1 q1 f1], .unset, .unset, .unset, .unset, .unset, .unset, .unset, .unset, .unset]) rfl (x30 _) g0 rfl,
        callI (i := 1) (p := P3) (ρ := [.seq false .scr (ns.map .int), P3.d, .lst [planF m0 q0 f0, planF m1 q1 f1], .unset, .unset, .unset, .unset, .unset, .unset, .unset, .unset, .unset]) rfl (x30 _) g1 rfl, oLst, List.map_cons, List.map_nil]
      rfl)]
    rw [seq_next (ρ' := [.seq false .scr (ns.map .int), P6.d, .lst [planF m0 q0 f0, planF m1 q1 f1], .lst [.int n0, .int n1], .own [.int (1 + s0), .int ((1 + s1) * 1000000000000)], .unset, .unset, .unset, .unset, .unset, .unset, .unset]) (by
      simp only [frameD, pick, Nat.sub_self, List.replicate_zero, sSeq, sNil, sSet, sRet, sRetN, sExpr, sIf, sBrk, sCont, sNever, f_eV, f_eMv, f_eFz, f_eC, f_eOp, f_eAnd, f_eOr, f_eNot, f_eIf, f_tru1, f_eCh, f_eFr, f_eAndV, f_eOrV, f_eK, f_eNx, f_eMut, evs_nil, evs_cons, pu_eC, pu_eV, pu_eOp, pu_eK, pu_eFr, pus_nil, pus_cons, getD_0, getD_S, un_un, un_non, un_bl, un_int, un_str, un_seq, un_obj, un_deep, un_fn, un_ty, give, truth, oNot, cLt_d, cLe_d, cGt_d, cGe_d, oNotV, oNeg, D.isTupK, D.isLst, isObj, sFld, putD, Out.bind_ok, Out.bind_exc, Out.bind_stuck, give_some, give_none, List.replicate, List.length_cons, List.length_nil, List.set_cons_zero, List.set_cons_succ, List.getElem?_cons_zero, List.getElem?_cons_succ, List.getElem?_nil, lk_non, lk_bl, lk_int, lk_str, lk_fz, lk_bor, lk_own, lk_tmp, lk_scr, lk_obj, lk_objo, lk_deep, looks_nil, looks_cons, D.stb, D.canFz, D.frz, D.isFz, D.isNon, stbs, getO, pN, sStore, sAug, sAugS, Option.bind_some, Option.map_some, Option.bind_none, Option.map_none, List.nil_append, List.cons_append, Bool.and_true, Bool.true_and, Bool.or_true, Bool.true_or, Bool.and_false, Bool.false_and, Bool.or_false, Bool.false_or, Bool.not_true, Bool.not_false, if_true, if_false, Bool.false_eq_true, reduceIte, List.all_cons, List.all_nil, decide_true, decide_false, callI (i := 1) (p := P4) (ρ := [.seq false .scr (ns.map .int), P4.d, .lst [planF m0 q0 f0, planF m1 q1 f1], .lst [.int n0, .int n1], .unset, .unset, .unset, .unset, .unset, .unset, .unset, .unset]) rfl (x37 _) g2 rfl,
        callI (i := 1) (p := P5) (ρ := [.seq false .scr (ns.map .int), P5.d, .lst [planF m0 q0 f0, planF m1 q1 f1], .lst [.int n0, .int n1], .unset, .unset, .unset, .unset, .unset, .unset, .unset, .unset]) rfl (x37 _) g3 rfl, add_int, e12, mulR (i := 1 + s1) (j := 1000000000000) (by decide) (by decide), oLst, List.map_cons, List.map_nil]
      rfl)]
    rw [seq_next (ρ' := [.seq false .scr (ns.map .int), P6.d, .lst [planF m0 q0 f0, planF m1 q1 f1], .lst [.int n0, .int n1], .own [.int (1 + s0), .int ((1 + s1) * 1000000000000 + n1 % 840)], .unset, .unset, .unset, .unset, .unset, .unset, .unset]) (by
      simp only [frameD, pick, Nat.sub_self, List.replicate_zero, sSeq, sNil, sSet, sRet, sRetN, sExpr, sIf, sBrk, sCont, sNever, f_eV, f_eMv, f_eFz, f_eC, f_eOp, f_eAnd, f_eOr, f_eNot, f_eIf, f_tru1, f_eCh, f_eFr, f_eAndV, f_eOrV, f_eK, f_eNx, f_eMut, evs_nil, evs_cons, pu_eC, pu_eV, pu_eOp, pu_eK, pu_eFr, pus_nil, pus_cons, getD_0, getD_S, un_un, un_non, un_bl, un_int, un_str, un_seq, un_obj, un_deep, un_fn, un_ty, give, truth, oNot, cLt_d, cLe_d, cGt_d, cGe_d, oNotV, oNeg, D.isTupK, D.isLst, isObj, sFld, putD, Out.bind_ok, Out.bind_exc, Out.bind_stuck, give_some, give_none, List.replicate, List.length_cons, List.length_nil, List.set_cons_zero, List.set_cons_succ, List.getElem?_cons_zero, List.getElem?_cons_succ, List.getElem?_nil, lk_non, lk_bl, lk_int, lk_str, lk_fz, lk_bor, lk_own, lk_tmp, lk_scr, lk_obj, lk_objo, lk_deep, looks_nil, looks_cons, D.stb, D.canFz, D.frz, D.isFz, D.isNon, stbs, getO, pN, sStore, sAug, sAugS, Option.bind_some, Option.map_some, Option.bind_none, Option.map_none, List.nil_append, List.cons_append, Bool.and_true, Bool.true_and, Bool.or_true, Bool.true_or, Bool.and_false, Bool.false_and, Bool.or_false, Bool.false_or, Bool.not_true, Bool.not_false, if_true, if_false, Bool.false_eq_true, reduceIte, List.all_cons, List.all_nil, decide_true, decide_false, ix_seq', at1, int_int, mod_int (j := 840) (by decide), add_int, ix1])]
    rw [seq_next (ρ' := [.seq false .scr (ns.map .int), P6.d, .lst [planF m0 q0 f0, planF m1 q1 f1], .lst [.int n0, .int n1], .own [.int (1 + s0), .int ((1 + s1) * 1000000000000 + n1 % 840)], .deep .own ([f0, f1].map gD), .unset, .unset, .unset, .unset, .unset, .unset]) (by
      unfold planF
      simp only [frameD, pick, Nat.sub_self, List.replicate_zero, sSeq, sNil, sSet, sRet, sRetN, sExpr, sIf, sBrk, sCont, sNever, f_eV, f_eMv, f_eFz, f_eC, f_eOp, f_eAnd, f_eOr, f_eNot, f_eIf, f_tru1, f_eCh, f_eFr, f_eAndV, f_eOrV, f_eK, f_eNx, f_eMut, evs_nil, evs_cons, pu_eC, pu_eV, pu_eOp, pu_eK, pu_eFr, pus_nil, pus_cons, getD_0, getD_S, un_un, un_non, un_bl, un_int, un_str, un_seq, un_obj, un_deep, un_fn, un_ty, give, truth, oNot, cLt_d, cLe_d, cGt_d, cGe_d, oNotV, oNeg, D.isTupK, D.isLst, isObj, sFld, putD, Out.bind_ok, Out.bind_exc, Out.bind_stuck, give_some, give_none, List.replicate, List.length_cons, List.length_nil, List.set_cons_zero, List.set_cons_succ, List.getElem?_cons_zero, List.getElem?_cons_succ, List.getElem?_nil, lk_non, lk_bl, lk_int, lk_str, lk_fz, lk_bor, lk_own, lk_tmp, lk_scr, lk_obj, lk_objo, lk_deep, looks_nil, looks_cons, D.stb, D.canFz, D.frz, D.isFz, D.isNon, stbs, getO, pN, sStore, sAug, sAugS, Option.bind_some, Option.map_some, Option.bind_none, Option.map_none, List.nil_append, List.cons_append, Bool.and_true, Bool.true_and, Bool.or_true, Bool.true_or, Bool.and_false, Bool.false_and, Bool.or_false, Bool.false_or, Bool.not_true, Bool.not_false, if_true, if_false, Bool.false_eq_true, reduceIte, List.all_cons, List.all_nil, decide_true, decide_false, ix_seq', at0, at1, at2, oListOf]
      rfl)]
    rw [seq_next (ρ' := LS ns P6 (.lst [planF m0 q0 f0, planF m1 q1 f1]) (.lst [.int n0, .int n1]) (.own [.int (1 + s0), .int ((1 + s1) * 1000000000000 + n1 % 840)]) [f0, f1] (.own []) .unset .unset .unset .unset .unset) rfl]
    rw [seq_next (ρ' := LS ns P8 (.lst [planF m0 q0 f0, planF m1 q1 f1]) (.lst [.int n0, .int n1]) (.own [.int (1 + s0), .int ((1 + s1) * 1000000000000 + n1 % 840)]) [f0, f1] (.own [depotD m0 q0 f0, depotD m1 q1 f1]) (.int 1) .unset .unset .unset .unset) (by
      rw [for_r1 (j := 2) (ρ1 := LS ns P6 (.lst [planF m0 q0 f0, planF m1 q1 f1]) (.lst [.int n0, .int n1]) (.own [.int (1 + s0), .int ((1 + s1) * 1000000000000 + n1 % 840)]) [f0, f1] (.own []) .unset .unset .unset .unset .unset) rfl (by decide)]
      rw [show rgL 0 (2 : Int).toNat = [.int ((0 : Nat) : Int), .int ((1 : Nat) : Int)] from rfl, forL_next (gN_ok rfl) k0, forL_next (gN_ok rfl) k1]
      rfl)]
    rw [seq_next (ρ' := ρ) (by
      refine Eq.trans (for_seq (d := .own [.tup [.int 0, .int 0], .tup [.int 1, .int 0], .tup [.int 0, .int 1], .tup [.int 1, .int 1], .tup [.int 0, .int 0], .tup [.int 1, .int 0]]) (ρ1 := LS ns P8 (.lst [planF m0 q0 f0, planF m1 q1 f1]) (.lst [.int n0, .int n1]) (.own [.int (1 + s0), .int ((1 + s1) * 1000000000000 + n1 % 840)]) [f0, f1] (.own [depotD m0 q0 f0, depotD m1 q1 f1]) (.int 1) .unset .unset .unset .unset) ?_ rfl) six
      have z : ∀ ρ : List D, (eOp oLst [eOp oTup [eC (.int 0), eC (.int 0)], eOp oTup [eC (.int 1), eC (.int 0)], eOp oTup [eC (.int 0), eC (.int 1)], eOp oTup [eC (.int 1), eC (.int 1)], eOp oTup [eC (.int 0), eC (.int 0)], eOp oTup [eC (.int 1), eC (.int 0)]]).f ρ = .ok (.own [.tup [.int 0, .int 0], .tup [.int 1, .int 0], .tup [.int 0, .int 1], .tup [.int 1, .int 1], .tup [.int 0, .int 0], .tup [.int 1, .int 0]], ρ) := fun ρ => by
        have t : ∀ i j : Int, oTup [.int i, .int j] = some (.tup [.int i, .int j]) := fun _ _ => rfl
        have l : oLst [.tup [.int 0, .int 0], .tup [.int 1, .int 0], .tup [.int 0, .int 1], .tup [.int 1, .int 1], .tup [.int 0, .int 0], .tup [.int 1, .int 0]] = some (.own [.tup [.int 0, .int 0], .tup [.int 1, .int 0], .tup [.int 0, .int 1], .tup [.int 1, .int 1], .tup [.int 0, .int 0], .tup [.int 1, .int 0]]) := rfl
        simp only [frameD, pick, Nat.sub_self, List.replicate_zero, sSeq, sNil, sSet, sRet, sRetN, sExpr, sIf, sBrk, sCont, sNever, f_eV, f_eMv, f_eFz, f_eC, f_eOp, f_eAnd, f_eOr, f_eNot, f_eIf, f_tru1, f_eCh, f_eFr, f_eAndV, f_eOrV, f_eK, f_eNx, f_eMut, evs_nil, evs_cons, pu_eC, pu_eV, pu_eOp, pu_eK, pu_eFr, pus_nil, pus_cons, getD_0, getD_S, un_un, un_non, un_bl, un_int, un_str, un_seq, un_obj, un_deep, un_fn, un_ty, give, truth, oNot, cLt_d, cLe_d, cGt_d, cGe_d, oNotV, oNeg, D.isTupK, D.isLst, isObj, sFld, putD, Out.bind_ok, Out.bind_exc, Out.bind_stuck, give_some, give_none, List.replicate, List.length_cons, List.length_nil, List.set_cons_zero, List.set_cons_succ, List.getElem?_cons_zero, List.getElem?_cons_succ, List.getElem?_nil, lk_non, lk_bl, lk_int, lk_str, lk_fz, lk_bor, lk_own, lk_tmp, lk_scr, lk_obj, lk_objo, lk_deep, looks_nil, looks_cons, D.stb, D.canFz, D.frz, D.isFz, D.isNon, stbs, getO, pN, sStore, sAug, sAugS, Option.bind_some, Option.map_some, Option.bind_none, Option.map_none, List.nil_append, List.cons_append, Bool.and_true, Bool.true_and, Bool.or_true, Bool.true_or, Bool.and_false, Bool.false_and, Bool.or_false, Bool.false_or, Bool.not_true, Bool.not_false, if_true, if_false, Bool.false_eq_true, reduceIte, List.all_cons, List.all_nil, decide_true, decide_false, t, l]
      exact z _)]
    have c8 : (eCall (f_law_same 4) [.ex (eC (.int 8)), .ex (eC (.int 8))]).f ρ = .ok (.bl true, ρ) := callV2 (x := eC (.int 8)) (y := eC (.int 8)) rfl rfl rfl rfl s8 rfl rfl
    have c12 : (eCall (f_law_same 4) [.ex (eC (.int 12)), .ex (eC (.int 12))]).f ρ = .ok (.bl true, ρ) := callV2 (x := eC (.int 12)) (y := eC (.int 12)) rfl rfl rfl rfl s12 rfl rfl
    simp only [frameD, pick, Nat.sub_self, List.replicate_zero, sSeq, sNil, sSet, sRet, sRetN, sExpr, sIf, sBrk, sCont, sNever, f_eV, f_eMv, f_eFz, f_eC, f_eOp, f_eAnd, f_eOr, f_eNot, f_eIf, f_tru1, f_eCh, f_eFr, f_eAndV, f_eOrV, f_eK, f_eNx, f_eMut, evs_nil, evs_cons, pu_eC, pu_eV, pu_eOp, pu_eK, pu_eFr, pus_nil, pus_cons, getD_0, getD_S, un_un, un_non, un_bl, un_int, un_str, un_seq, un_obj, un_deep, un_fn, un_ty, give, truth, oNot, cLt_d, cLe_d, cGt_d, cGe_d, oNotV, oNeg, D.isTupK, D.isLst, isObj, sFld, putD, Out.bind_ok, Out.bind_exc, Out.bind_stuck, give_some, give_none, List.replicate, List.length_cons, List.length_nil, List.set_cons_zero, List.set_cons_succ, List.getElem?_cons_zero, List.getElem?_cons_succ, List.getElem?_nil, lk_non, lk_bl, lk_int, lk_str, lk_fz, lk_bor, lk_own, lk_tmp, lk_scr, lk_obj, lk_objo, lk_deep, looks_nil, looks_cons, D.stb, D.canFz, D.frz, D.isFz, D.isNon, stbs, getO, pN, sStore, sAug, sAugS, Option.bind_some, Option.map_some, Option.bind_none, Option.map_none, List.nil_append, List.cons_append, Bool.and_true, Bool.true_and, Bool.or_true, Bool.true_or, Bool.and_false, Bool.false_and, Bool.or_false, Bool.false_or, Bool.not_true, Bool.not_false, if_true, if_false, Bool.false_eq_true, reduceIte, List.all_cons, List.all_nil, decide_true, decide_false, c8, c12]
  unfold f_law
  rw [fn_ret h rfl]
  cases ρ <;> rfl
end Law

open PySem PySem.W PySem.Calls PyProof.Rows
theorem PySem.Challenge.cw_everymorning_k00_depot_numbers_holds : PySem.Challenge.rw_everymorning_k00_depot_numbers.Holds := by
  w_on; o_law
  refine HandSHeadRun.head_any (r := OpenLaw.row PySem.Challenge.rw_everymorning_k00_depot_numbers) (q := view (OpenLaw.row PySem.Challenge.rw_everymorning_k00_depot_numbers).prog [23]) (H := Law.hk) (ob := Law.ob) (M := 6000) (loose := Law.names) (d := HandSHeadRun.topDef (OpenLaw.row PySem.Challenge.rw_everymorning_k00_depot_numbers).prog 23) (kwd := []) Law.ob_eq
    (by kernel_rfl) (fun s => by kernel_rfl) Law.run (by kernel_rfl) (by kernel_rfl) (by kernel_rfl) (by rfl) (by first | assumption | decide +kernel) (by decide +kernel) ⟨rfl, rfl, rfl, rfl, rfl, by decide +kernel⟩ ?hw ?hc
  case hw => w_witness2
  case hc =>
    refine L2.walk_ofE (l := PySem.Challenge.rw_everymorning_k00_depot_numbers) (n := 63) (k := 7) (x := "script") (CX := Ev.CXN) rfl (by decide) (by kernel_rfl) ⟨rfl, by decide, by decide⟩ ?F (fun _ _ _ _ z => z)
    intro w mg fa h Y G hmg0
    obtain ⟨K, KX, c⟩ := Y
    have kn := Law.kn_of KX G c
    have hmg : mg ("law" : PySem.Str) = some (.ref fa) := by
      have e : (HandSHeadRun.topDef (OpenLaw.row PySem.Challenge.rw_everymorning_k00_depot_numbers).prog 23).name = ("law" : PySem.Str) := by kernel_rfl
      rw [← e]
      exact hmg0
    have e := hmg.symm.trans kn.g_law
    cases e
    obtain ⟨fd, F⟩ := c.def_ 20
    have b := L2.FunD.bindsA (ps := ["script"]) F fun _ _ _ _ _ _ us hl => match us, hl with | [_], _ => rfl
    refine ⟨K, fd, Ev.spN (Ev.spF K [false] Law.f_law), KX, fun s v => b s [v] rfl, fun H a ns hl _ hS => ?_, fun base _ _ => Ev.fnN (Law.ok_all (w := w) (base := base) c kn F)⟩
    have rp : Ev.Rep K H (fun _ => none) H (.seq false .scr (ns.map .int)) (L2.V.ref a) [] := ⟨rfl, rfl, a, ns.map L2.V.int, rfl, .inl hS, Ev.RepFs.of_ints ns⟩
    have ro : Ev.RepO K H (fun _ => none) H [.seq false .scr (ns.map .int)] ([L2.V.ref a].map some) [] := ⟨[], [], rfl, .inr ⟨L2.V.ref a, rfl, rp⟩, rfl⟩
    have okH : Ev.Ok K H H (fun _ => none) H ([L2.V.ref a].map some) [.seq false .scr (ns.map .int)] := Ev.Ok.mk (fun _ _ z => nomatch z) (Ev.Sub.refl _) (Ev.Sub.refl _) (fun _ => .inl rfl) ⟨[], ro, List.nodup_nil, fun _ h => nomatch h⟩
    refine ⟨rfl, H, fun _ => none, [.seq false .scr (ns.map .int)], okH, rfl, ?_⟩
    rw [Law.law_true ns hl]
    exact ⟨rfl, fun v H' Fr' _ ok => ok.topF rfl⟩
