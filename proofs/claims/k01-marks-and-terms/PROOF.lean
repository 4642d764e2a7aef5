import PyProof.Rows.All
import Wide.All
import OpenK.AllK
import Wide.FinOn
import HandS.ForMost
import HandS.Wide
import HandS.Exc
import HandS.IsInst
import HandS.Style
import HandS.Replace
import HandS.TupMul
import HandS.TupAny
import HandS.CallLocal
import HandS.WideMore
import HandS.Zip
import HandS.IntHex
import KE.GoesEnumKw
import HandS.DictComp
import KE.GoesNew
import KE.KUnpackStar
import KE.DataMinMax
import HandS.SortKw
import HandS.SetBool
import HandS.SetKeys
import PyProof.Rows.SortShellAny
import HandS.More
import HandS.TupSets
import PyProof.ReprLen
import HandS.ExcInit
import HandS.ExcField
import HandS.WordsExc
import HandS.Text
import PyProof.SetRoads
import HandS.Defaults
import OpenK.KMore
import PyProof.ListOps
import KE.KDictZip
import HandS.RaiseMore
import HandS.StrMore
import PyProof.TupleOfStr
import PyProof.ListStr
import PyProof.Rows.IntBool
import KE.KRevSl
import PySem.Challenge.RW_contentnames_k01_marks_and_terms_or_not
import PyProof.Ascii
import PyProof.FitsInt
set_option Elab.async false
set_option linter.all false
set_option maxRecDepth 100000
set_option maxHeartbeats 4000000
/-! A logic of data over the hand layer: values as PyData, local lists owned by a slot, draws by a borrowed list. -/
namespace DL
open PySem L2

abbrev D := PyData
abbrev AS := Addr → Prop

/-- a tuple of the written part -/
def SqTK (K : PySem.W.Frag) (a : Addr) (xs : List V) : Prop :=
  ∃ (o : Obj) (its : Array Value) (n : Nat), K.lookup a = some o ∧ o.cls = .type "tuple" ∧ o.data = .seq its n ∧ its.size ≤ sizeLine ∧ Vals xs its.toList

/-- a dict of texts to ints, as data -/
def dsiD (l : List (Str × Int)) : List (D × D) := l.map fun p => (.str p.1, .int p.2)
def dsiV (l : List (Str × Int)) : List (Key × V) := l.map fun p => (Sum.inr p.1, V.int p.2)
/-- a dict of texts to texts, as data -/
def dstD (l : List (Str × Str)) : List (D × D) := (.int 1, .none) :: l.map fun p => (.str p.1, .str p.2)
def dstV (l : List (Str × Str)) : List (Key × V) := l.map fun p => (Sum.inr p.1, V.str p.2)
/-- a list of ints that may be locked (a script), as data -/
def scrD (ns : List Int) : List (D × D) := (.none, .none) :: ns.map fun n => (.none, .int n)

/-- a def as a value: by its name -/
def fnD (x : Str) : List (D × D) := [(.none, .bool true), (.str x, .none)]
/-- a caught exception: its class, its dict -/
def exK (cls : Value) (d : Option Addr) (a : Addr) : HO := .ext fun h => ∃ (oe : Obj) (vs : Array Value), h.get? a = some oe ∧ Zc cls d oe ∧ oe.data = .fields vs
inductive FlV : V → D → Prop
  | non : FlV .non .none
  | bl (b : Bool) : FlV (.bl b) (.bool b)
  | int (i : Int) : FlV (.int i) (.int i)
  | str (x : Str) : FlV (.str x) (.str x)
/-- an exception of the class that x names, with what it has, as data -/
def excD (x : Str) (w : D) : List (D × D) := [(.bool false, .str x), (.none, w)]
/-- an address, as data -/
def adrD (a : Addr) : List (D × D) := [(.bool true, .int (a : Nat))]
def FnAt (K : PySem.W.Frag) (x : Str) (a : Addr) : Prop := PySem.W.nsIn K mainGlobals x = some (some (.ref a))

def SqLK (K : PySem.W.Frag) (a : Addr) (xs : List V) : Prop :=
  ∃ (o : Obj) (its : Array Value) (n : Nat), K.lookup a = some o ∧ o.cls = .type "list" ∧ o.dict = none ∧ o.data = .seq its n ∧ its.size ≤ sizeLine ∧ Vals xs its.toList

mutual
inductive Dx (K : PySem.W.Frag) (H : Hp) (F : AS) : V → D → Prop
  | non : Dx K H F .non .none
  | bl (b : Bool) : Dx K H F (.bl b) (.bool b)
  | int (i : Int) : Dx K H F (.int i) (.int i)
  | str (x : Str) : Dx K H F (.str x) (.str x)
  | lst {a : Addr} {xs : List V} {ds : List D} : ¬ F a → H a = some (.lst xs) → DxAll K H F xs ds → Dx K H F (.ref a) (.list ds)
  | tup {a : Addr} {xs : List V} {ds : List D} : ¬ F a → H a = some (.tup xs) → DxAll K H F xs ds → Dx K H F (.ref a) (.tuple ds)
  | tupK {a : Addr} {xs : List V} {ds : List D} : SqTK K a xs → DxAll K H F xs ds → Dx K H F (.ref a) (.tuple ds)
  | dsi {a : Addr} (l : List (Str × Int)) {ds : List (D × D)} : ds = dsiD l → ¬ F a → H a = some (.dK (dsiV l)) → Dx K H F (.ref a) (.dict ds)
  | dst {a : Addr} (l : List (Str × Str)) {ds : List (D × D)} : ds = dstD l → ¬ F a → H a = some (.dK (dstV l)) → Dx K H F (.ref a) (.dict ds)
  | scr {a : Addr} (ns : List Int) {ds : List (D × D)} : ds = scrD ns → (¬ F a ∧ Rd H a (.lst (ns.map V.int))) ∨ SqLK K a (ns.map V.int) → Dx K H F (.ref a) (.dict ds)
  | fnr {a : Addr} (x : Str) {ds : List (D × D)} : ds = fnD x → FnAt K x a → Dx K H F (.ref a) (.dict ds)
  | adr (a : Addr) {ds : List (D × D)} : ds = adrD a → Dx K H F (.ref a) (.dict ds)
  | exc {a C dd : Addr} {x : Str} {v : V} {w : D} {ds : List (D × D)} : ds = excD x w → FlV v w → FnAt K x C → ¬ F a → ¬ F dd → H a = some (exK (.ref C) (some dd) a) → H dd = some (.xd [("what", v)]) → Dx K H F (.ref a) (.dict ds)
inductive DxAll (K : PySem.W.Frag) (H : Hp) (F : AS) : List V → List D → Prop
  | nil : DxAll K H F [] []
  | cons {v : V} {vs : List V} {d : D} {ds : List D} : Dx K H F v d → DxAll K H F vs ds → DxAll K H F (v :: vs) (d :: ds)
end

/-- what stands outside of F stays, and stays outside -/
def Grow (F F' : AS) (H H' : Hp) : Prop := ∀ b o, H b = some o → ¬ F b → H' b = some o ∧ ¬ F' b
theorem Grow.refl {F : AS} {H : Hp} : Grow F F H H := fun _ _ h n => ⟨h, n⟩
theorem Grow.trans {F F1 F2 : AS} {H H1 H2 : Hp} (a : Grow F F1 H H1) (b : Grow F1 F2 H1 H2) : Grow F F2 H H2 := fun c o h n =>
  let ⟨h1, n1⟩ := a c o h n
  b c o h1 n1

section
variable {K : PySem.W.Frag} {H H' : Hp} {F F' : AS}
mutual
theorem Dx.grow (g : Grow F F' H H') : ∀ (d : D) (v : V), Dx K H F v d → Dx K H' F' v d
  | .none, _, h => by cases h; exact .non
  | .bool b, _, h => by cases h; exact .bl b
  | .int i, _, h => by cases h; exact .int i
  | .str x, _, h => by cases h; exact .str x
  | .list ds, _, h => by
    cases h with
    | lst n e ha =>
      obtain ⟨e', n'⟩ := g _ _ e n
      exact .lst n' e' (DxAll.grow g ds _ ha)
  | .tuple ds, _, h => by
    cases h with
    | tup n e ha =>
      obtain ⟨e', n'⟩ := g _ _ e n
      exact .tup n' e' (DxAll.grow g ds _ ha)
    | tupK e ha => exact .tupK e (DxAll.grow g ds _ ha)
  | .dict _, _, h => by
    cases h with
    | dsi l q n e =>
      obtain ⟨e', n'⟩ := g _ _ e n
      exact .dsi l q n' e'
    | dst l q n e =>
      obtain ⟨e', n'⟩ := g _ _ e n
      exact .dst l q n' e'
    | scr ns q e =>
      rcases e with ⟨n, e | ⟨od, e⟩⟩ | e
      · obtain ⟨e', n'⟩ := g _ _ e n
        exact .scr ns q (.inl ⟨n', .inl e'⟩)
      · obtain ⟨e', n'⟩ := g _ _ e n
        exact .scr ns q (.inl ⟨n', .inr ⟨od, e'⟩⟩)
      · exact .scr ns q (.inr e)
    | fnr x q e => exact .fnr x q e
    | adr a q => exact .adr a q
    | exc q fl at_ na nd ha hd =>
      obtain ⟨ha', na'⟩ := g _ _ ha na
      obtain ⟨hd', nd'⟩ := g _ _ hd nd
      exact .exc q fl at_ na' nd' ha' hd'
theorem DxAll.grow (g : Grow F F' H H') : ∀ (ds : List D) (vs : List V), DxAll K H F vs ds → DxAll K H' F' vs ds
  | [], _, h => by cases h; exact .nil
  | d :: ds, _, h => by
    cases h with
    | cons a b => exact .cons (Dx.grow g d _ a) (DxAll.grow g ds _ b)
end
theorem Dx.g {d : D} {v : V} (h : Dx K H F v d) (g : Grow F F' H H') : Dx K H' F' v d := Dx.grow g d v h
theorem DxAll.g {ds : List D} {vs : List V} (h : DxAll K H F vs ds) (g : Grow F F' H H') : DxAll K H' F' vs ds := DxAll.grow g ds vs h
theorem Dx.weak {d : D} {v : V} (h : Dx K H F v d) (s : ∀ b, F' b → F b) : Dx K H F' v d := h.g fun _ _ e n => ⟨e, fun q => n (s _ q)⟩
theorem DxAll.weak {ds : List D} {vs : List V} (h : DxAll K H F vs ds) (s : ∀ b, F' b → F b) : DxAll K H F' vs ds := h.g fun _ _ e n => ⟨e, fun q => n (s _ q)⟩
theorem DxAll.length : ∀ {vs : List V} {ds : List D}, DxAll K H F vs ds → vs.length = ds.length
  | _, [], h => by cases h; rfl
  | _, _ :: ds, h => by
    cases h with
    | cons a b => rw [List.length_cons, List.length_cons, DxAll.length b]
theorem DxAll.get : ∀ {ds : List D} {vs : List V} {i : Nat} {d : D}, DxAll K H F vs ds → ds[i]? = some d → ∃ v, vs[i]? = some v ∧ Dx K H F v d
  | [], _, _, _, _, e => by simp at e
  | d :: ds, _, 0, _, h, e => by
    cases h with
    | cons a b => simp at e; subst e; exact ⟨_, rfl, a⟩
  | d :: ds, _, i + 1, x, h, e => by
    cases h with
    | cons a b =>
      obtain ⟨v, h1, h2⟩ := DxAll.get (i := i) b (by simpa using e)
      exact ⟨v, by simpa using h1, h2⟩
theorem DxAll.append : ∀ {ds es : List D} {vs ws : List V}, DxAll K H F vs ds → DxAll K H F ws es → DxAll K H F (vs ++ ws) (ds ++ es)
  | [], _, _, _, h, k => by cases h; exact k
  | d :: ds, _, _, _, h, k => by
    cases h with
    | cons a b => exact .cons a (DxAll.append b k)
theorem DxAll.set : ∀ {ds : List D} {vs : List V} {d : D} {v : V} (i : Nat), DxAll K H F vs ds → Dx K H F v d → DxAll K H F (vs.set i v) (ds.set i d)
  | [], _, _, _, _, h, _ => by cases h; exact .nil
  | _ :: ds, _, _, _, 0, h, k => by
    cases h with
    | cons a b => exact .cons k b
  | _ :: ds, _, _, _, i + 1, h, k => by
    cases h with
    | cons a b => exact .cons a (DxAll.set i b k)
theorem DxAll.drop : ∀ {ds : List D} {vs : List V} (n : Nat), DxAll K H F vs ds → DxAll K H F (vs.drop n) (ds.drop n)
  | _, _, 0, h => h
  | [], _, _ + 1, h => by cases h; exact .nil
  | _ :: ds, _, n + 1, h => by
    cases h with
    | cons a b => exact DxAll.drop n b
theorem DxAll.take : ∀ {ds : List D} {vs : List V} (n : Nat), DxAll K H F vs ds → DxAll K H F (vs.take n) (ds.take n)
  | _, _, 0, _ => .nil
  | [], _, _ + 1, h => by cases h; exact .nil
  | _ :: ds, _, n + 1, h => by
    cases h with
    | cons a b => exact .cons a (DxAll.take n b)
theorem DxAll.eraseIdx : ∀ {ds : List D} {vs : List V} (n : Nat), DxAll K H F vs ds → DxAll K H F (vs.eraseIdx n) (ds.eraseIdx n)
  | [], _, _, h => by cases h; exact .nil
  | _ :: ds, _, 0, h => by
    cases h with
    | cons a b => exact b
  | _ :: ds, _, n + 1, h => by
    cases h with
    | cons a b => exact .cons a (DxAll.eraseIdx n b)
theorem DxAll.rev : ∀ {ds : List D} {vs : List V}, DxAll K H F vs ds → DxAll K H F vs.reverse ds.reverse
  | [], _, h => by cases h; exact .nil
  | d :: ds, _, h => by
    cases h with
    | cons a b => rw [List.reverse_cons, List.reverse_cons]; exact b.rev.append (.cons a .nil)
theorem DxAll.cut {ds : List D} {vs : List V} (h : DxAll K H F vs ds) (a b : Nat) : DxAll K H F ((vs.drop a).take b) ((ds.drop a).take b) := (h.drop a).take b
theorem DxAll.ints : ∀ {ns : List Int} {vs : List V}, DxAll K H F vs (ns.map PyData.int) → vs = ns.map V.int
  | [], _, h => by cases h; rfl
  | n :: ns, _, h => by
    cases h with
    | cons a b => cases a; rw [DxAll.ints b]; rfl
theorem DxAll.of_ints : ∀ (ns : List Int), DxAll K H F (ns.map V.int) (ns.map PyData.int)
  | [] => .nil
  | n :: ns => .cons (.int n) (DxAll.of_ints ns)
theorem DxAll.strs : ∀ {ns : List Str} {vs : List V}, DxAll K H F vs (ns.map PyData.str) → vs = ns.map V.str
  | [], _, h => by cases h; rfl
  | n :: ns, _, h => by
    cases h with
    | cons a b => cases a; rw [DxAll.strs b]; rfl
theorem DxAll.bools : ∀ {ns : List Bool} {vs : List V}, DxAll K H F vs (ns.map PyData.bool) → vs = ns.map V.bl
  | [], _, h => by cases h; rfl
  | n :: ns, _, h => by
    cases h with
    | cons a b => cases a; rw [DxAll.bools b]; rfl
mutual
/-- as the layer's own reading of data -/
theorem Dx.dp : ∀ (d : D) (v : V), d.canLay0 = true → Dx K H F v d → Dp K H v d
  | .none, _, _, h => by cases h; exact .non
  | .bool b, _, _, h => by cases h; exact .bl b
  | .int i, _, _, h => by cases h; exact .int i
  | .str x, _, _, h => by cases h; exact .str x
  | .list ds, _, c, h => by
    cases h with
    | lst n e ha => exact .lst (.inl (.inl e)) (DxAll.dp ds _ (by simpa [PyData.canLay0] using c) ha)
  | .tuple ds, _, c, h => by
    cases h with
    | tup n e ha => exact .tup (.inl (.inl e)) (DxAll.dp ds _ (by simpa [PyData.canLay0] using c) ha)
    | tupK e ha => exact .tup (.inr e) (DxAll.dp ds _ (by simpa [PyData.canLay0] using c) ha)
  | .dict _, _, c, _ => by simp [PyData.canLay0] at c
theorem DxAll.dp : ∀ (ds : List D) (vs : List V), PyData.canLayAll0 ds = true → DxAll K H F vs ds → DpAll K H vs ds
  | [], _, _, h => by cases h; exact .nil
  | d :: ds, _, c, h => by
    cases h with
    | cons a b =>
      have c' : d.canLay0 = true ∧ PyData.canLayAll0 ds = true := by simpa [PyData.canLayAll0] using c
      exact .cons (Dx.dp d _ c'.1 a) (DxAll.dp ds _ c'.2 b)
end
/-- a dict of texts is read -/
theorem Dx.dsiA {v : V} {l : List (Str × Int)} (h : Dx K H F v (.dict (dsiD l))) : ∃ a, v = .ref a ∧ H a = some (.dK (dsiV l)) ∧ ¬ F a := by
  have inj : ∀ {l l' : List (Str × Int)}, dsiD l = dsiD l' → l = l' := fun {l} => by
    induction l with
    | nil => intro l' e; cases l' with | nil => rfl | cons _ _ => cases e
    | cons p l ih =>
      intro l' e
      cases l' with
      | nil => cases e
      | cons q l' =>
        unfold dsiD at e
        simp only [List.map_cons, List.cons.injEq, Prod.mk.injEq, PyData.str.injEq, PyData.int.injEq] at e
        rw [ih e.2, Prod.ext e.1.1 e.1.2]
  cases h with
  | dsi l' q n e => rw [← inj q] at e; exact ⟨_, rfl, e, n⟩
  | dst l' q n e =>
    cases l with
    | nil => cases q
    | cons p l => unfold dsiD dstD at q; simp at q
  | scr ns q e =>
    cases l with
    | nil => cases q
    | cons p l => unfold dsiD scrD at q; simp at q
  | fnr x q e =>
    cases l with
    | nil => cases q
    | cons p l => unfold dsiD fnD at q; simp at q
  | adr a q =>
    cases l with
    | nil => cases q
    | cons p l => unfold dsiD adrD at q; simp at q
  | exc q _ _ _ _ _ _ =>
    cases l with
    | nil => cases q
    | cons p l => unfold dsiD excD at q; simp at q
/-- a script is read -/
theorem Dx.scrA {v : V} {ns : List Int} (h : Dx K H F v (.dict (scrD ns))) : ∃ a, v = .ref a ∧ SqL K H a (ns.map V.int) ∧ ((¬ F a ∧ Rd H a (.lst (ns.map V.int))) ∨ SqLK K a (ns.map V.int)) := by
  cases h with
  | dsi l q n e =>
    cases l with
    | nil => cases q
    | cons p l => unfold dsiD scrD at q; simp at q
  | dst l q n e => unfold scrD dstD at q; simp at q
  | scr ns' q e =>
    have : ns = ns' := by
      unfold scrD at q
      have q := (List.cons.inj q).2
      have f : Function.Injective (fun n : Int => ((PyData.none, PyData.int n) : D × D)) := fun a b e => by simpa using e
      exact (List.map_inj_right (fun a b e => f e)).mp q
    subst this
    exact ⟨_, rfl, by rcases e with ⟨_, e⟩ | e; exact .inl e; exact .inr e, e⟩
  | fnr x q e => unfold scrD fnD at q; simp at q
  | adr a q => unfold scrD adrD at q; simp at q
  | exc q _ _ _ _ _ _ => unfold scrD excD at q; simp at q
/-- a def is read -/
theorem Dx.fnA {v : V} {x : Str} (h : Dx K H F v (.dict (fnD x))) : ∃ a, v = .ref a ∧ FnAt K x a := by
  cases h with
  | dsi l q n e =>
    cases l with
    | nil => cases q
    | cons p l => unfold dsiD fnD at q; simp at q
  | dst l q n e => unfold fnD dstD at q; simp at q
  | scr ns q e => unfold scrD fnD at q; simp at q
  | fnr y q e =>
    unfold fnD at q
    simp at q
    exact ⟨_, rfl, q ▸ e⟩
  | adr a q => unfold fnD adrD at q; simp at q
  | exc q _ _ _ _ _ _ => unfold fnD excD at q; simp at q
/-- an address is read -/
theorem Dx.adrA {v : V} {a : Addr} (h : Dx K H F v (.dict (adrD a))) : v = .ref a := by
  cases h with
  | dsi l q n e =>
    cases l with
    | nil => cases q
    | cons p l => unfold dsiD adrD at q; simp at q
  | dst l q n e => unfold adrD dstD at q; simp at q
  | scr ns q e => unfold scrD adrD at q; simp at q
  | fnr y q e => unfold fnD adrD at q; simp at q
  | adr b q =>
    unfold adrD at q
    simp only [List.cons.injEq, Prod.mk.injEq, PyData.int.injEq, Int.natCast_inj, and_true, true_and] at q
    rw [q]
  | exc q _ _ _ _ _ _ => unfold adrD excD at q; simp at q
/-- an exception is read -/
theorem Dx.excA {v : V} {x : Str} {w : D} (h : Dx K H F v (.dict (excD x w))) : ∃ (a C dd : Addr) (u : V), v = .ref a ∧ FlV u w ∧ FnAt K x C ∧ ¬ F a ∧ ¬ F dd ∧ H a = some (exK (.ref C) (some dd) a) ∧ H dd = some (.xd [("what", u)]) := by
  cases h with
  | dsi l q n e =>
    cases l with
    | nil => cases q
    | cons p l => unfold dsiD excD at q; simp at q
  | dst l q n e => unfold excD dstD at q; simp at q
  | scr ns q e => unfold scrD excD at q; simp at q
  | fnr y q e => unfold fnD excD at q; simp at q
  | adr b q => unfold adrD excD at q; simp at q
  | exc q fl at_ na nd ha hd =>
    unfold excD at q
    simp only [List.cons.injEq, Prod.mk.injEq, PyData.str.injEq, and_true, true_and] at q
    obtain ⟨q1, q2⟩ := q
    subst q1 q2
    exact ⟨_, _, _, _, rfl, fl, at_, na, nd, ha, hd⟩
/-- a dict of texts to texts is read -/
theorem Dx.dstA {v : V} {l : List (Str × Str)} (h : Dx K H F v (.dict (dstD l))) : ∃ a, v = .ref a ∧ H a = some (.dK (dstV l)) ∧ ¬ F a := by
  have inj : ∀ {l l' : List (Str × Str)}, (l.map fun p => ((PyData.str p.1, PyData.str p.2) : D × D)) = (l'.map fun p => ((PyData.str p.1, PyData.str p.2) : D × D)) → l = l' := fun {l} => by
    induction l with
    | nil => intro l' e; cases l' with | nil => rfl | cons _ _ => cases e
    | cons p l ih =>
      intro l' e
      cases l' with
      | nil => cases e
      | cons q l' =>
        simp only [List.map_cons, List.cons.injEq, Prod.mk.injEq, PyData.str.injEq] at e
        rw [ih e.2, Prod.ext e.1.1 e.1.2]
  cases h with
  | dsi l' q n e =>
    cases l' with
    | nil => cases q
    | cons p l' => unfold dsiD dstD at q; simp at q
  | dst l' q n e =>
    unfold dstD at q
    rw [← inj (List.cons.inj q).2] at e; exact ⟨_, rfl, e, n⟩
  | scr ns q e => unfold dstD scrD at q; simp at q
  | fnr x q e => unfold dstD fnD at q; simp at q
  | adr a q => unfold dstD adrD at q; simp at q
  | exc q _ _ _ _ _ _ => unfold dstD excD at q; simp at q
/-- a tuple is read -/
theorem Dx.sqt {v : V} {ds : List D} (h : Dx K H F v (.tuple ds)) : ∃ a xs, v = .ref a ∧ SqT K H a xs ∧ DxAll K H F xs ds := by
  cases h with
  | tup n e ha => exact ⟨_, _, rfl, .inl (.inl e), ha⟩
  | tupK e ha => exact ⟨_, _, rfl, .inr e, ha⟩
theorem Dx.sql {v : V} {ds : List D} (h : Dx K H F v (.list ds)) : ∃ a xs, v = .ref a ∧ H a = some (.lst xs) ∧ ¬ F a ∧ DxAll K H F xs ds := by
  cases h with
  | lst n e ha => exact ⟨_, _, rfl, e, n, ha⟩
end

/-! ### slots -/
inductive Slot where
  | non | dat (d : D) | own (b : Bool) (ds : List D)
  /-- a value of its own: the things at cs are nobody else's; fs tells what stands in them -/
  | raw (v : V) (cs : List (Addr × HO)) (fs : List (V × D))
/-- the frame of a call: the heap at its entry, what may not be touched, what is borrowed, where the borrowed lists stand -/
structure Fr where
  H0 : Hp
  fb : AS
  bw : AS
  l0 : Nat → Addr
def Rw (ρ : List Slot) (a : Addr) : Prop := ∃ (i : Nat) (v : V) (cs : List (Addr × HO)) (fs : List (V × D)) (o : HO), ρ[i]? = some (Slot.raw v cs fs) ∧ (a, o) ∈ cs
def Fb (fb : AS) (ρ : List Slot) (loc : Nat → Addr) : AS := fun a => fb a ∨ (Rw ρ a ∨ ∃ (i : Nat) (b : Bool) (ds : List D), ρ[i]? = some (Slot.own b ds) ∧ loc i = a)
/-- what is known of the values of their own -/
structure RawR (K : PySem.W.Frag) (G : Fr) (ρ : List Slot) (loc : Nat → Addr) (σ : St) (H : Hp) : Prop where
  at_ : ∀ (i : Nat) (v : V) (cs : List (Addr × HO)) (fs : List (V × D)), ρ[i]? = some (Slot.raw v cs fs) → σ[i]? = some (some v) ∧ (cs.map (·.1)).Nodup ∧ (∀ p ∈ cs, H p.1 = some p.2 ∧ G.H0 p.1 = none ∧ ¬ G.fb p.1) ∧ ∀ q ∈ fs, Dx K H (Fb G.fb ρ loc) q.1 q.2
  own : ∀ (a : Addr), Rw ρ a → ∀ (j : Nat) (b : Bool) (ds : List D), ρ[j]? = some (Slot.own b ds) → loc j ≠ a
  two : ∀ (i j : Nat) (v v' : V) (cs cs' : List (Addr × HO)) (fs fs' : List (V × D)) (a : Addr) (o o' : HO), ρ[i]? = some (Slot.raw v cs fs) → ρ[j]? = some (Slot.raw v' cs' fs') → (a, o) ∈ cs → (a, o') ∈ cs' → i = j
structure Rep (K : PySem.W.Frag) (G : Fr) (ρ : List Slot) (loc : Nat → Addr) (σ : St) (H : Hp) : Prop where
  len : σ.length = ρ.length
  dat : ∀ (i : Nat) (d : D), ρ[i]? = some (Slot.dat d) → ∃ v, σ[i]? = some (some v) ∧ Dx K H (Fb G.fb ρ loc) v d
  own : ∀ (i : Nat) (b : Bool) (ds : List D), ρ[i]? = some (Slot.own b ds) → σ[i]? = some (some (.ref (loc i))) ∧ ∃ vs, H (loc i) = some (.lst vs) ∧ DxAll K H (Fb G.fb ρ loc) vs ds
  apart : ∀ (i j : Nat) (b c : Bool) (ds es : List D), ρ[i]? = some (Slot.own b ds) → ρ[j]? = some (Slot.own c es) → loc i = loc j → i = j
  brw : ∀ (i : Nat) (ds : List D), ρ[i]? = some (Slot.own true ds) → loc i = G.l0 i ∧ G.bw (loc i)
  new : ∀ (i : Nat) (ds : List D), ρ[i]? = some (Slot.own false ds) → G.H0 (loc i) = none ∧ ¬ G.fb (loc i)
  ext : ∀ (b : Addr) (o : HO), G.H0 b = some o → ¬ G.bw b → H b = some o
  fbS : ∀ (b : Addr), G.fb b → ∃ o, H b = some o
  bwS : ∀ b, G.bw b → G.fb b
  raw : RawR K G ρ loc σ H

abbrev M (α : Type) := List Slot → (α → List Slot → Prop) → Prop
def Mono {α : Type} (m : M α) : Prop := ∀ ρ (k k' : α → List Slot → Prop), (∀ a ρ', k a ρ' → k' a ρ') → m ρ k → m ρ k'

/-- what is known behind an expression -/
def KE {α : Type} (K : PySem.W.Frag) (G : Fr) (loc : Nat → Addr) (σ : St) (ρ : List Slot) (H : Hp) (R : Hp → AS → V → α → Prop) (Q : VK) : α → List Slot → Prop := fun d ρ' =>
  ∀ v H', Rep K G ρ' loc σ H' → Grow (Fb G.fb ρ loc) (Fb G.fb ρ' loc) H H' → R H' (Fb G.fb ρ' loc) v d → Q v H'
def TEof (K : PySem.W.Frag) (m : M D) : TE := fun σ H Q => ∃ G loc ρ, Rep K G ρ loc σ H ∧ m ρ fun d ρ' =>
  ∀ v H', Rep K G ρ' loc σ H' → Grow (Fb G.fb ρ loc) (Fb G.fb ρ' loc) H H' → Dx K H' (Fb G.fb ρ' loc) v d → Q v H'
structure EM (X : Cx) (e : Expr) (m : M D) : Prop where
  mono : Mono m
  run : PE X e (TEof X.K m)
def TTof (K : PySem.W.Frag) (m : M Bool) : TT := fun σ H Q => ∃ G loc ρ, Rep K G ρ loc σ H ∧ m ρ fun b ρ' =>
  ∀ H', Rep K G ρ' loc σ H' → Grow (Fb G.fb ρ loc) (Fb G.fb ρ' loc) H H' → Q b H'
structure TM (X : Cx) (e : Expr) (m : M Bool) : Prop where
  mono : Mono m
  run : PT X e (TTof X.K m)
structure WM (X : Cx) (e : Expr) (m : M Bool) : Prop where
  mono : Mono m
  run : PW X e (TTof X.K m)
def TAof (K : PySem.W.Frag) (m : M (List D)) : TA := fun σ H Q => ∃ G loc ρ, Rep K G ρ loc σ H ∧ m ρ fun ds ρ' =>
  ∀ vs H', Rep K G ρ' loc σ H' → Grow (Fb G.fb ρ loc) (Fb G.fb ρ' loc) H H' → DxAll K H' (Fb G.fb ρ' loc) vs ds → Q vs H'
structure AM (X : Cx) (es : List Expr) (m : M (List D)) : Prop where
  mono : Mono m
  run : PA X es (TAof X.K m)
/-- a frame in which p is not touched, either -/
def Fr.plus (G : Fr) (p : Addr) : Fr := { G with fb := fun a => G.fb a ∨ a = p }
/-- a new list -/
def TNof (K : PySem.W.Frag) (m : M (List D)) : TE := fun σ H Q => ∃ G loc ρ, Rep K G ρ loc σ H ∧ m ρ fun ds ρ' =>
  ∀ p vs H', G.H0 p = none → ¬ G.fb p → H' p = some (.lst vs) → Rep K (G.plus p) ρ' loc σ H' → Grow (Fb G.fb ρ loc) (Fb (G.plus p).fb ρ' loc) H H' →
    DxAll K H' (Fb (G.plus p).fb ρ' loc) vs ds → Q (.ref p) H'
structure NM (X : Cx) (e : Expr) (m : M (List D)) : Prop where
  mono : Mono m
  run : PE X e (TNof X.K m)

/-- what is wanted behind a statement -/
structure SK where
  nx : List Slot → Prop
  rt : Bool → D → List Slot → Prop
  bk : List Slot → Prop := fun _ => False
  ct : List Slot → Prop := fun _ => False
abbrev SMon := SK → List Slot → Prop
structure SK.le (k k' : SK) : Prop where
  nx : ∀ ρ, k.nx ρ → k'.nx ρ
  rt : ∀ b d ρ, k.rt b d ρ → k'.rt b d ρ
  bk : ∀ ρ, k.bk ρ → k'.bk ρ
  ct : ∀ ρ, k.ct ρ → k'.ct ρ
def SMono (m : SMon) : Prop := ∀ k k' ρ, SK.le k k' → m k ρ → m k' ρ
/-- the layer's ends are what the slots' ends come to -/
def Lands (K : PySem.W.Frag) (G : Fr) (loc : Nat → Addr) (ρ : List Slot) (H : Hp) (k : List Slot → Prop) (q : St → Hp → Prop) : Prop :=
  ∀ ρ' loc' σ' H', Rep K G ρ' loc' σ' H' → Grow (Fb G.fb ρ loc) (Fb G.fb ρ' loc') H H' → k ρ' → q σ' H'
/-- a list that is new since H0, which nothing else leads to -/
def IsNew (K : PySem.W.Frag) (H0 : Hp) (F : AS) (H : Hp) (v : V) (d : D) : Prop := ∃ p ws xs, v = .ref p ∧ d = .list xs ∧ H0 p = none ∧ H p = some (.lst ws) ∧ DxAll K H (fun a => F a ∨ a = p) ws xs
def LandsR (K : PySem.W.Frag) (G : Fr) (loc : Nat → Addr) (ρ : List Slot) (H : Hp) (k : Bool → D → List Slot → Prop) (q : VK) : Prop :=
  ∀ b d ρ' loc' σ' v H', Rep K G ρ' loc' σ' H' → Grow (Fb G.fb ρ loc) (Fb G.fb ρ' loc') H H' → Dx K H' (Fb G.fb ρ' loc') v d → (b = true → IsNew K G.H0 (Fb G.fb ρ' loc') H' v d) → k b d ρ' → q v H'
def TSof (K : PySem.W.Frag) (m : SMon) : TS := fun E σ H => ∃ G loc ρ k, Rep K G ρ loc σ H ∧ m k ρ ∧ Lands K G loc ρ H k.nx E.nx ∧ LandsR K G loc ρ H k.rt E.rt ∧ Lands K G loc ρ H k.bk E.bk ∧ Lands K G loc ρ H k.ct E.ct
structure SM (X : Cx) (st : Stmt) (m : SMon) : Prop where
  mono : SMono m
  run : PS X st (TSof X.K m)
structure BM (X : Cx) (sts : List Stmt) (m : SMon) : Prop where
  mono : SMono m
  run : PSs X sts (TSof X.K m)

section
variable {X : Cx} {e : Expr} {es : List Expr} {st : Stmt} {sts : List Stmt}
theorem pe_weak {t t' : TE} (h : PE X e t) (w : ∀ σ H Q, t' σ H Q → t σ H Q) : PE X e t' := ⟨fun pins s σ H Q I q => h.run pins s σ H Q I (w _ _ _ q)⟩
theorem pt_weak {t t' : TT} (h : PT X e t) (w : ∀ σ H Q, t' σ H Q → t σ H Q) : PT X e t' := ⟨fun pins s σ H Q I q => h.run pins s σ H Q I (w _ _ _ q)⟩
theorem pw_weak {t t' : TT} (h : PW X e t) (w : ∀ σ H Q, t' σ H Q → t σ H Q) : PW X e t' := ⟨fun wh pins s σ H Q I q => h.run wh pins s σ H Q I (w _ _ _ q)⟩
theorem pa_weak {t t' : TA} (h : PA X es t) (w : ∀ σ H Q, t' σ H Q → t σ H Q) : PA X es t' := ⟨fun pos pins s σ H Q I q => h.run pos pins s σ H Q I (w _ _ _ q)⟩
theorem ps_weak {t t' : TS} (h : PS X st t) (w : ∀ E σ H, t' E σ H → t E σ H) : PS X st t' := ⟨fun pins s σ H E I q => h.run pins s σ H E I (w _ _ _ q)⟩
theorem pss_weak {t t' : TS} (h : PSs X sts t) (w : ∀ E σ H, t' E σ H → t E σ H) : PSs X sts t' := ⟨fun pins s σ H E I q => h.run pins s σ H E I (w _ _ _ q)⟩
end

/-! ### how what is known is carried on -/
section
variable {K : PySem.W.Frag} {G : Fr} {ρ ρ' : List Slot} {loc loc' : Nat → Addr} {σ : St} {H H' : Hp}
theorem RawR.no (h : ∀ a, ¬ Rw ρ a) (n : ∀ (i : Nat) (v : V) (cs : List (Addr × HO)) (fs : List (V × D)), ρ[i]? ≠ some (Slot.raw v cs fs)) : RawR K G ρ loc σ H :=
  ⟨fun i v cs fs e => (n i v cs fs e).elim, fun a z => (h a z).elim, fun i _ v _ cs _ fs _ _ _ _ e => (n i v cs fs e).elim⟩
theorem RawR.here (R : RawR K G ρ loc σ H) {a : Addr} (z : Rw ρ a) : (∃ o, H a = some o) ∧ G.H0 a = .none ∧ ¬ G.fb a := by
  obtain ⟨i, v, cs, fs, o, e, m⟩ := z
  obtain ⟨_, _, c, _⟩ := R.at_ i v cs fs e
  exact ⟨⟨o, (c _ m).1⟩, (c _ m).2⟩
theorem Rw.sub (r : ∀ (i : Nat) (v : V) (cs : List (Addr × HO)) (fs : List (V × D)), ρ'[i]? = some (Slot.raw v cs fs) → ρ[i]? = some (Slot.raw v cs fs)) {a : Addr} (z : Rw ρ' a) : Rw ρ a := by
  obtain ⟨i, v, cs, fs, o, e, m⟩ := z
  exact ⟨i, v, cs, fs, o, r i v cs fs e, m⟩
/-- .. kept from step to step -/
theorem RawR.step {G' : Fr} {σ' : St} (R : RawR K G ρ loc σ H) (r : ∀ (i : Nat) (v : V) (cs : List (Addr × HO)) (fs : List (V × D)), ρ'[i]? = some (Slot.raw v cs fs) → ρ[i]? = some (Slot.raw v cs fs) ∧ σ'[i]? = σ[i]?)
    (o : ∀ (j : Nat) (b : Bool) (ds : List D), ρ'[j]? = some (Slot.own b ds) → (∃ c es, ρ[j]? = some (Slot.own c es) ∧ loc' j = loc j) ∨ ∀ a, Rw ρ a → loc' j ≠ a) (g : Grow (Fb G.fb ρ loc) (Fb G'.fb ρ' loc') H H')
    (k : ∀ a u, Rw ρ a → H a = some u → H' a = some u) (n : ∀ a, Rw ρ a → G.H0 a = .none → ¬ G.fb a → G'.H0 a = .none ∧ ¬ G'.fb a) : RawR K G' ρ' loc' σ' H' := by
  have r1 := fun (i : Nat) (v : V) (cs : List (Addr × HO)) (fs : List (V × D)) e => (r i v cs fs e).1
  refine ⟨fun i v cs fs e => ?_, fun a z j b ds e => ?_, fun i j v v' cs cs' fs fs' a o o' e e' m m' => R.two i j v v' cs cs' fs fs' a o o' (r1 _ _ _ _ e) (r1 _ _ _ _ e') m m'⟩
  · obtain ⟨h1, h2⟩ := r i v cs fs e
    obtain ⟨a, b, c, d⟩ := R.at_ i v cs fs h1
    refine ⟨by rw [h2]; exact a, b, fun p hp => ?_, fun q hq => (d q hq).g g⟩
    have w : Rw ρ p.1 := ⟨i, v, cs, fs, p.2, h1, hp⟩
    obtain ⟨x, y, z⟩ := c p hp
    exact ⟨k _ _ w x, n _ w y z⟩
  · rcases o j b ds e with ⟨c, es, q, l⟩ | q
    · rw [l]; exact R.own a (Rw.sub r1 z) j c es q
    · exact q a (Rw.sub r1 z)
theorem Rep.notFb (R : Rep K G ρ loc σ H) {p : Addr} (h : H p = none) : ¬ Fb G.fb ρ loc p := by
  rintro (q | q | ⟨i, b, ds, e, rfl⟩)
  · obtain ⟨o, q⟩ := R.fbS p q
    rw [h] at q; cases q
  · obtain ⟨⟨o, q⟩, _⟩ := R.raw.here q
    rw [h] at q; cases q
  · obtain ⟨_, vs, q, _⟩ := R.own i b ds e
    rw [h] at q; cases q
theorem Rep.h0 (R : Rep K G ρ loc σ H) {p : Addr} (h : H p = none) : G.H0 p = none := by
  cases q : G.H0 p with
  | none => rfl
  | some o =>
    by_cases hw : G.bw p
    · obtain ⟨o, q⟩ := R.fbS p (R.bwS p hw)
      rw [h] at q; cases q
    · rw [R.ext p o q hw] at h; cases h
/-- the heap has grown -/
theorem Rep.more (R : Rep K G ρ loc σ H) (x : ∀ b o, H b = some o → H' b = some o) : Rep K G ρ loc σ H' := by
  have g : Grow (Fb G.fb ρ loc) (Fb G.fb ρ loc) H H' := fun b o e n => ⟨x b o e, n⟩
  refine ⟨R.len, fun i d e => ?_, fun i b ds e => ?_, R.apart, R.brw, R.new, fun b o e n => x _ _ (R.ext b o e n), fun b e => ?_, R.bwS, R.raw.step (fun _ _ _ _ e => ⟨e, rfl⟩) (fun j b ds e => .inl ⟨b, ds, e, rfl⟩) g (fun a u _ e => x a u e) fun _ _ a b => ⟨a, b⟩⟩
  · obtain ⟨v, h1, h2⟩ := R.dat i d e
    exact ⟨v, h1, h2.g g⟩
  · obtain ⟨h1, vs, h2, h3⟩ := R.own i b ds e
    exact ⟨h1, vs, x _ _ h2, h3.g g⟩
  · obtain ⟨o, q⟩ := R.fbS b e
    exact ⟨o, x _ _ q⟩
theorem more_grow {F : AS} (x : ∀ b o, H b = some o → H' b = some o) : Grow F F H H' := fun b o e n => ⟨x b o e, n⟩
theorem upd_more {p : Addr} {o : HO} (h : H p = none) : ∀ b u, H b = some u → upd H p o b = some u := fun b u e => by
  rw [upd_ne (ne_of_none e h)]; exact e
/-- what is owned is read for good -/
theorem Fb_freeze {fb : AS} {i : Nat} {d : D} (a : Addr) (h : Fb fb (ρ.set i (.dat d)) loc a) : Fb fb ρ loc a := by
  rcases h with h | z | ⟨j, b, ds, e, l⟩
  · exact .inl h
  · refine .inr (.inl (Rw.sub (fun j v cs fs e => ?_) z))
    by_cases hj : i = j
    · subst hj
      by_cases hl : i < ρ.length
      · rw [List.getElem?_set_self hl] at e; cases e
      · rw [List.getElem?_eq_none (by simpa using hl)] at e; cases e
    · rwa [List.getElem?_set_ne hj] at e
  · refine .inr (.inr ⟨j, b, ds, ?_, l⟩)
    by_cases hj : i = j
    · subst hj
      by_cases hl : i < ρ.length
      · rw [List.getElem?_set_self hl] at e; cases e
      · rw [List.getElem?_eq_none (by simpa using hl)] at e; cases e
    · rwa [List.getElem?_set_ne hj] at e
theorem Rep.freeze (R : Rep K G ρ loc σ H) {i : Nat} {ds : List D} (e : ρ[i]? = some (Slot.own false ds)) :
    Rep K G (ρ.set i (.dat (.list ds))) loc σ H ∧ Dx K H (Fb G.fb (ρ.set i (.dat (.list ds))) loc) (.ref (loc i)) (.list ds) := by
  have hl : i < ρ.length := by
    rw [← List.getElem?_eq_some_iff.mp e |>.2] at e
    exact (List.getElem?_eq_some_iff.mp e).1
  obtain ⟨h1, vs, h2, h3⟩ := R.own i false ds e
  obtain ⟨n1, n2⟩ := R.new i ds e
  have sub : ∀ a, Fb G.fb (ρ.set i (.dat (.list ds))) loc a → Fb G.fb ρ loc a := fun a => Fb_freeze a
  have nf : ¬ Fb G.fb (ρ.set i (.dat (.list ds))) loc (loc i) := by
    rintro (q | z | ⟨j, b, es, e', l⟩)
    · exact n2 q
    · refine R.raw.own (loc i) (Rw.sub (fun j v cs fs q => ?_) z) i false ds e rfl
      by_cases hj : i = j
      · subst hj
        rw [List.getElem?_set_self hl] at q; cases q
      · rwa [List.getElem?_set_ne hj] at q
    · by_cases hj : i = j
      · subst hj
        rw [List.getElem?_set_self hl] at e'; cases e'
      · rw [List.getElem?_set_ne hj] at e'
        exact hj (R.apart i j _ _ _ _ e e' l.symm)
  have dx : Dx K H (Fb G.fb (ρ.set i (.dat (.list ds))) loc) (.ref (loc i)) (.list ds) := .lst nf h2 (h3.weak sub)
  have gt : ∀ j s, (ρ.set i (.dat (.list ds)))[j]? = some s → (j = i ∧ s = .dat (.list ds)) ∨ ρ[j]? = some s := fun j s q => by
    by_cases hj : i = j
    · subst hj
      rw [List.getElem?_set_self hl] at q
      exact .inl ⟨rfl, (Option.some.inj q).symm⟩
    · rw [List.getElem?_set_ne hj] at q; exact .inr q
  refine ⟨⟨by rw [List.length_set]; exact R.len, fun j d q => ?_, fun j b es q => ?_, fun j l b c es fs q q' z => ?_, fun j es q => ?_, fun j es q => ?_, R.ext, R.fbS, R.bwS, R.raw.step (fun j v cs fs q => ?_) (fun j b es q => ?_) (fun b o e n => ⟨e, fun z => n (sub b z)⟩) (fun _ _ _ e => e) fun _ _ a b => ⟨a, b⟩⟩, dx⟩
  · rcases gt j _ q with ⟨rfl, q'⟩ | q'
    · cases q'; exact ⟨_, h1, dx⟩
    · obtain ⟨v, a, b⟩ := R.dat j d q'
      exact ⟨v, a, b.weak sub⟩
  · rcases gt j _ q with ⟨_, q'⟩ | q'
    · cases q'
    · obtain ⟨a, ws, b, c⟩ := R.own j b es q'
      exact ⟨a, ws, b, c.weak sub⟩
  · rcases gt j _ q with ⟨_, q1⟩ | q1
    · cases q1
    · rcases gt l _ q' with ⟨_, q2⟩ | q2
      · cases q2
      · exact R.apart j l b c es fs q1 q2 z
  · rcases gt j _ q with ⟨_, q1⟩ | q1
    · cases q1
    · exact R.brw j es q1
  · rcases gt j _ q with ⟨_, q1⟩ | q1
    · cases q1
    · exact R.new j es q1
  · rcases gt j _ q with ⟨_, q1⟩ | q1
    · cases q1
    · exact ⟨q1, rfl⟩
  · rcases gt j _ q with ⟨_, q1⟩ | q1
    · cases q1
    · exact .inl ⟨b, es, q1, rfl⟩
end
end DL

namespace DL
open PySem L2

/-! ### names and constants -/
def mPure {α : Type} (a : α) : M α := fun ρ k => k a ρ
def mVar (i : Nat) : M D := fun ρ k => match ρ[i]? with
  | some (.dat d) => k d ρ
  | some (.own false ds) => k (.list ds) (ρ.set i (.dat (.list ds)))
  | _ => False
theorem mono_pure {α : Type} {a : α} : Mono (mPure a) := fun _ _ _ h q => h _ _ q
theorem mono_var {i : Nat} : Mono (mVar i) := fun ρ k k' h q => by
  unfold mVar at q ⊢
  split at q
  · exact h _ _ q
  · exact h _ _ q
  · exact q.elim
section
variable {X : Cx}
theorem em_var (i : Nat) {x : Str} {pos : Pos} (h : PE X (.Name x pos) (tVar i)) : EM X (.Name x pos) (mVar i) := by
  refine ⟨mono_var, pe_weak h ?_⟩
  rintro σ H Q ⟨G, loc, ρ, R, q⟩
  unfold mVar at q
  split at q
  · rename_i d e
    obtain ⟨v, h1, h2⟩ := R.dat i d e
    exact ⟨v, h1, q v H R Grow.refl h2⟩
  · rename_i ds e
    obtain ⟨R', dx⟩ := R.freeze e
    exact ⟨_, (R.own i false ds e).1, q _ H R' (fun b o e n => ⟨e, fun z => n (Fb_freeze b z)⟩) dx⟩
  · exact q.elim
theorem em_c {e : Expr} {v : V} {d : D} (h : PE X e (tC v)) (c : ∀ H F, Dx X.K H F v d) : EM X e (mPure d) := by
  refine ⟨mono_pure, pe_weak h ?_⟩
  rintro σ H Q ⟨G, loc, ρ, R, q⟩
  exact q v H R Grow.refl (c _ _)
theorem em_int {i j pos} : EM X (.Constant (.int i) j pos) (mPure (.int i)) := em_c pe_int fun _ _ => .int i
theorem em_bl {b j pos} : EM X (.Constant (.bool b) j pos) (mPure (.bool b)) := em_c pe_bl fun _ _ => .bl b
theorem em_non {j pos} : EM X (.Constant .none j pos) (mPure .none) := em_c pe_non fun _ _ => .non
theorem em_str {x j pos} : EM X (.Constant (.str x) j pos) (mPure (.str x)) := em_c pe_str fun _ _ => .str x
end

/-! ### operators -/
def Pm1 (p : (D → Prop) → Prop) : Prop := ∀ k k' : D → Prop, (∀ d, k d → k' d) → p k → p k'
theorem OpR.or {X : Cx} {f : Value → Value → Sem Value} {r r' : R2} (h : OpR X f r) (h' : OpR X f r') : OpR X f (fun x y H Q => r x y H Q ∨ r' x y H Q) := by
  intro pins s σ H x y v u Q I rx ry q
  rcases q with q | q
  · exact h pins s σ H x y v u Q I rx ry q
  · exact h' pins s σ H x y v u Q I rx ry q
theorem OpR.weak {X : Cx} {f : Value → Value → Sem Value} {r r' : R2} (h : OpR X f r) (w : ∀ x y H Q, r' x y H Q → r x y H Q) : OpR X f r' := by
  intro pins s σ H x y v u Q I rx ry q
  exact h pins s σ H x y v u Q I rx ry (w _ _ _ _ q)
/-- what is wanted of a value that data stands for; the heap may have grown -/
def Kd (K : PySem.W.Frag) (F : AS) (H : Hp) (Q : VK) : D → Prop := fun d => ∀ v H', (∀ c o, H c = some o → H' c = some o) → Dx K H' F v d → Q v H'
abbrev P2 := D → D → (D → Prop) → Prop
def Prim2 (K : PySem.W.Frag) (r : R2) (p : P2) : Prop := ∀ (F : AS) (H : Hp) (x y : V) (a b : D) (Q : VK), (∀ c, F c → ∃ o, H c = some o) → Dx K H F x a → Dx K H F y b → p a b (Kd K F H Q) → r x y H Q
def mBin (p : P2) (ma mb : M D) : M D := fun ρ k => ma ρ fun a ρ1 => mb ρ1 fun b ρ2 => p a b fun d => k d ρ2
theorem mono_bin {p : P2} {ma mb : M D} (mp : ∀ a b, Pm1 (p a b)) (ha : Mono ma) (hb : Mono mb) : Mono (mBin p ma mb) := fun ρ k k' h q =>
  ha ρ _ _ (fun a ρ1 q1 => hb ρ1 _ _ (fun b ρ2 q2 => mp a b _ _ (fun d q3 => h d ρ2 q3) q2) q1) q
theorem Rep.fbE {K : PySem.W.Frag} {G : Fr} {ρ : List Slot} {loc : Nat → Addr} {σ : L2.St} {H : Hp} (R : Rep K G ρ loc σ H) : ∀ c, Fb G.fb ρ loc c → ∃ o, H c = some o := by
  rintro c (q | z | ⟨i, b, ds, e, rfl⟩)
  · exact R.fbS c q
  · exact (R.raw.here z).1
  · obtain ⟨_, vs, q, _⟩ := R.own i b ds e
    exact ⟨_, q⟩
/-- two values, one behind the other -/
theorem two_vals {K : PySem.W.Frag} {ma mb : M D} {r : R2} {p : P2} (hp : Prim2 K r p) (mp : ∀ a b, Pm1 (p a b)) (mba : Mono ma) (mbb : Mono mb) {σ : L2.St} {H : Hp} {Q : VK} (h : TEof K (mBin p ma mb) σ H Q) :
    tOp r (TEof K ma) (TEof K mb) σ H Q := by
  obtain ⟨G, loc, ρ, R, q⟩ := h
  refine ⟨G, loc, ρ, R, mba ρ _ _ (fun a ρ1 q1 v H1 R1 g1 d1 => ?_) q⟩
  refine ⟨G, loc, ρ1, R1, mbb ρ1 _ _ (fun b ρ2 q2 u H2 R2 g2 d2 => ?_) q1⟩
  refine hp (Fb G.fb ρ2 loc) H2 v u a b Q R2.fbE (d1.g g2) d2 (mp a b _ _ (fun d q3 w H3 m3 d3 => ?_) q2)
  exact q3 w H3 (R2.more m3) ((g1.trans g2).trans (more_grow m3)) d3

def addD : P2
  | .int i, .int j, k => k (.int (i + j))
  | .str x, .str y, k => x.length + y.length ≤ sizeLine ∧ k (.str (x ++ y))
  | .list xs, .list ys, k => xs.length + ys.length ≤ sizeLine ∧ k (.list (xs ++ ys))
  | .tuple xs, .tuple ys, k => (xs ≠ [] ∧ xs.length + ys.length ≤ sizeLine) ∧ k (.tuple (xs ++ ys))
  | _, _, _ => False
def subD : P2
  | .int i, .int j, k => k (.int (i - j))
  | _, _, _ => False
/-- a text so often -/
def repS (x : Str) (n : Nat) : Str := ⟨(List.replicate n x.cps.toList).flatten.toArray⟩
def mulD : P2
  | .int i, .int j, k => CMul i j ∧ k (.int (i * j))
  | .str x, .int j, k => (j < 16777217 ∧ -16777217 < j ∧ x.length * j.toNat ≤ sizeLine) ∧ k (.str (repS x j.toNat))
  | .list xs, .int j, k => (-(2 ^ 63) ≤ j ∧ j < 2 ^ 63 ∧ xs.length * j.toNat ≤ sizeLine) ∧ k (.list (List.replicate j.toNat xs).flatten)
  | .tuple xs, .int j, k => (xs ≠ [] ∧ 2 ≤ j ∧ j ≤ 1000 ∧ xs.length ≤ 1000) ∧ k (.tuple (List.replicate j.toNat xs).flatten)
  | _, _, _ => False
def fdivD : P2
  | .int i, .int j, k => CDiv i j ∧ k (.int (i / j))
  | _, _, _ => False
def modD : P2
  | .int i, .int j, k => 0 < j ∧ k (.int (i % j))
  | _, _, _ => False
def powD : P2
  | .int i, .int j, k => CPow i j ∧ k (.int (i ^ j.toNat))
  | _, _, _ => False
def eqD : P2 := fun a b k => (SeqAt.shaped a = true ∧ SeqAt.shaped b = true) ∧ k (.bool (PyData.eqv a b))
def neD : P2 := fun a b k => (SeqAt.shaped a = true ∧ SeqAt.shaped b = true) ∧ k (.bool (!PyData.eqv a b))
def ltD : P2
  | .int i, .int j, k => k (.bool (decide (i < j)))
  | .str x, .str y, k => k (.bool (decide (x.cps.toList < y.cps.toList)))
  | _, _, _ => False
def leD : P2
  | .int i, .int j, k => k (.bool (decide (i ≤ j)))
  | .str x, .str y, k => k (.bool (!decide (y.cps.toList < x.cps.toList)))
  | _, _, _ => False
def gtD : P2 := fun a b k => ltD b a k
def geD : P2 := fun a b k => leD b a k
def isD : P2
  | a, .none, k => k (.bool (match a with | .none => true | _ => false))
  | .bool a, .bool b, k => k (.bool (decide (a = b)))
  | _, _, _ => False
def isnD : P2
  | a, .none, k => k (.bool (match a with | .none => false | _ => true))
  | .bool a, .bool b, k => k (.bool (!decide (a = b)))
  | _, _, _ => False

section
variable {K : PySem.W.Frag}
theorem fresh_new {F : AS} {H : Hp} (hF : ∀ c, F c → ∃ o, H c = some o) {p : Addr} (h : H p = none) : ¬ F p := fun q => by
  obtain ⟨o, e⟩ := hF p q
  rw [h] at e; cases e
/-- a new list, a new tuple as data -/
theorem new_lst {F : AS} {H : Hp} (hF : ∀ c, F c → ∃ o, H c = some o) {xs : List V} {ds : List D} (h : DxAll K H F xs ds) {Q : VK} (q : Kd K F H Q (.list ds)) : ∀ p, H p = none → Q (.ref p) (upd H p (.lst xs)) := fun p hp =>
  q _ _ (upd_more hp) (.lst (fresh_new hF hp) upd_same (h.g (more_grow (upd_more hp))))
theorem new_tup {F : AS} {H : Hp} (hF : ∀ c, F c → ∃ o, H c = some o) {xs : List V} {ds : List D} (h : DxAll K H F xs ds) {Q : VK} (q : Kd K F H Q (.tuple ds)) : ∀ p, H p = none → Q (.ref p) (upd H p (.tup xs)) := fun p hp =>
  q _ _ (upd_more hp) (.tup (fresh_new hF hp) upd_same (h.g (more_grow (upd_more hp))))
theorem Kd.now {F : AS} {H : Hp} {Q : VK} {d : D} (q : Kd K F H Q d) {v : V} (h : Dx K H F v d) : Q v H := q v H (fun _ _ e => e) h
theorem DxAll.nil_iff {F : AS} {H : Hp} {xs : List V} {ds : List D} (h : DxAll K H F xs ds) : xs = [] ↔ ds = [] := by
  have e := h.length
  constructor
  · rintro rfl; exact List.eq_nil_of_length_eq_zero e.symm
  · rintro rfl; exact List.eq_nil_of_length_eq_zero e
def rAddU (K : PySem.W.Frag) : R2 := fun x y H Q => (rI0 (fun i j => .int (i + j)) x y H Q ∨ (∃ i j, x = .str i ∧ y = .str j ∧ i.length + j.length ≤ sizeLine ∧ Q (.str (i ++ j)) H)) ∨ (rCat x y H Q ∨ rCatT K x y H Q)
theorem op_addU {X : Cx} : OpR X (binaryOp .Add) (rAddU X.K) := OpR.or (OpR.or op_add op_add_str) (OpR.or op_cat op_catT)
theorem pm_add (a b : D) : Pm1 (addD a b) := fun k k' h q => by
  cases a <;> cases b <;> first | exact q.elim | exact h _ q | exact ⟨q.1, h _ q.2⟩
theorem prim_add : Prim2 K (rAddU K) addD := by
  intro F H x y a b Q hF hx hy h
  cases a <;> cases b <;> first | exact (show False from h).elim | skip
  · cases hx; cases hy
    exact .inl (.inl ⟨_, _, rfl, rfl, h.now (.int _)⟩)
  · cases hx; cases hy
    exact .inl (.inr ⟨_, _, rfl, rfl, h.1, h.2.now (.str _)⟩)
  · obtain ⟨p, xs, rfl, e1, n1, d1⟩ := hx.sql
    obtain ⟨q, ys, rfl, e2, n2, d2⟩ := hy.sql
    exact .inr (.inl ⟨p, q, xs, ys, rfl, rfl, e1, e2, by rw [d1.length, d2.length]; exact h.1, new_lst hF (d1.append d2) h.2⟩)
  · obtain ⟨p, xs, rfl, e1, d1⟩ := hx.sqt
    obtain ⟨q, ys, rfl, e2, d2⟩ := hy.sqt
    refine .inr (.inr ⟨p, q, xs, ys, rfl, rfl, e1, e2, fun z => h.1.1 (d1.nil_iff.mp z), by rw [d1.length, d2.length]; exact h.1.2, fun z => ?_, fun z => new_tup hF (d1.append d2) h.2⟩)
    have z2 := d2.nil_iff.mp z
    subst z2
    have h2 := h.2
    rw [List.append_nil] at h2
    exact h2.now hx
theorem pm_sub (a b : D) : Pm1 (subD a b) := fun k k' h q => by
  cases a <;> cases b <;> first | exact q.elim | exact h _ q
theorem prim_sub : Prim2 K (rI0 fun i j => .int (i - j)) subD := by
  intro F H x y a b Q hF hx hy h
  cases a <;> cases b <;> first | exact (show False from h).elim | skip
  cases hx; cases hy
  exact ⟨_, _, rfl, rfl, h.now (.int _)⟩
end
end DL

namespace DL
open PySem L2

theorem foldl_app (l : List Nat) (x : Array Nat) : ∀ n (acc : Array Nat), (List.replicate n x).foldl (· ++ ·) acc = acc ++ ((List.replicate n x.toList).flatten).toArray
  | 0, acc => by simp
  | n + 1, acc => by
    rw [List.replicate_succ, List.foldl_cons, foldl_app l x n, List.replicate_succ, List.flatten_cons]
    apply Array.ext'
    simp
theorem repS_eq (x : Str) (n : Nat) : (⟨(List.replicate n x.cps).foldl (· ++ ·) #[]⟩ : Str) = repS x n := by
  unfold repS
  rw [foldl_app [] x.cps n #[]]
  simp
theorem repS_len (x : Str) (n : Nat) : (repS x n).length = x.length * n := by
  show ((List.replicate n x.cps.toList).flatten.toArray).size = x.cps.size * n
  rw [List.size_toArray]
  induction n with
  | zero => simp
  | succ n ih => rw [List.replicate_succ, List.flatten_cons, List.length_append, ih, Array.length_toList, Nat.mul_succ, Nat.add_comm]
theorem repS_one (x : Str) : repS x 1 = x := by
  unfold repS
  simp
theorem repS_zero (x : Str) : repS x 0 = Str.empty := by
  unfold repS
  rfl
theorem repS_nil {x : Str} (h : x.length = 0) (n : Nat) : repS x n = x := by
  obtain ⟨c⟩ := x
  have hc : c = #[] := Array.eq_empty_of_size_eq_zero h
  subst hc
  unfold repS
  simp
/-- a text times an int -/
def rRepS : R2 := fun x y H Q => ∃ z n, x = .str z ∧ y = .int n ∧ (n < 16777217 ∧ -16777217 < n ∧ z.length * n.toNat ≤ sizeLine) ∧ Q (.str (repS z n.toNat)) H
theorem op_repS {X : Cx} : OpR X (binaryOp .Mult) rRepS := by
  intro pins s σ H x y v u Q I rx ry h
  obtain ⟨z, n, rfl, rfl, ⟨h1, h2, h3⟩, q⟩ := h
  obtain ⟨t, rfl⟩ := rx
  obtain ⟨t', rfl⟩ := ry
  have hs : sizeLine = 16777216 := sizeLine_eq
  refine PySem.P.mul_str ?_ (fun a b => ?_) (fun a b => ?_) ?_
  · have e1 : ¬ n < -(2 ^ 63 : Int) := by omega
    have e2 : ¬ n ≥ 2 ^ 63 := by omega
    rw [decide_eq_false e1, decide_eq_false e2]; rfl
  · intro c
    rw [Bool.or_eq_false_iff] at b
    have hz : z.length ≠ 0 := by have := b.2; intro q; rw [q] at this; cases this
    have hle : z.length ≤ z.length * n.toNat := Nat.le_mul_of_pos_right _ (by omega)
    have hle2 : (z.length : Int) * n ≤ 16777216 := by
      have : ((z.length * n.toNat : Nat) : Int) ≤ 16777216 := by omega
      rw [Int.natCast_mul, Int.toNat_of_nonneg (by omega)] at this
      exact this
    have : (z.length : Int) ≤ (2 ^ 63 - 1) / n := Int.le_ediv_of_mul_le (by omega) (by omega)
    omega
  · show PySem.Builtin.Str.tooLong (z.length * n.toNat) = false
    unfold PySem.Builtin.Str.tooLong
    first
      | exact decide_eq_false (by omega)
      | (simp; omega)
  · by_cases hn : n < 1
    · rw [if_pos hn]
      have e0 : n.toNat = 0 := by omega
      rw [e0, repS_zero] at q
      exact ⟨by decide, .str _, H, I.tok _, ⟨_, rfl⟩, q⟩
    · rw [if_neg hn]
      by_cases c : (n == 1 || z.length == 0) = true
      · rw [if_pos c]
        have e : repS z n.toNat = z := by
          rw [Bool.or_eq_true] at c
          rcases c with c | c
          · have : n = 1 := by simpa using c
            subst this
            exact repS_one z
          · exact repS_nil (by simpa using c) _
        rw [e] at q
        exact ⟨.str _, H, I, ⟨_, rfl⟩, q⟩
      · rw [if_neg c, repS_eq]
        exact ⟨by show (repS z n.toNat).length ≤ sizeLine; rw [repS_len]; exact h3, .str _, H, I.tok _, ⟨_, rfl⟩, q⟩
section
variable {K : PySem.W.Frag}
def rMulU (K : PySem.W.Frag) : R2 := fun x y H Q => (rI CMul (fun i j => .int (i * j)) x y H Q ∨ rRepS x y H Q) ∨ (rRep x y H Q ∨ rRepT K x y H Q)
theorem op_mulU {X : Cx} : OpR X (binaryOp .Mult) (rMulU X.K) := OpR.or (OpR.or op_mul op_repS) (OpR.or op_rep op_repT)
theorem pm_mul (a b : D) : Pm1 (mulD a b) := fun k k' h q => by
  cases a <;> cases b <;> first | exact q.elim | exact ⟨q.1, h _ q.2⟩
theorem dx_reps {F : AS} {H : Hp} {xs : List V} {ds : List D} (h : DxAll K H F xs ds) : ∀ n, DxAll K H F (List.replicate n xs).flatten (List.replicate n ds).flatten
  | 0 => .nil
  | n + 1 => by
    rw [List.replicate_succ, List.replicate_succ, List.flatten_cons, List.flatten_cons]
    exact h.append (dx_reps h n)
theorem prim_mul : Prim2 K (rMulU K) mulD := by
  intro F H x y a b Q hF hx hy h
  cases a <;> cases b <;> first | exact (show False from h).elim | skip
  · cases hx; cases hy
    exact .inl (.inl ⟨_, _, rfl, rfl, h.1, h.2.now (.int _)⟩)
  · cases hx; cases hy
    exact .inl (.inr ⟨_, _, rfl, rfl, h.1, h.2.now (.str _)⟩)
  · cases hy
    obtain ⟨p, xs, rfl, e1, n1, d1⟩ := hx.sql
    exact .inr (.inl ⟨p, _, xs, rfl, rfl, e1, h.1.1, h.1.2.1, by rw [d1.length]; exact h.1.2.2, new_lst hF (dx_reps d1 _) h.2⟩)
  · cases hy
    obtain ⟨p, xs, rfl, e1, d1⟩ := hx.sqt
    refine .inr (.inr ⟨p, _, xs, rfl, rfl, e1, fun z => h.1.1 ?_, h.1.2.1, h.1.2.2.1, by rw [d1.length]; exact h.1.2.2.2, new_tup hF (dx_reps d1 _) h.2⟩)
    subst z
    cases d1; rfl
theorem pm_fdiv (a b : D) : Pm1 (fdivD a b) := fun k k' h q => by
  cases a <;> cases b <;> first | exact q.elim | exact ⟨q.1, h _ q.2⟩
theorem prim_fdiv : Prim2 K (rI CDiv fun i j => .int (i / j)) fdivD := by
  intro F H x y a b Q hF hx hy h
  cases a <;> cases b <;> first | exact (show False from h).elim | skip
  cases hx; cases hy
  exact ⟨_, _, rfl, rfl, h.1, h.2.now (.int _)⟩
theorem pm_mod (a b : D) : Pm1 (modD a b) := fun k k' h q => by
  cases a <;> cases b <;> first | exact q.elim | exact ⟨q.1, h _ q.2⟩
theorem prim_mod : Prim2 K (rI (fun _ j => 0 < j) fun i j => .int (i % j)) modD := by
  intro F H x y a b Q hF hx hy h
  cases a <;> cases b <;> first | exact (show False from h).elim | skip
  cases hx; cases hy
  exact ⟨_, _, rfl, rfl, h.1, h.2.now (.int _)⟩
theorem pm_pow (a b : D) : Pm1 (powD a b) := fun k k' h q => by
  cases a <;> cases b <;> first | exact q.elim | exact ⟨q.1, h _ q.2⟩
theorem prim_pow : Prim2 K (rI CPow fun i j => .int (i ^ j.toNat)) powD := by
  intro F H x y a b Q hF hx hy h
  cases a <;> cases b <;> first | exact (show False from h).elim | skip
  cases hx; cases hy
  exact ⟨_, _, rfl, rfl, h.1, h.2.now (.int _)⟩
theorem pm_eq (a b : D) : Pm1 (eqD a b) := fun k k' h q => ⟨q.1, h _ q.2⟩
theorem pm_ne (a b : D) : Pm1 (neD a b) := fun k k' h q => ⟨q.1, h _ q.2⟩
theorem prim_eq : Prim2 K (rEqD K) eqD := fun F H x y a b Q hF hx hy h => ⟨a, b, hx.dp _ _ (SeqAt.canLay_of_shaped h.1.1), hy.dp _ _ (SeqAt.canLay_of_shaped h.1.2), h.1.1, h.1.2, h.2.now (.bl _)⟩
theorem prim_ne : Prim2 K (rNeD K) neD := fun F H x y a b Q hF hx hy h => ⟨a, b, hx.dp _ _ (SeqAt.canLay_of_shaped h.1.1), hy.dp _ _ (SeqAt.canLay_of_shaped h.1.2), h.1.1, h.1.2, h.2.now (.bl _)⟩
theorem pm_lt (a b : D) : Pm1 (ltD a b) := fun k k' h q => by
  cases a <;> cases b <;> first | exact q.elim | exact h _ q
theorem pm_le (a b : D) : Pm1 (leD a b) := fun k k' h q => by
  cases a <;> cases b <;> first | exact q.elim | exact h _ q
theorem pm_gt (a b : D) : Pm1 (gtD a b) := pm_lt b a
theorem pm_ge (a b : D) : Pm1 (geD a b) := pm_le b a
def rLtU : R2 := fun x y H Q => rI0 (fun i j => .bl (decide (i < j))) x y H Q ∨ ∃ i j, x = .str i ∧ y = .str j ∧ Q (.bl (decide (i.cps.toList < j.cps.toList))) H
def rLeU : R2 := fun x y H Q => rI0 (fun i j => .bl (decide (i ≤ j))) x y H Q ∨ ∃ i j, x = .str i ∧ y = .str j ∧ Q (.bl (!decide (j.cps.toList < i.cps.toList))) H
def rGtU : R2 := fun x y H Q => rI0 (fun i j => .bl (decide (j < i))) x y H Q ∨ ∃ i j, x = .str i ∧ y = .str j ∧ Q (.bl (decide (j.cps.toList < i.cps.toList))) H
def rGeU : R2 := fun x y H Q => rI0 (fun i j => .bl (decide (j ≤ i))) x y H Q ∨ ∃ i j, x = .str i ∧ y = .str j ∧ Q (.bl (!decide (i.cps.toList < j.cps.toList))) H
theorem op_ltU {X : Cx} : OpR X (compareOp .Lt) rLtU := OpR.or op_lt op_lt_str
theorem op_leU {X : Cx} : OpR X (compareOp .LtE) rLeU := OpR.or op_le op_le_str
theorem op_gtU {X : Cx} : OpR X (compareOp .Gt) rGtU := OpR.or op_gt op_gt_str
theorem op_geU {X : Cx} : OpR X (compareOp .GtE) rGeU := OpR.or op_ge op_ge_str
theorem prim_lt : Prim2 K rLtU ltD := by
  intro F H x y a b Q hF hx hy h
  cases a <;> cases b <;> first | exact (show False from h).elim | skip
  · cases hx; cases hy; exact .inl ⟨_, _, rfl, rfl, h.now (.bl _)⟩
  · cases hx; cases hy; exact .inr ⟨_, _, rfl, rfl, h.now (.bl _)⟩
theorem prim_le : Prim2 K rLeU leD := by
  intro F H x y a b Q hF hx hy h
  cases a <;> cases b <;> first | exact (show False from h).elim | skip
  · cases hx; cases hy; exact .inl ⟨_, _, rfl, rfl, h.now (.bl _)⟩
  · cases hx; cases hy; exact .inr ⟨_, _, rfl, rfl, h.now (.bl _)⟩
theorem prim_gt : Prim2 K rGtU gtD := by
  intro F H x y a b Q hF hx hy h
  cases a <;> cases b <;> first | exact (show False from h).elim | skip
  · cases hx; cases hy; exact .inl ⟨_, _, rfl, rfl, Kd.now (d := .bool _) h (.bl _)⟩
  · cases hx; cases hy; exact .inr ⟨_, _, rfl, rfl, Kd.now (d := .bool _) h (.bl _)⟩
theorem prim_ge : Prim2 K rGeU geD := by
  intro F H x y a b Q hF hx hy h
  cases a <;> cases b <;> first | exact (show False from h).elim | skip
  · cases hx; cases hy; exact .inl ⟨_, _, rfl, rfl, Kd.now (d := .bool _) h (.bl _)⟩
  · cases hx; cases hy; exact .inr ⟨_, _, rfl, rfl, Kd.now (d := .bool _) h (.bl _)⟩
def rIsU : R2 := fun x y H Q => (y = .non ∧ Q (.bl (decide (x = .non))) H) ∨ rIsB x y H Q
def rIsnU : R2 := fun x y H Q => (y = .non ∧ Q (.bl (!decide (x = .non))) H) ∨ rNotB x y H Q
theorem op_isU {X : Cx} : OpR X (compareOp .Is) rIsU := OpR.or op_isN op_isBl
theorem op_isnU {X : Cx} : OpR X (compareOp .IsNot) rIsnU := OpR.or op_notN op_notBl
theorem pm_is (a b : D) : Pm1 (isD a b) := fun k k' h q => by
  cases a <;> cases b <;> first | exact q.elim | exact h _ q
theorem pm_isn (a b : D) : Pm1 (isnD a b) := fun k k' h q => by
  cases a <;> cases b <;> first | exact q.elim | exact h _ q
theorem prim_is : Prim2 K rIsU isD := by
  intro F H x y a b Q hF hx hy h
  cases b with
  | none =>
    cases hy
    refine .inl ⟨rfl, ?_⟩
    cases a <;> cases hx <;> exact Kd.now (d := .bool _) h (.bl _)
  | bool c =>
    cases a <;> first | exact (show False from h).elim | skip
    cases hx; cases hy
    exact .inr ⟨_, _, rfl, rfl, Kd.now (d := .bool _) h (.bl _)⟩
  | _ => cases a <;> exact (show False from h).elim
theorem prim_isn : Prim2 K rIsnU isnD := by
  intro F H x y a b Q hF hx hy h
  cases b with
  | none =>
    cases hy
    refine .inl ⟨rfl, ?_⟩
    cases a <;> cases hx <;> exact Kd.now (d := .bool _) h (.bl _)
  | bool c =>
    cases a <;> first | exact (show False from h).elim | skip
    cases hx; cases hy
    exact .inr ⟨_, _, rfl, rfl, Kd.now (d := .bool _) h (.bl _)⟩
  | _ => cases a <;> exact (show False from h).elim

/-! ### in, not in -/
def flatD : D → Bool
  | .none => true | .bool _ => true | .int _ => true | .str _ => true | _ => false
def eqF : D → D → Bool
  | .none, .none => true
  | .bool a, .bool b => a == b
  | .bool a, .int b => (if a then 1 else 0) == b
  | .int a, .bool b => a == (if b then 1 else 0)
  | .int a, .int b => a == b
  | .str a, .str b => a == b
  | _, _ => false
def memF (x : D) (xs : List D) : Bool := xs.any fun y => eqF y x
def inD : P2
  | .str x, .str y, k => k (.bool (!(Builtin.Str.occurrences y x 0 y.length 1).isEmpty))
  | a, .list xs, k => (flatD a = true ∧ xs.all flatD = true) ∧ k (.bool (memF a xs))
  | a, .tuple xs, k => (flatD a = true ∧ xs.all flatD = true) ∧ k (.bool (memF a xs))
  | _, _, _ => False
def ninD : P2
  | .str x, .str y, k => k (.bool (!(!(Builtin.Str.occurrences y x 0 y.length 1).isEmpty)))
  | a, .list xs, k => (flatD a = true ∧ xs.all flatD = true) ∧ k (.bool (!memF a xs))
  | a, .tuple xs, k => (flatD a = true ∧ xs.all flatD = true) ∧ k (.bool (!memF a xs))
  | _, _, _ => False
theorem flat_of {F : AS} {H : Hp} {v : V} {d : D} (h : Dx K H F v d) (f : flatD d = true) : flatV v = true := by
  cases h <;> first | rfl | (exact absurd f (by decide)) | cases f
theorem flats_of {F : AS} {H : Hp} : ∀ {ds : List D} {vs : List V}, DxAll K H F vs ds → ds.all flatD = true → vs.all flatV = true
  | [], _, h, _ => by cases h; rfl
  | d :: ds, _, h, f => by
    cases h with
    | cons a b =>
      rw [List.all_cons, Bool.and_eq_true] at f
      rw [List.all_cons, flat_of a f.1, flats_of b f.2]; rfl
theorem eqV_of {F : AS} {H : Hp} {v u : V} {a b : D} (ha : Dx K H F v a) (hb : Dx K H F u b) : flatD a = true → flatD b = true → eqV v u = eqF a b := by
  intro fa fb
  cases ha <;> cases hb <;> first | rfl | (cases fa; done) | (cases fb; done)
theorem mem_of {F : AS} {H : Hp} {u : V} {b : D} (hb : Dx K H F u b) (fb : flatD b = true) : ∀ {ds : List D} {vs : List V}, DxAll K H F vs ds → ds.all flatD = true → inV u vs = memF b ds
  | [], _, h, _ => by cases h; rfl
  | d :: ds, _, h, f => by
    cases h with
    | cons x y =>
      rw [List.all_cons, Bool.and_eq_true] at f
      have ih := mem_of hb fb y f.2
      unfold inV memF at ih ⊢
      rw [List.any_cons, List.any_cons, eqV_of x hb f.1 fb, ih]
def rInU (K : PySem.W.Frag) : R2 := fun x y H Q => (∃ i j, x = .str i ∧ y = .str j ∧ Q (.bl (!(Builtin.Str.occurrences j i 0 j.length 1).isEmpty)) H) ∨ rIn K false x y H Q
def rNinU (K : PySem.W.Frag) : R2 := fun x y H Q => (∃ i j, x = .str i ∧ y = .str j ∧ Q (.bl (!(!(Builtin.Str.occurrences j i 0 j.length 1).isEmpty))) H) ∨ rIn K true x y H Q
theorem op_inU {X : Cx} : OpR X (compareOp .In) (rInU X.K) := OpR.or op_in_str op_in_seq
theorem op_ninU {X : Cx} : OpR X (compareOp .NotIn) (rNinU X.K) := OpR.or op_notin_str op_notIn_seq
theorem pm_in (a b : D) : Pm1 (inD a b) := fun k k' h q => by
  cases a <;> cases b <;> first | exact q.elim | exact h _ q | exact ⟨q.1, h _ q.2⟩
theorem pm_nin (a b : D) : Pm1 (ninD a b) := fun k k' h q => by
  cases a <;> cases b <;> first | exact q.elim | exact h _ q | exact ⟨q.1, h _ q.2⟩
theorem prim_in : Prim2 K (rInU K) inD := by
  intro F H x y a b Q hF hx hy h
  cases b with
  | str z =>
    cases a <;> first | exact (show False from h).elim | skip
    cases hx; cases hy
    exact .inl ⟨_, _, rfl, rfl, Kd.now (d := .bool _) h (.bl _)⟩
  | list xs =>
    have h' : (flatD a = true ∧ xs.all flatD = true) ∧ Kd K F H Q (.bool (memF a xs)) := by cases a <;> exact h
    obtain ⟨p, ys, rfl, e, _, d⟩ := hy.sql
    refine .inr ⟨p, ys, rfl, .inl (.inl (.inl e)), flat_of hx h'.1.1, flats_of d h'.1.2, ?_⟩
    rw [if_neg Bool.false_ne_true, mem_of hx h'.1.1 d h'.1.2]
    exact h'.2.now (.bl _)
  | tuple xs =>
    have h' : (flatD a = true ∧ xs.all flatD = true) ∧ Kd K F H Q (.bool (memF a xs)) := by cases a <;> exact h
    obtain ⟨p, ys, rfl, e, d⟩ := hy.sqt
    refine .inr ⟨p, ys, rfl, .inr e, flat_of hx h'.1.1, flats_of d h'.1.2, ?_⟩
    rw [if_neg Bool.false_ne_true, mem_of hx h'.1.1 d h'.1.2]
    exact h'.2.now (.bl _)
  | _ => cases a <;> exact (show False from h).elim
theorem prim_nin : Prim2 K (rNinU K) ninD := by
  intro F H x y a b Q hF hx hy h
  cases b with
  | str z =>
    cases a <;> first | exact (show False from h).elim | skip
    cases hx; cases hy
    exact .inl ⟨_, _, rfl, rfl, Kd.now (d := .bool _) h (.bl _)⟩
  | list xs =>
    have h' : (flatD a = true ∧ xs.all flatD = true) ∧ Kd K F H Q (.bool (!memF a xs)) := by cases a <;> exact h
    obtain ⟨p, ys, rfl, e, _, d⟩ := hy.sql
    refine .inr ⟨p, ys, rfl, .inl (.inl (.inl e)), flat_of hx h'.1.1, flats_of d h'.1.2, ?_⟩
    rw [if_pos rfl, mem_of hx h'.1.1 d h'.1.2]
    exact h'.2.now (.bl _)
  | tuple xs =>
    have h' : (flatD a = true ∧ xs.all flatD = true) ∧ Kd K F H Q (.bool (!memF a xs)) := by cases a <;> exact h
    obtain ⟨p, ys, rfl, e, d⟩ := hy.sqt
    refine .inr ⟨p, ys, rfl, .inr e, flat_of hx h'.1.1, flats_of d h'.1.2, ?_⟩
    rw [if_pos rfl, mem_of hx h'.1.1 d h'.1.2]
    exact h'.2.now (.bl _)
  | _ => cases a <;> exact (show False from h).elim
end

/-! ### the expressions made of them -/
section
variable {X : Cx} {a b c : Expr} {ma mb mc : M D} {pos : Pos}
theorem em_op {op : Operator} {r : R2} {p : P2} (ho : OpR X (binaryOp op) r) (hp : Prim2 X.K r p) (mp : ∀ a b, Pm1 (p a b)) (ha : EM X a ma) (hb : EM X b mb) : EM X (.BinOp a op b pos) (mBin p ma mb) :=
  ⟨mono_bin mp ha.mono hb.mono, pe_weak (pe_op ho ha.run hb.run) fun _ _ _ h => two_vals hp mp ha.mono hb.mono h⟩
theorem em_add (ha : EM X a ma) (hb : EM X b mb) : EM X (.BinOp a .Add b pos) (mBin addD ma mb) := em_op op_addU prim_add pm_add ha hb
theorem em_sub (ha : EM X a ma) (hb : EM X b mb) : EM X (.BinOp a .Sub b pos) (mBin subD ma mb) := em_op op_sub prim_sub pm_sub ha hb
theorem em_mul (ha : EM X a ma) (hb : EM X b mb) : EM X (.BinOp a .Mult b pos) (mBin mulD ma mb) := em_op op_mulU prim_mul pm_mul ha hb
theorem em_fdiv (ha : EM X a ma) (hb : EM X b mb) : EM X (.BinOp a .FloorDiv b pos) (mBin fdivD ma mb) := em_op op_fdiv prim_fdiv pm_fdiv ha hb
theorem em_mod (ha : EM X a ma) (hb : EM X b mb) : EM X (.BinOp a .Mod b pos) (mBin modD ma mb) := em_op op_mod prim_mod pm_mod ha hb
theorem em_pow (ha : EM X a ma) (hb : EM X b mb) : EM X (.BinOp a .Pow b pos) (mBin powD ma mb) := em_op op_pow prim_pow pm_pow ha hb
def mTest (m : M D) : M Bool := fun ρ k => m ρ fun d ρ' => match d with
  | .bool b => k b ρ'
  | _ => False
theorem mono_test {m : M D} (h : Mono m) : Mono (mTest m) := fun ρ k k' w q => h ρ _ _ (fun d ρ' q' => by cases d <;> first | exact w _ _ q' | exact q') q
theorem em_cmp {op : CmpOp} {r : R2} {p : P2} (ho : OpR X (compareOp op) r) (hp : Prim2 X.K r p) (mp : ∀ a b, Pm1 (p a b)) (hm : behindInMarks op b = false) (ha : EM X a ma) (hb : EM X b mb) : EM X (.Compare a [op] [b] pos) (mBin p ma mb) :=
  ⟨mono_bin mp ha.mono hb.mono, pe_weak (pe_cmpR ho ha.run hb.run hm) fun _ _ _ h => two_vals hp mp ha.mono hb.mono h⟩
theorem tt_te {K : PySem.W.Frag} {m : M D} (hm : Mono m) {σ : L2.St} {H : Hp} {Q : Bool → Hp → Prop} (h : TTof K (mTest m) σ H Q) : TEof K m σ H fun x H' => ∃ k, x = .bl k ∧ Q k H' := by
  obtain ⟨G, loc, ρ, R, q⟩ := h
  refine ⟨G, loc, ρ, R, hm ρ _ _ (fun d ρ' q' v H' R' g' d' => ?_) q⟩
  cases d <;> first | exact (show False from q').elim | skip
  cases d'
  exact ⟨_, rfl, q' H' R' g'⟩
theorem tm_cmp {op : CmpOp} {r : R2} {p : P2} (ho : OpR X (compareOp op) r) (hp : Prim2 X.K r p) (mp : ∀ a b, Pm1 (p a b)) (hm : behindInMarks op b = false) (ha : EM X a ma) (hb : EM X b mb) : TM X (.Compare a [op] [b] pos) (mTest (mBin p ma mb)) :=
  ⟨mono_test (mono_bin mp ha.mono hb.mono), pt_weak (pt_cmpR ho ha.run hb.run hm) fun σ H Q h => two_vals hp mp ha.mono hb.mono (tt_te (mono_bin mp ha.mono hb.mono) h)⟩
/-- an expression that gives a bool, as a test -/
theorem tm_val {e : Expr} {m : M D} (h : EM X e m) (he : ∀ whole, isTrue e X.env whole = (do let v ← whole; standAt e.pos; holding [v] (truthy v)) := by intro _; rfl) : TM X e (mTest m) :=
  ⟨mono_test h.mono, pt_weak (pt_val h.run he) fun σ H Q q => tt_te h.mono q⟩
theorem em_eq (hu : X.A.units + 64 < cLine) (ha : EM X a ma) (hb : EM X b mb) : EM X (.Compare a [.Eq] [b] pos) (mBin eqD ma mb) := em_cmp (op_eqD hu) prim_eq pm_eq (nomark b) ha hb
theorem em_ne (hu : X.A.units + 64 < cLine) (ha : EM X a ma) (hb : EM X b mb) : EM X (.Compare a [.NotEq] [b] pos) (mBin neD ma mb) := em_cmp (op_neD hu) prim_ne pm_ne (nomark b) ha hb
theorem em_lt (ha : EM X a ma) (hb : EM X b mb) : EM X (.Compare a [.Lt] [b] pos) (mBin ltD ma mb) := em_cmp op_ltU prim_lt pm_lt (nomark b) ha hb
theorem em_le (ha : EM X a ma) (hb : EM X b mb) : EM X (.Compare a [.LtE] [b] pos) (mBin leD ma mb) := em_cmp op_leU prim_le pm_le (nomark b) ha hb
theorem em_gt (ha : EM X a ma) (hb : EM X b mb) : EM X (.Compare a [.Gt] [b] pos) (mBin gtD ma mb) := em_cmp op_gtU prim_gt pm_gt (nomark b) ha hb
theorem em_ge (ha : EM X a ma) (hb : EM X b mb) : EM X (.Compare a [.GtE] [b] pos) (mBin geD ma mb) := em_cmp op_geU prim_ge pm_ge (nomark b) ha hb
theorem em_is (ha : EM X a ma) (hb : EM X b mb) : EM X (.Compare a [.Is] [b] pos) (mBin isD ma mb) := em_cmp op_isU prim_is pm_is (nomark b) ha hb
theorem em_isn (ha : EM X a ma) (hb : EM X b mb) : EM X (.Compare a [.IsNot] [b] pos) (mBin isnD ma mb) := em_cmp op_isnU prim_isn pm_isn (nomark b) ha hb
theorem em_in (hm : behindInMarks .In b = false) (ha : EM X a ma) (hb : EM X b mb) : EM X (.Compare a [.In] [b] pos) (mBin inD ma mb) := em_cmp op_inU prim_in pm_in hm ha hb
theorem em_nin (hm : behindInMarks .NotIn b = false) (ha : EM X a ma) (hb : EM X b mb) : EM X (.Compare a [.NotIn] [b] pos) (mBin ninD ma mb) := em_cmp op_ninU prim_nin pm_nin hm ha hb
theorem tm_eq (hu : X.A.units + 64 < cLine) (ha : EM X a ma) (hb : EM X b mb) : TM X (.Compare a [.Eq] [b] pos) (mTest (mBin eqD ma mb)) := tm_cmp (op_eqD hu) prim_eq pm_eq (nomark b) ha hb
theorem tm_ne (hu : X.A.units + 64 < cLine) (ha : EM X a ma) (hb : EM X b mb) : TM X (.Compare a [.NotEq] [b] pos) (mTest (mBin neD ma mb)) := tm_cmp (op_neD hu) prim_ne pm_ne (nomark b) ha hb
theorem tm_lt (ha : EM X a ma) (hb : EM X b mb) : TM X (.Compare a [.Lt] [b] pos) (mTest (mBin ltD ma mb)) := tm_cmp op_ltU prim_lt pm_lt (nomark b) ha hb
theorem tm_le (ha : EM X a ma) (hb : EM X b mb) : TM X (.Compare a [.LtE] [b] pos) (mTest (mBin leD ma mb)) := tm_cmp op_leU prim_le pm_le (nomark b) ha hb
theorem tm_gt (ha : EM X a ma) (hb : EM X b mb) : TM X (.Compare a [.Gt] [b] pos) (mTest (mBin gtD ma mb)) := tm_cmp op_gtU prim_gt pm_gt (nomark b) ha hb
theorem tm_ge (ha : EM X a ma) (hb : EM X b mb) : TM X (.Compare a [.GtE] [b] pos) (mTest (mBin geD ma mb)) := tm_cmp op_geU prim_ge pm_ge (nomark b) ha hb
theorem tm_is (ha : EM X a ma) (hb : EM X b mb) : TM X (.Compare a [.Is] [b] pos) (mTest (mBin isD ma mb)) := tm_cmp op_isU prim_is pm_is (nomark b) ha hb
theorem tm_isn (ha : EM X a ma) (hb : EM X b mb) : TM X (.Compare a [.IsNot] [b] pos) (mTest (mBin isnD ma mb)) := tm_cmp op_isnU prim_isn pm_isn (nomark b) ha hb
theorem tm_in (hm : behindInMarks .In b = false) (ha : EM X a ma) (hb : EM X b mb) : TM X (.Compare a [.In] [b] pos) (mTest (mBin inD ma mb)) := tm_cmp op_inU prim_in pm_in hm ha hb
theorem tm_nin (hm : behindInMarks .NotIn b = false) (ha : EM X a ma) (hb : EM X b mb) : TM X (.Compare a [.NotIn] [b] pos) (mTest (mBin ninD ma mb)) := tm_cmp op_ninU prim_nin pm_nin hm ha hb
end
end DL

namespace DL
open PySem L2

/-! ### and, or, not, if-else -/
def mAnd (m m' : M Bool) : M Bool := fun ρ k => m ρ fun b ρ1 => if b = true then m' ρ1 k else k false ρ1
def mOr (m m' : M Bool) : M Bool := fun ρ k => m ρ fun b ρ1 => if b = true then k true ρ1 else m' ρ1 k
def mNot (m : M Bool) : M Bool := fun ρ k => m ρ fun b ρ1 => k (!b) ρ1
def mIf {α : Type} (m : M Bool) (x y : M α) : M α := fun ρ k => m ρ fun b ρ1 => if b = true then x ρ1 k else y ρ1 k
def mAndV (m m' : M D) : M D := fun ρ k => m ρ fun d ρ1 => match d with
  | .bool true => m' ρ1 k
  | .bool false => k (.bool false) ρ1
  | _ => False
def mOrV (m m' : M D) : M D := fun ρ k => m ρ fun d ρ1 => match d with
  | .bool true => k (.bool true) ρ1
  | .bool false => m' ρ1 k
  | _ => False
def mNotV (m : M Bool) : M D := fun ρ k => m ρ fun b ρ1 => k (.bool (!b)) ρ1
section
variable {m m' : M Bool} {x y : M D}
theorem mono_and (a : Mono m) (b : Mono m') : Mono (mAnd m m') := fun ρ k k' h q => a ρ _ _ (fun c ρ1 q1 => by
  cases c with
  | true => rw [if_pos rfl] at q1 ⊢; exact b ρ1 _ _ h q1
  | false => rw [if_neg Bool.false_ne_true] at q1 ⊢; exact h _ _ q1) q
theorem mono_or (a : Mono m) (b : Mono m') : Mono (mOr m m') := fun ρ k k' h q => a ρ _ _ (fun c ρ1 q1 => by
  cases c with
  | false => rw [if_neg Bool.false_ne_true] at q1 ⊢; exact b ρ1 _ _ h q1
  | true => rw [if_pos rfl] at q1 ⊢; exact h _ _ q1) q
theorem mono_not (a : Mono m) : Mono (mNot m) := fun ρ k k' h q => a ρ _ _ (fun c ρ1 q1 => h _ _ q1) q
theorem mono_if {α : Type} {x y : M α} (a : Mono m) (b : Mono x) (c : Mono y) : Mono (mIf m x y) := fun ρ k k' h q => a ρ _ _ (fun e ρ1 q1 => by
  cases e with
  | true => rw [if_pos rfl] at q1 ⊢; exact b ρ1 _ _ h q1
  | false => rw [if_neg Bool.false_ne_true] at q1 ⊢; exact c ρ1 _ _ h q1) q
theorem mono_andV (a : Mono x) (b : Mono y) : Mono (mAndV x y) := fun ρ k k' h q => a ρ _ _ (fun d ρ1 q1 => by
  cases d <;> first | exact q1 | skip
  rename_i c
  cases c <;> first | exact b ρ1 _ _ h q1 | exact h _ _ q1) q
theorem mono_orV (a : Mono x) (b : Mono y) : Mono (mOrV x y) := fun ρ k k' h q => a ρ _ _ (fun d ρ1 q1 => by
  cases d <;> first | exact q1 | skip
  rename_i c
  cases c <;> first | exact b ρ1 _ _ h q1 | exact h _ _ q1) q
theorem mono_notV (a : Mono m) : Mono (mNotV m) := fun ρ k k' h q => a ρ _ _ (fun c ρ1 q1 => h _ _ q1) q
variable {X : Cx} {a b : Expr} {rest : List Expr} {pos : Pos}
theorem wm_and1 (h : TM X a m) : WM X (.BoolOp .And [a] pos) m := ⟨h.mono, pw_and1 h.run⟩
theorem wm_or1 (h : TM X a m) : WM X (.BoolOp .Or [a] pos) m := ⟨h.mono, pw_or1 h.run⟩
theorem wm_and (h : TM X a m) (g : WM X (.BoolOp .And (b :: rest) pos) m') : WM X (.BoolOp .And (a :: b :: rest) pos) (mAnd m m') := by
  refine ⟨mono_and h.mono g.mono, pw_weak (pw_and h.run g.run) ?_⟩
  rintro σ H Q ⟨G, loc, ρ, R, q⟩
  refine ⟨G, loc, ρ, R, h.mono ρ _ _ (fun c ρ1 q1 H1 R1 g1 => ?_) q⟩
  cases c with
  | true =>
    rw [if_pos rfl] at q1 ⊢
    exact ⟨G, loc, ρ1, R1, g.mono ρ1 _ _ (fun d ρ2 q2 H2 R2 g2 => q2 H2 R2 (g1.trans g2)) q1⟩
  | false =>
    rw [if_neg Bool.false_ne_true] at q1 ⊢
    exact q1 H1 R1 g1
theorem wm_or (h : TM X a m) (g : WM X (.BoolOp .Or (b :: rest) pos) m') : WM X (.BoolOp .Or (a :: b :: rest) pos) (mOr m m') := by
  refine ⟨mono_or h.mono g.mono, pw_weak (pw_or h.run g.run) ?_⟩
  rintro σ H Q ⟨G, loc, ρ, R, q⟩
  refine ⟨G, loc, ρ, R, h.mono ρ _ _ (fun c ρ1 q1 H1 R1 g1 => ?_) q⟩
  cases c with
  | false =>
    rw [if_neg Bool.false_ne_true] at q1 ⊢
    exact ⟨G, loc, ρ1, R1, g.mono ρ1 _ _ (fun d ρ2 q2 H2 R2 g2 => q2 H2 R2 (g1.trans g2)) q1⟩
  | true =>
    rw [if_pos rfl] at q1 ⊢
    exact q1 H1 R1 g1
theorem tm_w {e : Expr} (h : WM X e m) : TM X e m := ⟨h.mono, h.run.pt⟩
theorem tm_not (h : TM X a m) : TM X (.UnaryOp .Not a pos) (mNot m) := by
  refine ⟨mono_not h.mono, pt_weak (pt_not h.run) ?_⟩
  rintro σ H Q ⟨G, loc, ρ, R, q⟩
  exact ⟨G, loc, ρ, R, h.mono ρ _ _ (fun c ρ1 q1 H1 R1 g1 => q1 H1 R1 g1) q⟩
theorem em_if {c : Expr} (h : TM X c m) (ha : EM X a x) (hb : EM X b y) : EM X (.IfExp c a b pos) (mIf m x y) := by
  refine ⟨mono_if h.mono ha.mono hb.mono, pe_weak (pe_ifExp h.run ha.run hb.run) ?_⟩
  rintro σ H Q ⟨G, loc, ρ, R, q⟩
  refine ⟨G, loc, ρ, R, h.mono ρ _ _ (fun c ρ1 q1 H1 R1 g1 => ?_) q⟩
  cases c with
  | true =>
    rw [if_pos rfl] at q1 ⊢
    exact ⟨G, loc, ρ1, R1, ha.mono ρ1 _ _ (fun d ρ2 q2 v H2 R2 g2 d2 => q2 v H2 R2 (g1.trans g2) d2) q1⟩
  | false =>
    rw [if_neg Bool.false_ne_true] at q1 ⊢
    exact ⟨G, loc, ρ1, R1, hb.mono ρ1 _ _ (fun d ρ2 q2 v H2 R2 g2 d2 => q2 v H2 R2 (g1.trans g2) d2) q1⟩
theorem em_one {op} (h : EM X a x) : EM X (.BoolOp op [a] pos) x := ⟨h.mono, pe_one h.run⟩
theorem em_and (ha : EM X a x) (hb : EM X (.BoolOp .And (b :: rest) pos) y) : EM X (.BoolOp .And (a :: b :: rest) pos) (mAndV x y) := by
  refine ⟨mono_andV ha.mono hb.mono, pe_weak (pe_and ha.run hb.run) ?_⟩
  rintro σ H Q ⟨G, loc, ρ, R, q⟩
  refine ⟨G, loc, ρ, R, ha.mono ρ _ _ (fun d ρ1 q1 v H1 R1 g1 d1 => ?_) q⟩
  cases d <;> first | exact q1.elim | skip
  rename_i c
  cases d1
  refine ⟨c, rfl, ?_⟩
  cases c with
  | true =>
    rw [if_pos rfl]
    exact ⟨G, loc, ρ1, R1, hb.mono ρ1 _ _ (fun d ρ2 q2 v H2 R2 g2 d2 => q2 v H2 R2 (g1.trans g2) d2) q1⟩
  | false =>
    rw [if_neg Bool.false_ne_true]
    exact q1 _ H1 R1 g1 (.bl _)
theorem em_or (ha : EM X a x) (hb : EM X (.BoolOp .Or (b :: rest) pos) y) : EM X (.BoolOp .Or (a :: b :: rest) pos) (mOrV x y) := by
  refine ⟨mono_orV ha.mono hb.mono, pe_weak (pe_or ha.run hb.run) ?_⟩
  rintro σ H Q ⟨G, loc, ρ, R, q⟩
  refine ⟨G, loc, ρ, R, ha.mono ρ _ _ (fun d ρ1 q1 v H1 R1 g1 d1 => ?_) q⟩
  cases d <;> first | exact q1.elim | skip
  rename_i c
  cases d1
  refine ⟨c, rfl, ?_⟩
  cases c with
  | false =>
    rw [if_neg Bool.false_ne_true]
    exact ⟨G, loc, ρ1, R1, hb.mono ρ1 _ _ (fun d ρ2 q2 v H2 R2 g2 d2 => q2 v H2 R2 (g1.trans g2) d2) q1⟩
  | true =>
    rw [if_pos rfl]
    exact q1 _ H1 R1 g1 (.bl _)
/-- not e as a value, e a bool -/
theorem em_not (h : EM X a x) : EM X (.UnaryOp .Not a pos) (mNotV (mTest x)) := by
  refine ⟨mono_notV (mono_test h.mono), pe_weak (pe_not h.run) ?_⟩
  rintro σ H Q ⟨G, loc, ρ, R, q⟩
  refine ⟨G, loc, ρ, R, h.mono ρ _ _ (fun d ρ1 q1 v H1 R1 g1 d1 => ?_) q⟩
  cases d <;> first | exact (show False from q1).elim | skip
  cases d1
  exact ⟨_, rfl, q1 _ H1 R1 g1 (.bl _)⟩
/-- -n -/
def mNeg (m : M D) : M D := fun ρ k => m ρ fun d ρ1 => match d with
  | .int i => k (.int (-i)) ρ1
  | _ => False
theorem em_neg (h : EM X a x) : EM X (.UnaryOp .USub a pos) (mNeg x) := by
  refine ⟨fun ρ k k' w q => h.mono ρ _ _ (fun d ρ1 q1 => by cases d <;> first | exact q1.elim | exact w _ _ q1) q, pe_weak (pe_un un_neg h.run) ?_⟩
  rintro σ H Q ⟨G, loc, ρ, R, q⟩
  refine ⟨G, loc, ρ, R, h.mono ρ _ _ (fun d ρ1 q1 v H1 R1 g1 d1 => ?_) q⟩
  cases d <;> first | exact (show False from q1).elim | skip
  cases d1
  exact ⟨_, rfl, q1 _ H1 R1 g1 (.int _)⟩
end

/-! ### argument lists, displays -/
def mNil : M (List D) := mPure []
def mCons (m : M D) (ms : M (List D)) : M (List D) := fun ρ k => m ρ fun d ρ1 => ms ρ1 fun ds ρ2 => k (d :: ds) ρ2
def mTup (m : M (List D)) : M D := fun ρ k => m ρ fun ds ρ1 => ds.length ≤ sizeLine ∧ k (.tuple ds) ρ1
def mLen (m : M (List D)) : M (List D) := fun ρ k => m ρ fun ds ρ1 => ds.length ≤ sizeLine ∧ k ds ρ1
def mList (m : M (List D)) : M D := fun ρ k => m ρ fun ds ρ1 => k (.list ds) ρ1
section
variable {X : Cx} {e : Expr} {es : List Expr} {m : M D} {ms : M (List D)} {pos : Pos}
theorem mono_cons (a : Mono m) (b : Mono ms) : Mono (mCons m ms) := fun ρ k k' h q => a ρ _ _ (fun d ρ1 q1 => b ρ1 _ _ (fun ds ρ2 q2 => h _ _ q2) q1) q
theorem am_nil : AM X [] mNil := by
  refine ⟨mono_pure, pa_weak pa_nil ?_⟩
  rintro σ H Q ⟨G, loc, ρ, R, q⟩
  exact q [] H R Grow.refl .nil
theorem am_cons (h : EM X e m) (g : AM X es ms) (hs : starEach (e :: es) X.env = (false, eval e X.env) :: starEach es X.env := by rfl) : AM X (e :: es) (mCons m ms) := by
  refine ⟨mono_cons h.mono g.mono, pa_weak (pa_cons h.run g.run hs) ?_⟩
  rintro σ H Q ⟨G, loc, ρ, R, q⟩
  refine ⟨G, loc, ρ, R, h.mono ρ _ _ (fun d ρ1 q1 v H1 R1 g1 d1 => ?_) q⟩
  exact ⟨G, loc, ρ1, R1, g.mono ρ1 _ _ (fun ds ρ2 q2 vs H2 R2 g2 d2 => q2 (v :: vs) H2 R2 (g1.trans g2) (.cons (d1.g g2) d2)) q1⟩
theorem em_tup {x1} (h : AM X es ms) : EM X (.Tuple es x1 pos) (mTup ms) := by
  refine ⟨fun ρ k k' w q => h.mono ρ _ _ (fun ds ρ1 q1 => ⟨q1.1, w _ _ q1.2⟩) q, pe_weak (pe_tup h.run) ?_⟩
  rintro σ H Q ⟨G, loc, ρ, R, q⟩
  refine ⟨G, loc, ρ, R, h.mono ρ _ _ (fun ds ρ1 q1 vs H1 R1 g1 d1 => ⟨by rw [d1.length]; exact q1.1, fun p hp => ?_⟩) q⟩
  exact q1.2 _ _ (R1.more (upd_more hp)) (g1.trans (more_grow (upd_more hp))) (.tup (R1.notFb hp) upd_same (d1.g (more_grow (upd_more hp))))
theorem RawR.plus {K : PySem.W.Frag} {G : Fr} {ρ : List Slot} {loc : Nat → Addr} {σ : L2.St} {H H' : Hp} {p : Addr} (R : RawR K G ρ loc σ H) (m : ∀ b o, H b = some o → H' b = some o) (hp : H p = none) (g : Grow (Fb G.fb ρ loc) (Fb (G.plus p).fb ρ loc) H H') : RawR K (G.plus p) ρ loc σ H' :=
  R.step (fun _ _ _ _ e => ⟨e, rfl⟩) (fun j b ds e => .inl ⟨b, ds, e, rfl⟩) g (fun a u _ e => m a u e) fun a z h n => ⟨h, fun y => by
    rcases y with y | y
    · exact n y
    · obtain ⟨⟨o, q⟩, _⟩ := R.here z
      rw [y, hp] at q; cases q⟩
/-- a new list is at hand -/
theorem new_list {K : PySem.W.Frag} {G : Fr} {ρ : List Slot} {loc : Nat → Addr} {σ : L2.St} {H : Hp} {xs : List V} {ds : List D} (R : Rep K G ρ loc σ H) (d : DxAll K H (Fb G.fb ρ loc) xs ds) {p : Addr} (hp : H p = none) :
    G.H0 p = none ∧ ¬ G.fb p ∧ (upd H p (.lst xs)) p = some (.lst xs) ∧ Rep K (G.plus p) ρ loc σ (upd H p (.lst xs)) ∧ Grow (Fb G.fb ρ loc) (Fb (G.plus p).fb ρ loc) H (upd H p (.lst xs)) ∧ DxAll K (upd H p (.lst xs)) (Fb (G.plus p).fb ρ loc) xs ds := by
  have g : Grow (Fb G.fb ρ loc) (Fb (G.plus p).fb ρ loc) H (upd H p (.lst xs)) := fun b o e n => ⟨upd_more hp b o e, fun z => by
    rcases z with (z | z) | z
    · exact n (.inl z)
    · rw [z, hp] at e; cases e
    · exact n (.inr z)⟩
  refine ⟨R.h0 hp, fun z => R.notFb hp (.inl z), upd_same, ⟨R.len, fun i d e => ?_, fun i b ds e => ?_, R.apart, R.brw, fun i ds e => ?_, fun b o e n => upd_more hp b o (R.ext b o e n), fun b e => ?_, fun b e => .inl (R.bwS b e), R.raw.plus (upd_more hp) hp g⟩, g, d.g g⟩
  · obtain ⟨v, h1, h2⟩ := R.dat i d e
    exact ⟨v, h1, h2.g g⟩
  · obtain ⟨h1, vs, h2, h3⟩ := R.own i b ds e
    exact ⟨h1, vs, upd_more hp _ _ h2, h3.g g⟩
  · obtain ⟨h1, h2⟩ := R.new i ds e
    refine ⟨h1, fun z => ?_⟩
    rcases z with z | z
    · exact h2 z
    · obtain ⟨_, vs, q, _⟩ := R.own i false ds e
      rw [z, hp] at q; cases q
  · rcases e with e | e
    · obtain ⟨o, q⟩ := R.fbS b e
      exact ⟨o, upd_more hp _ _ q⟩
    · rw [e]; exact ⟨_, upd_same⟩
/-- .. and is left to itself -/
theorem Rep.unplus {K : PySem.W.Frag} {G : Fr} {ρ : List Slot} {loc : Nat → Addr} {σ : L2.St} {H : Hp} {p : Addr} (hb : ∀ b, G.bw b → G.fb b) (n : ¬ G.fb p) (R : Rep K (G.plus p) ρ loc σ H) :
    Rep K G ρ loc σ H ∧ ¬ Fb G.fb ρ loc p := by
  have sub : ∀ b, Fb G.fb ρ loc b → Fb (G.plus p).fb ρ loc b := fun b z => by
    rcases z with z | z
    · exact .inl (.inl z)
    · exact .inr z
  refine ⟨⟨R.len, fun i d e => ?_, fun i b ds e => ?_, R.apart, R.brw, fun i ds e => ?_, R.ext, fun b e => R.fbS b (.inl e), hb, R.raw.step (fun _ _ _ _ e => ⟨e, rfl⟩) (fun j b ds e => .inl ⟨b, ds, e, rfl⟩) (fun b o e n => ⟨e, fun z => n (sub b z)⟩) (fun _ _ _ e => e) fun _ _ a b => ⟨a, fun z => b (.inl z)⟩⟩, ?_⟩
  · obtain ⟨v, h1, h2⟩ := R.dat i d e
    exact ⟨v, h1, h2.weak sub⟩
  · obtain ⟨h1, vs, h2, h3⟩ := R.own i b ds e
    exact ⟨h1, vs, h2, h3.weak sub⟩
  · obtain ⟨h1, h2⟩ := R.new i ds e
    exact ⟨h1, fun z => h2 (.inl z)⟩
  · rintro (z | z | ⟨i, b, ds, e, z⟩)
    · exact n z
    · exact (R.raw.here z).2.2 (.inr rfl)
    · cases b with
      | false => exact (R.new i ds e).2 (.inr z)
      | true => exact n (z ▸ hb _ (R.brw i ds e).2)
theorem Fb.plus_sub {G : Fr} {ρ : List Slot} {loc : Nat → Addr} {p : Addr} : ∀ b, Fb G.fb ρ loc b → Fb (G.plus p).fb ρ loc b := fun b z => by
  rcases z with z | z
  · exact .inl (.inl z)
  · exact .inr z
theorem Grow.weak {F F' F2 : AS} {H H' : Hp} (g : Grow F F' H H') (s : ∀ b, F2 b → F' b) : Grow F F2 H H' := fun b o e n => let ⟨a, c⟩ := g b o e n; ⟨a, fun z => c (s b z)⟩
/-- a new list as data -/
theorem em_ofN {ms : M (List D)} (h : NM X e ms) : EM X e (mList ms) := by
  refine ⟨fun ρ k k' w q => h.mono ρ _ _ (fun ds ρ1 q1 => w _ _ q1) q, pe_weak h.run ?_⟩
  rintro σ H Q ⟨G, loc, ρ, R, q⟩
  refine ⟨G, loc, ρ, R, h.mono ρ _ _ (fun ds ρ1 q1 p vs H1 h0 n e1 R1 g1 d1 => ?_) q⟩
  obtain ⟨R2, n2⟩ := R1.unplus R.bwS n
  exact q1 _ H1 R2 (g1.weak Fb.plus_sub) (.lst n2 e1 (d1.weak Fb.plus_sub))
theorem nm_lst (h : AM X es ms) : NM X (.List es pos) (mLen ms) := by
  refine ⟨fun ρ k k' w q => h.mono ρ _ _ (fun ds ρ1 q1 => ⟨q1.1, w _ _ q1.2⟩) q, pe_weak (pe_lst h.run) ?_⟩
  rintro σ H Q ⟨G, loc, ρ, R, q⟩
  refine ⟨G, loc, ρ, R, h.mono ρ _ _ (fun ds ρ1 q1 vs H1 R1 g1 d1 => ⟨by rw [d1.length]; exact q1.1, fun p hp => ?_⟩) q⟩
  obtain ⟨a1, a2, a3, a4, a5, a6⟩ := new_list R1 d1 hp
  exact q1.2 p vs _ a1 a2 a3 a4 (g1.trans a5) a6
end

/-! ### subscripts, slices -/
def ixD : P2
  | .list xs, .int i, k => ∃ d, atI xs i = some d ∧ k d
  | .tuple xs, .int i, k => ∃ d, atI xs i = some d ∧ k d
  | .str z, .int i, k => z.length ≤ sizeLine ∧ ∃ c, atI z.cps.toList i = some c ∧ k (.str ⟨#[c]⟩)
  | _, _, _ => False
section
variable {K : PySem.W.Frag}
theorem dx_atI {F : AS} {H : Hp} {vs : List V} {ds : List D} (h : DxAll K H F vs ds) {i : Int} {d : D} (e : atI ds i = some d) : ∃ v, atI vs i = some v ∧ Dx K H F v d := by
  unfold atI at e ⊢
  rw [h.length]
  cases q : ixN ds.length i with
  | none => rw [q] at e; cases e
  | some j =>
    rw [q] at e
    obtain ⟨v, h1, h2⟩ := h.get (i := j) e
    exact ⟨v, h1, h2⟩
theorem pm_ix (a b : D) : Pm1 (ixD a b) := fun k k' h q => by
  cases a <;> cases b <;> first
    | exact q.elim
    | (obtain ⟨d, e, q⟩ := q; exact ⟨d, e, h _ q⟩)
    | (obtain ⟨z, d, e, q⟩ := q; exact ⟨z, d, e, h _ q⟩)
theorem prim_ix : Prim2 K (rIx K) ixD := by
  intro F H x y a b Q hF hx hy h
  cases a <;> cases b <;> first | exact (show False from h).elim | skip
  · cases hx; cases hy
    obtain ⟨z, c, e, q⟩ := h
    exact .inr (.inr ⟨_, _, c, rfl, rfl, z, e, q.now (.str _)⟩)
  · cases hy
    obtain ⟨d, e, q⟩ := h
    obtain ⟨p, xs, rfl, e1, n1, d1⟩ := hx.sql
    obtain ⟨v, e2, d2⟩ := dx_atI d1 e
    exact .inl ⟨p, xs, _, v, rfl, rfl, .inl (.inl e1), e2, q.now d2⟩
  · cases hy
    obtain ⟨d, e, q⟩ := h
    obtain ⟨p, xs, rfl, e1, d1⟩ := hx.sqt
    obtain ⟨v, e2, d2⟩ := dx_atI d1 e
    exact .inr (.inl ⟨p, xs, _, v, rfl, rfl, e1, e2, q.now d2⟩)
end
def cutL {α : Type} (xs : List α) (lo hi : Option Int) : List α := (xs.drop (HT.sIx xs.length 0 lo)).take (HT.sIx xs.length xs.length hi - HT.sIx xs.length 0 lo)
/-- the part of a slice -/
def TOof (K : PySem.W.Frag) (m : M (Option Int)) : TO := fun σ H Q => ∃ G loc ρ, Rep K G ρ loc σ H ∧ m ρ fun o ρ' =>
  ∀ H', Rep K G ρ' loc σ H' → Grow (Fb G.fb ρ loc) (Fb G.fb ρ' loc) H H' → Q o H'
structure OM (X : Cx) (e : Option Expr) (m : M (Option Int)) : Prop where
  mono : Mono m
  run : PO X e (TOof X.K m)
def mSome (m : M D) : M (Option Int) := fun ρ k => m ρ fun d ρ1 => match d with
  | .int i => k (some i) ρ1
  | _ => False
def slD (d : D) (lo hi : Option Int) (k : D → Prop) : Prop := match d with
  | .list xs => k (.list (cutL xs lo hi))
  | .tuple xs => k (.tuple (cutL xs lo hi))
  | .str z => z.length ≤ sizeLine ∧ k (.str (cutS z lo hi))
  | _ => False
def mSl (m : M D) (l h : M (Option Int)) : M D := fun ρ k => m ρ fun d ρ1 => l ρ1 fun lo ρ2 => h ρ2 fun hi ρ3 => slD d lo hi fun r => k r ρ3
section
variable {X : Cx} {e : Expr} {m : M D} {lo hi : Option Expr} {l h : M (Option Int)} {pos p2 : Pos}
theorem em_ix {b : Expr} {mb : M D} (ha : EM X e m) (hb : EM X b mb) (hs : PlainIx b) : EM X (.Subscript e b pos) (mBin ixD m mb) :=
  ⟨mono_bin pm_ix ha.mono hb.mono, pe_weak (pe_ix ix_seq ha.run hb.run hs) fun _ _ _ q => two_vals prim_ix pm_ix ha.mono hb.mono q⟩
theorem om_none : OM X none (mPure none) := by
  refine ⟨mono_pure, ⟨fun pins s σ H Q I q => po_none.run pins s σ H Q I ?_⟩⟩
  obtain ⟨G, loc, ρ, R, q⟩ := q
  exact q H R Grow.refl
theorem om_some (ha : EM X e m) : OM X (some e) (mSome m) := by
  refine ⟨fun ρ k k' w q => ha.mono ρ _ _ (fun d ρ1 q1 => by cases d <;> first | exact q1.elim | exact w _ _ q1) q, ⟨fun pins s σ H Q I q => (po_some ha.run).run pins s σ H Q I ?_⟩⟩
  obtain ⟨G, loc, ρ, R, q⟩ := q
  refine ⟨G, loc, ρ, R, ha.mono ρ _ _ (fun d ρ1 q1 v H1 R1 g1 d1 => ?_) q⟩
  cases d <;> first | exact (show False from q1).elim | skip
  cases d1
  exact ⟨_, rfl, q1 H1 R1 g1⟩
theorem cut_whole {α : Type} {xs : List α} {lo hi : Option Int} (h : HT.sIx xs.length 0 lo = 0 ∧ HT.sIx xs.length xs.length hi = xs.length) : cutL xs lo hi = xs := by
  unfold cutL
  rw [h.1, h.2]
  simp
theorem pm_sl (d : D) (lo hi : Option Int) : Pm1 (slD d lo hi) := fun k k' w q => by
  cases d <;> first | exact q.elim | exact w _ q | exact ⟨q.1, w _ q.2⟩
theorem mono_sl (a : Mono m) (b : Mono l) (c : Mono h) : Mono (mSl m l h) := fun ρ k k' w q => a ρ _ _ (fun d ρ1 q1 => b ρ1 _ _ (fun lo ρ2 q2 => c ρ2 _ _ (fun hi ρ3 q3 => pm_sl _ _ _ _ _ (fun r q4 => w _ _ q4) q3) q2) q1) q
theorem dx_cut {K : PySem.W.Frag} {F : AS} {H : Hp} {vs : List V} {ds : List D} (h : DxAll K H F vs ds) (lo hi : Option Int) : DxAll K H F (cutV vs lo hi) (cutL ds lo hi) := by
  unfold cutV cutL
  rw [h.length]
  exact h.cut _ _
theorem em_sl (ha : EM X e m) (hl : OM X lo l) (hh : OM X hi h) : EM X (.Subscript e (.Slice lo hi none p2) pos) (mSl m l h) := by
  refine ⟨mono_sl ha.mono hl.mono hh.mono, pe_weak (pe_slice (sl_list.or (sl_tupA.or sl_str)) ha.run hl.run hh.run) ?_⟩
  rintro σ H Q ⟨G, loc, ρ, R, q⟩
  refine ⟨G, loc, ρ, R, ha.mono ρ _ _ (fun d ρ1 q1 v H1 R1 g1 d1 => ?_) q⟩
  refine ⟨G, loc, ρ1, R1, hl.mono ρ1 _ _ (fun lo ρ2 q2 H2 R2 g2 => ?_) q1⟩
  refine ⟨G, loc, ρ2, R2, hh.mono ρ2 _ _ (fun hi ρ3 q3 H3 R3 g3 => ?_) q2⟩
  have d3 := d1.g (g2.trans g3)
  have q4 : slD d lo hi (Kd X.K (Fb G.fb ρ3 loc) H3 Q) := pm_sl _ _ _ _ _ (fun r q4 w H4 m4 d4 => q4 w H4 (R3.more m4) (((g1.trans g2).trans g3).trans (more_grow m4)) d4) q3
  cases d <;> first | exact (show False from q4).elim | skip
  · cases d3
    exact .inr (.inr ⟨_, rfl, q4.1, q4.2.now (.str _)⟩)
  · obtain ⟨p, xs, rfl, e1, n1, dd⟩ := d3.sql
    refine .inl ⟨p, xs, rfl, .inl (.inl e1), ?_⟩
    exact new_lst R3.fbE (dx_cut dd lo hi) q4
  · obtain ⟨p, xs, rfl, e1, dd⟩ := d3.sqt
    refine .inr (.inl ⟨p, xs, rfl, e1, fun hw => ?_, fun _ => new_tup R3.fbE (dx_cut dd lo hi) q4⟩)
    rw [dd.length] at hw
    have q5 : Kd X.K (Fb G.fb ρ3 loc) H3 Q (.tuple (cutL _ lo hi)) := q4
    rw [cut_whole hw] at q5
    exact Kd.now (d := .tuple _) q5 d3
end

/-! ### built-ins by name -/
abbrev PC1 := List D → (D → Prop) → Prop
def PrimC (K : PySem.W.Frag) (r : List V → Hp → VK → Prop) (p : PC1) : Prop := ∀ (F : AS) (H : Hp) (vs : List V) (ds : List D) (Q : VK), (∀ c, F c → ∃ o, H c = some o) → DxAll K H F vs ds → p ds (Kd K F H Q) → r vs H Q
def mCall (p : PC1) (m : M (List D)) : M D := fun ρ k => m ρ fun ds ρ1 => p ds fun d => k d ρ1
theorem CallR.or {X : Cx} {f : Value} {r r' : List V → Hp → VK → Prop} (h : CallR X f r) (h' : CallR X f r') : CallR X f (fun xs H Q => r xs H Q ∨ r' xs H Q) := by
  intro pins s σ H xs us Q I rv q
  rcases q with q | q
  · exact h pins s σ H xs us Q I rv q
  · exact h' pins s σ H xs us Q I rv q
theorem mono_call {p : PC1} {m : M (List D)} (mp : ∀ ds, Pm1 (p ds)) (h : Mono m) : Mono (mCall p m) := fun ρ k k' w q => h ρ _ _ (fun ds ρ1 q1 => mp ds _ _ (fun d q2 => w _ _ q2) q1) q
theorem call_vals {K : PySem.W.Frag} {m : M (List D)} {r : List V → Hp → VK → Prop} {p : PC1} (hp : PrimC K r p) (mp : ∀ ds, Pm1 (p ds)) (mm : Mono m) {σ : L2.St} {H : Hp} {Q : VK} (h : TEof K (mCall p m) σ H Q) :
    tCB r (TAof K m) σ H Q := by
  obtain ⟨G, loc, ρ, R, q⟩ := h
  refine ⟨G, loc, ρ, R, mm ρ _ _ (fun ds ρ1 q1 vs H1 R1 g1 d1 => ?_) q⟩
  exact hp (Fb G.fb ρ1 loc) H1 vs ds Q R1.fbE d1 (mp ds _ _ (fun d q2 w H2 m2 d2 => q2 w H2 (R1.more m2) (g1.trans (more_grow m2)) d2) q1)
section
variable {X : Cx} {x : Str} {p pos : Pos} {e : Expr} {es : List Expr} {m : M (List D)} {id T : String} {r : List V → Hp → VK → Prop} {q : PC1}
theorem em_callB (hc : CallR X (.builtin id) r) (hp : PrimC X.K r q) (mp : ∀ ds, Pm1 (q ds)) (hg : Gl X x) (hm : X.mg x = none) (hv : bootBuiltins x = some (.builtin id)) (ha : AM X (e :: es) m) (hn : x ≠ "__name__" := by decide) (hdb : (x == ("__debug__" : Str)) = false := by decide)
    (he : starEach (e :: es) X.env = (false, eval e X.env) :: starEach es X.env := by rfl) (hpl : (backTo pos (starEach es X.env)).any (·.1) = false := by rfl) : EM X (.Call (.Name x p) (e :: es) [] pos) (mCall q m) :=
  ⟨mono_call mp ha.mono, pe_weak (pe_callB hc hg hm hv ha.run hn hdb he hpl) fun _ _ _ h => call_vals hp mp ha.mono h⟩
theorem em_callTy (hc : CallR X (.type T) r) (hp : PrimC X.K r q) (mp : ∀ ds, Pm1 (q ds)) (hg : Gl X x) (hm : X.mg x = none) (hv : bootBuiltins x = some (.type T)) (ha : AM X (e :: es) m) (hn : x ≠ "__name__" := by decide) (hdb : (x == ("__debug__" : Str)) = false := by decide)
    (he : starEach (e :: es) X.env = (false, eval e X.env) :: starEach es X.env := by rfl) (hpl : (backTo pos (starEach es X.env)).any (·.1) = false := by rfl) : EM X (.Call (.Name x p) (e :: es) [] pos) (mCall q m) :=
  ⟨mono_call mp ha.mono, pe_weak (pe_callTy hc hg hm hv ha.run hn hdb he hpl) fun _ _ _ h => call_vals hp mp ha.mono h⟩
end
def lenD : PC1
  | [.list xs], k => k (.int xs.length)
  | [.tuple xs], k => k (.int xs.length)
  | [.str z], k => z.length ≤ sizeLine ∧ k (.int z.length)
  | _, _ => False
def absD : PC1
  | [.int i], k => k (.int (if i < 0 then -i else i))
  | _, _ => False
def maxD : PC1
  | [.int i, .int j], k => k (.int (if j > i then j else i))
  | _, _ => False
def minD : PC1
  | [.int i, .int j], k => k (.int (if j < i then j else i))
  | _, _ => False
def intD : PC1
  | [.int i], k => k (.int i)
  | [.bool b], k => k (.int (if b then 1 else 0))
  | [.str z], k => ∃ n, PySem.intText? z = some n ∧ z.length ≤ 640 ∧ k (.int n)
  | _, _ => False
def strD : PC1
  | [.int i], k => i.natAbs.log2 < 1920 ∧ k (.str (toString i))
  | _, _ => False
def tupleD : PC1
  | [.list xs], k => k (.tuple xs)
  | [.tuple xs], k => k (.tuple xs)
  | _, _ => False
def boolsOf : List D → Option (List Bool)
  | [] => some []
  | .bool b :: ds => (boolsOf ds).map (b :: ·)
  | _ => none
def allD : PC1
  | [.list xs], k => ∃ bs, boolsOf xs = some bs ∧ k (.bool (bs.all id))
  | _, _ => False
def anyD : PC1
  | [.list xs], k => ∃ bs, boolsOf xs = some bs ∧ k (.bool (bs.any id))
  | _, _ => False
theorem boolsOf_eq : ∀ {xs : List D} {bs : List Bool}, boolsOf xs = some bs → xs = bs.map PyData.bool
  | [], bs, h => by cases h; rfl
  | d :: ds, bs, h => by
    cases d <;> first | (cases h; done) | skip
    rename_i b
    unfold boolsOf at h
    cases q : boolsOf ds with
    | none => rw [q] at h; cases h
    | some cs =>
      rw [q] at h
      cases h
      rw [boolsOf_eq q]; rfl
section
variable {K : PySem.W.Frag}
local macro_rules | `(tactic| walk_at "pmc") => `(tactic| (
  intro ds k k' h q
  match ds with
  | [] => exact q.elim
  | [d] => cases d <;> first | exact q.elim | exact h _ q | exact ⟨q.1, h _ q.2⟩ | (obtain ⟨n, a, q⟩ := q; exact ⟨n, a, h _ q⟩) | (obtain ⟨n, a, b, q⟩ := q; exact ⟨n, a, b, h _ q⟩)
  | d :: e :: r => cases d <;> exact q.elim))
theorem pm_len : ∀ ds, Pm1 (lenD ds) := by walk_at "pmc"
theorem pm_abs : ∀ ds, Pm1 (absD ds) := by walk_at "pmc"
theorem pm_int : ∀ ds, Pm1 (intD ds) := by walk_at "pmc"
theorem pm_str : ∀ ds, Pm1 (strD ds) := by walk_at "pmc"
theorem pm_tuple : ∀ ds, Pm1 (tupleD ds) := by walk_at "pmc"
theorem pm_all : ∀ ds, Pm1 (allD ds) := by walk_at "pmc"
theorem pm_any : ∀ ds, Pm1 (anyD ds) := by walk_at "pmc"
theorem pm_max : ∀ ds, Pm1 (maxD ds) := by
  intro ds k k' h q
  match ds with
  | [] => exact q.elim
  | [d] => cases d <;> exact q.elim
  | [d, e] => cases d <;> cases e <;> first | exact q.elim | exact h _ q
  | d :: e :: f :: r => cases d <;> cases e <;> exact q.elim
theorem pm_min : ∀ ds, Pm1 (minD ds) := by
  intro ds k k' h q
  match ds with
  | [] => exact q.elim
  | [d] => cases d <;> exact q.elim
  | [d, e] => cases d <;> cases e <;> first | exact q.elim | exact h _ q
  | d :: e :: f :: r => cases d <;> cases e <;> exact q.elim
theorem dx_one {F : AS} {H : Hp} {vs : List V} {d : D} (h : DxAll K H F vs [d]) : ∃ v, vs = [v] ∧ Dx K H F v d := by
  cases h with
  | cons a b => cases b; exact ⟨_, rfl, a⟩
theorem dx_two {F : AS} {H : Hp} {vs : List V} {d e : D} (h : DxAll K H F vs [d, e]) : ∃ v u, vs = [v, u] ∧ Dx K H F v d ∧ Dx K H F u e := by
  cases h with
  | cons a b =>
    obtain ⟨u, rfl, c⟩ := dx_one b
    exact ⟨_, u, rfl, a, c⟩
end
end DL

namespace DL
open PySem L2

section
variable {K : PySem.W.Frag}
theorem prim_len : PrimC K (fun xs H Q => ∃ x n, xs = [x] ∧ LenV K x H n ∧ Q (.int n) H) lenD := by
  intro F H vs ds Q hF hd h
  match ds with
  | [] => exact (show False from h).elim
  | d :: e :: r => cases d <;> exact (show False from h).elim
  | [d] =>
    obtain ⟨v, rfl, dx⟩ := dx_one hd
    cases d <;> first | exact (show False from h).elim | skip
    · cases dx; exact ⟨_, _, rfl, ⟨h.1, rfl⟩, h.2.now (.int _)⟩
    · obtain ⟨p, xs, rfl, e, _, da⟩ := dx.sql
      exact ⟨_, _, rfl, .inl ⟨xs, .inl (.inl e), rfl⟩, by rw [da.length]; exact Kd.now (d := .int _) h (.int _)⟩
    · obtain ⟨p, xs, rfl, e, da⟩ := dx.sqt
      exact ⟨_, _, rfl, .inr ⟨xs, e, rfl⟩, by rw [da.length]; exact Kd.now (d := .int _) h (.int _)⟩
theorem prim_abs : PrimC K (fun xs H Q => ∃ i, xs = [V.int i] ∧ Q (.int (if i < 0 then -i else i)) H) absD := by
  intro F H vs ds Q hF hd h
  match ds with
  | [] => exact (show False from h).elim
  | d :: e :: r => cases d <;> exact (show False from h).elim
  | [d] =>
    obtain ⟨v, rfl, dx⟩ := dx_one hd
    cases d <;> first | exact (show False from h).elim | skip
    cases dx; exact ⟨_, rfl, Kd.now (d := .int _) h (.int _)⟩
theorem prim_str : PrimC K (fun xs H Q => ∃ i, xs = [V.int i] ∧ i.natAbs.log2 < 1920 ∧ Q (.str (toString i)) H) strD := by
  intro F H vs ds Q hF hd h
  match ds with
  | [] => exact (show False from h).elim
  | d :: e :: r => cases d <;> exact (show False from h).elim
  | [d] =>
    obtain ⟨v, rfl, dx⟩ := dx_one hd
    cases d <;> first | exact (show False from h).elim | skip
    cases dx; exact ⟨_, rfl, h.1, h.2.now (.str _)⟩
theorem prim_max : PrimC K (fun xs H Q => ∃ i j, xs = [V.int i, .int j] ∧ Q (.int (if j > i then j else i)) H) maxD := by
  intro F H vs ds Q hF hd h
  match ds with
  | [] => exact (show False from h).elim
  | [d] => cases d <;> exact (show False from h).elim
  | d :: e :: f :: r => cases d <;> cases e <;> exact (show False from h).elim
  | [d, e] =>
    obtain ⟨v, u, rfl, dx, dy⟩ := dx_two hd
    cases d <;> cases e <;> first | exact (show False from h).elim | skip
    cases dx; cases dy; exact ⟨_, _, rfl, Kd.now (d := .int _) h (.int _)⟩
theorem prim_min : PrimC K (fun xs H Q => ∃ i j, xs = [V.int i, .int j] ∧ Q (.int (if j < i then j else i)) H) minD := by
  intro F H vs ds Q hF hd h
  match ds with
  | [] => exact (show False from h).elim
  | [d] => cases d <;> exact (show False from h).elim
  | d :: e :: f :: r => cases d <;> cases e <;> exact (show False from h).elim
  | [d, e] =>
    obtain ⟨v, u, rfl, dx, dy⟩ := dx_two hd
    cases d <;> cases e <;> first | exact (show False from h).elim | skip
    cases dx; cases dy; exact ⟨_, _, rfl, Kd.now (d := .int _) h (.int _)⟩
def rIntU : List V → Hp → VK → Prop := fun xs H Q => ((∃ i, xs = [V.int i] ∧ Q (.int i) H) ∨ ∃ k, xs = [V.bl k] ∧ Q (.int (if k then 1 else 0)) H) ∨ ∃ a n, xs = [V.str a] ∧ PySem.intText? a = some n ∧ a.length ≤ 640 ∧ Q (.int n) H
theorem call_intU {X : Cx} : CallR X (.type "int") rIntU := CallR.or call_int1 call_int_str
theorem prim_int : PrimC K rIntU intD := by
  intro F H vs ds Q hF hd h
  match ds with
  | [] => exact (show False from h).elim
  | d :: e :: r => cases d <;> exact (show False from h).elim
  | [d] =>
    obtain ⟨v, rfl, dx⟩ := dx_one hd
    cases d <;> first | exact (show False from h).elim | skip
    · cases dx; exact .inl (.inr ⟨_, rfl, Kd.now (d := .int _) h (.int _)⟩)
    · cases dx; exact .inl (.inl ⟨_, rfl, Kd.now (d := .int _) h (.int _)⟩)
    · cases dx
      obtain ⟨n, a, b, q⟩ := h
      exact .inr ⟨_, n, rfl, a, b, q.now (.int _)⟩
theorem prim_tuple : PrimC K (fun xs H Q => ∃ p ys, xs = [V.ref p] ∧ ((SqL K H p ys ∧ ∀ l, H l = none → Q (.ref l) (upd H l (.tup ys))) ∨ (SqT K H p ys ∧ Q (.ref p) H))) tupleD := by
  intro F H vs ds Q hF hd h
  match ds with
  | [] => exact (show False from h).elim
  | d :: e :: r => cases d <;> exact (show False from h).elim
  | [d] =>
    obtain ⟨v, rfl, dx⟩ := dx_one hd
    cases d <;> first | exact (show False from h).elim | skip
    · obtain ⟨p, xs, rfl, e, _, da⟩ := dx.sql
      exact ⟨p, xs, rfl, .inl ⟨.inl (.inl e), new_tup hF da h⟩⟩
    · obtain ⟨p, xs, rfl, e, da⟩ := dx.sqt
      exact ⟨p, xs, rfl, .inr ⟨e, Kd.now (d := .tuple _) h dx⟩⟩
theorem prim_all : PrimC K (rAll K) allD := by
  intro F H vs ds Q hF hd h
  match ds with
  | [] => exact (show False from h).elim
  | d :: e :: r => cases d <;> exact (show False from h).elim
  | [d] =>
    obtain ⟨v, rfl, dx⟩ := dx_one hd
    cases d <;> first | exact (show False from h).elim | skip
    obtain ⟨bs, hb, q⟩ := h
    rw [boolsOf_eq hb] at dx
    obtain ⟨p, xs, rfl, e, _, da⟩ := dx.sql
    rw [da.bools] at e
    exact ⟨p, bs, rfl, .inl (.inl e), q.now (.bl _)⟩
theorem prim_any : PrimC K (rAny K) anyD := by
  intro F H vs ds Q hF hd h
  match ds with
  | [] => exact (show False from h).elim
  | d :: e :: r => cases d <;> exact (show False from h).elim
  | [d] =>
    obtain ⟨v, rfl, dx⟩ := dx_one hd
    cases d <;> first | exact (show False from h).elim | skip
    obtain ⟨bs, hb, q⟩ := h
    rw [boolsOf_eq hb] at dx
    obtain ⟨p, xs, rfl, e, _, da⟩ := dx.sql
    rw [da.bools] at e
    exact ⟨p, bs, rfl, .inl (.inl e), q.now (.bl _)⟩
end
section
variable {X : Cx} {p pos : Pos} {e e2 : Expr} {es : List Expr} {m : M (List D)}
theorem em_len (hm : X.mg "len" = none) (ha : AM X [e] m) (hg : Gl X "len" := by rfl) (he : starEach [e] X.env = (false, eval e X.env) :: starEach [] X.env := by rfl) (hpl : (backTo pos (starEach [] X.env)).any (·.1) = false := by rfl) : EM X (.Call (.Name "len" p) [e] [] pos) (mCall lenD m) :=
  em_callB call_len prim_len pm_len hg hm PySem.boot_len ha (he := he) (hpl := hpl)
theorem em_abs (hm : X.mg "abs" = none) (ha : AM X [e] m) (hg : Gl X "abs" := by rfl) (he : starEach [e] X.env = (false, eval e X.env) :: starEach [] X.env := by rfl) (hpl : (backTo pos (starEach [] X.env)).any (·.1) = false := by rfl) : EM X (.Call (.Name "abs" p) [e] [] pos) (mCall absD m) :=
  em_callB call_abs prim_abs pm_abs hg hm (by decide +kernel) ha (he := he) (hpl := hpl)
theorem em_str_ (hm : X.mg "str" = none) (ha : AM X [e] m) (hg : Gl X "str" := by rfl) (he : starEach [e] X.env = (false, eval e X.env) :: starEach [] X.env := by rfl) (hpl : (backTo pos (starEach [] X.env)).any (·.1) = false := by rfl) : EM X (.Call (.Name "str" p) [e] [] pos) (mCall strD m) :=
  em_callTy call_str_int prim_str pm_str hg hm PyProof.Rows.boot_str ha (he := he) (hpl := hpl)
theorem em_int_ (hm : X.mg "int" = none) (ha : AM X [e] m) (hg : Gl X "int" := by rfl) (he : starEach [e] X.env = (false, eval e X.env) :: starEach [] X.env := by rfl) (hpl : (backTo pos (starEach [] X.env)).any (·.1) = false := by rfl) : EM X (.Call (.Name "int" p) [e] [] pos) (mCall intD m) :=
  em_callTy call_intU prim_int pm_int hg hm PyProof.Rows.boot_int ha (he := he) (hpl := hpl)
theorem em_tuple_ (hm : X.mg "tuple" = none) (ha : AM X [e] m) (hg : Gl X "tuple" := by rfl) (he : starEach [e] X.env = (false, eval e X.env) :: starEach [] X.env := by rfl) (hpl : (backTo pos (starEach [] X.env)).any (·.1) = false := by rfl) : EM X (.Call (.Name "tuple" p) [e] [] pos) (mCall tupleD m) :=
  em_callTy call_tuple_of prim_tuple pm_tuple hg hm PyProof.Rows.boot_tuple ha (he := he) (hpl := hpl)
theorem em_all (hc : X.calm = true) (hm : X.mg "all" = none) (ha : AM X [e] m) (hg : Gl X "all" := by rfl) (he : starEach [e] X.env = (false, eval e X.env) :: starEach [] X.env := by rfl) (hpl : (backTo pos (starEach [] X.env)).any (·.1) = false := by rfl) : EM X (.Call (.Name "all" p) [e] [] pos) (mCall allD m) :=
  em_callB (cr_all hc) prim_all pm_all hg hm PyProof.Rows.boot_all ha (he := he) (hpl := hpl)
theorem em_any (hc : X.calm = true) (hm : X.mg "any" = none) (ha : AM X [e] m) (hg : Gl X "any" := by rfl) (he : starEach [e] X.env = (false, eval e X.env) :: starEach [] X.env := by rfl) (hpl : (backTo pos (starEach [] X.env)).any (·.1) = false := by rfl) : EM X (.Call (.Name "any" p) [e] [] pos) (mCall anyD m) :=
  em_callB (cr_any hc) prim_any pm_any hg hm PyProof.Rows.boot_any ha (he := he) (hpl := hpl)
theorem em_max (hc : X.calm = true) (hm : X.mg "max" = none) (ha : AM X [e, e2] m) (hg : Gl X "max" := by rfl) (he : starEach [e, e2] X.env = (false, eval e X.env) :: starEach [e2] X.env := by rfl) (hpl : (backTo pos (starEach [e2] X.env)).any (·.1) = false := by rfl) : EM X (.Call (.Name "max" p) [e, e2] [] pos) (mCall maxD m) :=
  em_callB (call_max2 hc) prim_max pm_max hg hm PyProof.Rows.boot_max ha (he := he) (hpl := hpl)
theorem em_min (hc : X.calm = true) (hm : X.mg "min" = none) (ha : AM X [e, e2] m) (hg : Gl X "min" := by rfl) (he : starEach [e, e2] X.env = (false, eval e X.env) :: starEach [e2] X.env := by rfl) (hpl : (backTo pos (starEach [e2] X.env)).any (·.1) = false := by rfl) : EM X (.Call (.Name "min" p) [e, e2] [] pos) (mCall minD m) :=
  em_callB (call_min2 hc) prim_min pm_min hg hm PyProof.Rows.boot_min ha (he := he) (hpl := hpl)
end

/-! ### isinstance -/
def tyD : D → Option String
  | .none => some "NoneType" | .bool _ => some "bool" | .int _ => some "int" | .str _ => some "str" | .list _ => some "list" | .tuple _ => some "tuple" | .dict _ => none
def isiD (T : String) (d : D) : Bool := match d with
  | .none => T == "NoneType" | .bool _ => T == "bool" || T == "int" | .int _ => T == "int" | .str _ => T == "str" | .list _ => T == "list" | .tuple _ => T == "tuple" | .dict _ => false
def ndD (d : D) : Bool := match d with
  | .dict _ => false
  | _ => true
theorem tyX_of {K : PySem.W.Frag} {H : Hp} {F : AS} {v : V} {d : D} (nd : ndD d = true) (h : Dx K H F v d) : ∃ t, tyD d = some t ∧ TyX K H v (.type t) := by
  cases h with
  | non => exact ⟨_, rfl, .base .non⟩
  | bl b => exact ⟨_, rfl, .base (.bl b)⟩
  | int i => exact ⟨_, rfl, .base (.int i)⟩
  | str x => exact ⟨_, rfl, .base (.str x)⟩
  | lst n e _ => exact ⟨_, rfl, .base (.lst e)⟩
  | tup n e _ => exact ⟨_, rfl, .base (.tup e)⟩
  | tupK e _ =>
    obtain ⟨o, its, n, h1, h2, _⟩ := e
    exact ⟨_, rfl, .kTuple h1 h2⟩
  | dsi l q n e => cases nd
  | dst l q n e => cases nd
  | scr ns q e => cases nd
  | fnr a q e => cases nd
  | adr a q => cases nd
  | exc q _ _ _ _ _ _ => cases nd
def KitAll (T : String) : Prop := kitB "NoneType" T = some (T == "NoneType") ∧ kitB "bool" T = some (T == "bool" || T == "int") ∧ kitB "int" T = some (T == "int") ∧ kitB "str" T = some (T == "str") ∧ kitB "list" T = some (T == "list") ∧ kitB "tuple" T = some (T == "tuple")
theorem KitAll.get {T : String} (k : KitAll T) {d : D} {t : String} (e : tyD d = some t) : kitB t T = some (isiD T d) := by
  obtain ⟨k1, k2, k3, k4, k5, k6⟩ := k
  cases d <;> cases e <;> assumption
theorem kit_int : KitAll "int" := by unfold KitAll; refine ⟨?_, ?_, ?_, ?_, ?_, ?_⟩ <;> decide +kernel
theorem kit_bool : KitAll "bool" := by unfold KitAll; refine ⟨?_, ?_, ?_, ?_, ?_, ?_⟩ <;> decide +kernel
theorem kit_str : KitAll "str" := by unfold KitAll; refine ⟨?_, ?_, ?_, ?_, ?_, ?_⟩ <;> decide +kernel
theorem kit_list : KitAll "list" := by unfold KitAll; refine ⟨?_, ?_, ?_, ?_, ?_, ?_⟩ <;> decide +kernel
theorem kit_tuple : KitAll "tuple" := by unfold KitAll; refine ⟨?_, ?_, ?_, ?_, ?_, ?_⟩ <;> decide +kernel
def mIsi (T : String) (m : M D) : M D := fun ρ k => m ρ fun d ρ1 => ndD d = true ∧ k (.bool (isiD T d)) ρ1
def mIsi2 (T U : String) (m : M D) : M D := fun ρ k => m ρ fun d ρ1 => ndD d = true ∧ k (.bool (isiD T d || isiD U d)) ρ1
section
variable {X : Cx} {x : Str} {p p2 p3 pos p4 p5 : Pos} {e : Expr} {m : M D} {T U : String}
/-- isinstance(e, T) -/
theorem em_isi {n : Str} (k : KitAll T) (hm : X.mg "isinstance" = none) (hmT : X.mg n = none) (hT : bootBuiltins n = some (.type T)) (ha : EM X e m) (hg : Gl X "isinstance" := by rfl) (hgT : Gl X n := by rfl) (hn : n ≠ "__name__" := by decide) (hd : (n == ("__debug__" : Str)) = false := by decide)
    (he : starEach [e, .Name n p2] X.env = (false, eval e X.env) :: starEach [.Name n p2] X.env := by rfl) (he2 : starEach [.Name n p2] X.env = (false, eval (.Name n p2) X.env) :: starEach [] X.env := by rfl) (hpl : (backTo pos (starEach [.Name n p2] X.env)).any (·.1) = false := by rfl) :
    EM X (.Call (.Name "isinstance" p) [e, .Name n p2] [] pos) (mIsi T m) := by
  refine ⟨fun ρ k k' w q => ha.mono ρ _ _ (fun d ρ1 q1 => ⟨q1.1, w _ _ q1.2⟩) q, pe_weak (pe_callB call_isi hg hm PyProof.Rows.boot_isinstance (pa_cons ha.run (pa_cons (pe_bltn (v := .ty T) hgT hmT hT rfl hn hd) pa_nil he2) he) (he := he) (hpl := hpl)) ?_⟩
  rintro σ H Q ⟨G, loc, ρ, R, q⟩
  refine ⟨G, loc, ρ, R, ha.mono ρ _ _ (fun d ρ1 q1 v H1 R1 g1 d1 => ?_) q⟩
  obtain ⟨t, e1, ty⟩ := tyX_of q1.1 d1
  exact ⟨v, .ty T, .type t, .type T, isiD T d, rfl, .ty T, ty, kit_ty (k.get e1), q1.2 _ H1 R1 g1 (.bl _)⟩
/-- isinstance(e, (T, U)) -/
theorem em_isi2 {n n2 : Str} {kk} (k : KitAll T) (k2 : KitAll U) (hm : X.mg "isinstance" = none) (hmT : X.mg n = none) (hmU : X.mg n2 = none) (hT : bootBuiltins n = some (.type T)) (hU : bootBuiltins n2 = some (.type U)) (ha : EM X e m) (hg : Gl X "isinstance" := by rfl) (hgT : Gl X n := by rfl) (hgU : Gl X n2 := by rfl)
    (hn : n ≠ "__name__" := by decide) (hd : (n == ("__debug__" : Str)) = false := by decide) (hn2 : n2 ≠ "__name__" := by decide) (hd2 : (n2 == ("__debug__" : Str)) = false := by decide)
    (he : starEach [e, .Tuple [.Name n p2, .Name n2 p3] kk p4] X.env = (false, eval e X.env) :: starEach [.Tuple [.Name n p2, .Name n2 p3] kk p4] X.env := by rfl) (he2 : starEach [.Tuple [.Name n p2, .Name n2 p3] kk p4] X.env = (false, eval (.Tuple [.Name n p2, .Name n2 p3] kk p4) X.env) :: starEach [] X.env := by rfl)
    (he3 : starEach [.Name n p2, .Name n2 p3] X.env = (false, eval (.Name n p2) X.env) :: starEach [.Name n2 p3] X.env := by rfl) (he4 : starEach [.Name n2 p3] X.env = (false, eval (.Name n2 p3) X.env) :: starEach [] X.env := by rfl)
    (hpl : (backTo pos (starEach [.Tuple [.Name n p2, .Name n2 p3] kk p4] X.env)).any (·.1) = false := by rfl) :
    EM X (.Call (.Name "isinstance" p) [e, .Tuple [.Name n p2, .Name n2 p3] kk p4] [] pos) (mIsi2 T U m) := by
  refine ⟨fun ρ k k' w q => ha.mono ρ _ _ (fun d ρ1 q1 => ⟨q1.1, w _ _ q1.2⟩) q, pe_weak (pe_callB call_isiT hg hm PyProof.Rows.boot_isinstance (pa_cons ha.run (pa_cons (pe_tup (pa_cons (pe_bltn (v := .ty T) hgT hmT hT rfl hn hd) (pa_cons (pe_bltn (v := .ty U) hgU hmU hU rfl hn2 hd2) pa_nil he4) he3)) pa_nil he2) he) (he := he) (hpl := hpl)) ?_⟩
  rintro σ H Q ⟨G, loc, ρ, R, q⟩
  refine ⟨G, loc, ρ, R, ha.mono ρ _ _ (fun d ρ1 q1 v H1 R1 g1 d1 => ?_) q⟩
  refine ⟨by show 2 ≤ sizeLine; decide, fun tp htp => ?_⟩
  have R2 := R1.more (upd_more (o := .tup [V.ty T, V.ty U]) htp)
  have g2 := more_grow (F := Fb G.fb ρ1 loc) (upd_more (o := .tup [V.ty T, V.ty U]) htp)
  obtain ⟨t, e1, ty⟩ := tyX_of q1.1 (d1.g g2)
  refine ⟨v, tp, [.ty T, .ty U], .type t, [.type T, .type U], (isiD T d || isiD U d), rfl, upd_same, .cons (.ty T) (.cons (.ty U) .nil), ty, ?_, q1.2 _ _ R2 (g1.trans g2) (.bl _)⟩
  refine kitAny_cons (kit_ty (k.get e1)) (fun f => ?_) (fun f => by rw [f]; rfl)
  rw [f, Bool.false_or]
  refine kitAny_cons (kit_ty (k2.get e1)) (fun f => ?_) (fun f => f)
  rw [f]; rfl
end

/-! ### list(..) -/
def mListOf (m : M D) : M (List D) := fun ρ k => m ρ fun d ρ1 => match d with
  | .list xs => k xs ρ1
  | .tuple xs => k xs ρ1
  | _ => False
section
variable {X : Cx} {p pos : Pos} {e : Expr} {m : M D}
theorem nm_list (hm : X.mg "list" = none) (ha : EM X e m) (hg : Gl X "list" := by rfl) (he : starEach [e] X.env = (false, eval e X.env) :: starEach [] X.env := by rfl) (hpl : (backTo pos (starEach [] X.env)).any (·.1) = false := by rfl) :
    NM X (.Call (.Name "list" p) [e] [] pos) (mListOf m) := by
  refine ⟨fun ρ k k' w q => ha.mono ρ _ _ (fun d ρ1 q1 => by cases d <;> first | exact q1.elim | exact w _ _ q1) q, pe_weak (pe_callTy call_list_of hg hm PyProof.Rows.boot_list (pa_cons ha.run pa_nil he) (he := he) (hpl := hpl)) ?_⟩
  rintro σ H Q ⟨G, loc, ρ, R, q⟩
  refine ⟨G, loc, ρ, R, ha.mono ρ _ _ (fun d ρ1 q1 v H1 R1 g1 d1 => ?_) q⟩
  cases d <;> first | exact (show False from q1).elim | skip
  · obtain ⟨a, xs, rfl, e1, _, da⟩ := d1.sql
    refine ⟨a, xs, rfl, .inl (.inl (.inl e1)), fun l hl => ?_⟩
    obtain ⟨a1, a2, a3, a4, a5, a6⟩ := new_list R1 da hl
    exact q1 l xs _ a1 a2 a3 a4 (g1.trans a5) a6
  · obtain ⟨a, xs, rfl, e1, da⟩ := d1.sqt
    refine ⟨a, xs, rfl, .inr e1, fun l hl => ?_⟩
    obtain ⟨a1, a2, a3, a4, a5, a6⟩ := new_list R1 da hl
    exact q1 l xs _ a1 a2 a3 a4 (g1.trans a5) a6
end

/-! ### own lists without giving them up -/
def mLenOwn (i : Nat) : M D := fun ρ k => match ρ[i]? with
  | some (.own b ds) => k (.int ds.length) ρ
  | some (.dat (.list ds)) => k (.int ds.length) ρ
  | some (.dat (.tuple ds)) => k (.int ds.length) ρ
  | some (.dat (.str z)) => z.length ≤ sizeLine ∧ k (.int z.length) ρ
  | _ => False
def mIxOwn (i : Nat) (m : M D) : M D := fun ρ k => (∃ s, ρ[i]? = some s) ∧ m ρ fun d ρ1 => match ρ1[i]?, d with
  | some (.own _ ds), .int j => ∃ r, atI ds j = some r ∧ k r ρ1
  | some (.dat c), d => ixD c d fun r => k r ρ1
  | _, _ => False
section
variable {X : Cx} {p p2 pos : Pos} {e : Expr} {m : M D} {x : Str}
theorem em_lenOwn {i : Nat} (hv : PE X (.Name x p2) (tVar i)) (hm : X.mg "len" = none) (hg : Gl X "len" := by rfl) (he : starEach [.Name x p2] X.env = (false, eval (.Name x p2) X.env) :: starEach [] X.env := by rfl) (hpl : (backTo pos (starEach [] X.env)).any (·.1) = false := by rfl) :
    EM X (.Call (.Name "len" p) [.Name x p2] [] pos) (mLenOwn i) := by
  refine ⟨fun ρ k k' w q => ?_, pe_weak (pe_callB call_len hg hm PySem.boot_len (pa_cons hv pa_nil he) (he := he) (hpl := hpl)) ?_⟩
  · unfold mLenOwn at q ⊢
    split at q <;> first | exact w _ _ q | exact ⟨q.1, w _ _ q.2⟩ | exact q.elim
  · rintro σ H Q ⟨G, loc, ρ, R, q⟩
    unfold mLenOwn at q
    split at q
    · rename_i b ds e
      obtain ⟨h1, vs, h2, h3⟩ := R.own i b ds e
      exact ⟨_, h1, _, _, rfl, .inl ⟨vs, .inl (.inl h2), rfl⟩, by rw [h3.length]; exact q _ H R Grow.refl (.int _)⟩
    · rename_i ds e
      obtain ⟨v, h1, h2⟩ := R.dat i _ e
      obtain ⟨a, xs, rfl, e1, _, da⟩ := h2.sql
      exact ⟨_, h1, _, _, rfl, .inl ⟨xs, .inl (.inl e1), rfl⟩, by rw [da.length]; exact q _ H R Grow.refl (.int _)⟩
    · rename_i ds e
      obtain ⟨v, h1, h2⟩ := R.dat i _ e
      obtain ⟨a, xs, rfl, e1, da⟩ := h2.sqt
      exact ⟨_, h1, _, _, rfl, .inr ⟨xs, e1, rfl⟩, by rw [da.length]; exact q _ H R Grow.refl (.int _)⟩
    · rename_i z e
      obtain ⟨v, h1, h2⟩ := R.dat i _ e
      cases h2
      exact ⟨_, h1, _, _, rfl, ⟨q.1, rfl⟩, q.2 _ H R Grow.refl (.int _)⟩
    · exact q.elim
end
end DL

/-! Defs that are called where nothing is being shown (no repr under way): the hand layer's promise, narrowed to that. -/
namespace DL
open PySem PySem.Spec PyProof.Rows L2

structure Rm (k : Nat) (A : Around) : Prop where
  rm : Room k A
  gd : A.guards = some []
section
variable {j k : Nat} {A : Around}
theorem Rm.mono (r : Rm k A) (h : j ≤ k) : Rm j A := ⟨r.rm.mono h, r.gd⟩
theorem Rm.deeper (r : Rm (k + 1) A) (env : Env) : Rm k (A.deeper env) := ⟨r.rm.deeper env, r.gd⟩
theorem Rm.units (r : Rm k A) : A.units + 64 < cLine := r.rm.units
theorem Rm.units0 (r : Rm k A) : A.units < cLine := r.rm.units0
end
/-- what a def promises there -/
structure FnG (P : Program) (w : World) (K : PySem.W.Frag) (mg : Str → Option Value) (base : Heap) (CX : CXT) (k : Nat) (f : Addr) (fd : FuncData) (ps : List Str) (sp : Sp) : Prop where
  len : ∀ vs H Q E, sp vs H Q E → vs.length = ps.length
  run : ∀ (A : Around) (outer : List Env) (s : Shared) (H : Hp) (args : Args) (us : List Value) (vs : List V) (Q : VK) (E : XK), Rm k A → Env0 P w K mg base A outer s H →
    BindsTo s fd args (ps.zip us) → Vals vs us → sp vs H Q E → codeAny (model P w) A (.call (.ref f) args) (CR CX outer P w H s Q E) s
section
variable {CX : CXT} {P : Program} {w : World} {K : PySem.W.Frag} {mg : Str → Option Value} {base : Heap} {j k : Nat} {f : Addr} {fd : FuncData} {N ps : List Str} {sp : Sp}
theorem FnG.mono (F : FnG P w K mg base CX j f fd ps sp) (h : j ≤ k) : FnG P w K mg base CX k f fd ps sp :=
  ⟨F.len, fun A outer s H args us vs Q E hr => F.run A outer s H args us vs Q E (hr.mono h)⟩
/-- the rule for a body -/
theorem fng_of {name qual : Str} {params : Arguments} {body : List Stmt} {scope : Scope} {dV kV doc pm cdv ct oc : Value} {an od : Option Addr} {osl : Array (Option Value)}
    (lk : K.lookup f = some ⟨oc, od, .func (PySem.W.fnOf name qual params body scope dV kV doc pm an cdv ct), osl⟩) (hcd : PySem.W.codeIn K cdv qual = true)
    (S : FnScope N ps scope) (len : ∀ vs H Q E, sp vs H Q E → vs.length = ps.length)
    (hb : ∀ (A : Around) (outer : List Env) (s : Shared) (H : Hp) (vs : List V) (Q : VK) (E : XK), Rm k (A.deeper (envOfC qual scope s.heap.objs.size f cdv)) → sp vs H Q E →
      ∃ t, PSs (cxOf CX P w K mg base N qual scope f cdv A outer s H E) body t ∧ t { nx := fun _ H' => Q .non H', rt := Q } (start N vs) H) :
    FnG P w K mg base CX (k + 1) f (PySem.W.fnOf name qual params body scope dV kV doc pm an cdv ct) ps sp := by
  refine ⟨len, ?_⟩
  intro A outer s H args us vs Q E room e0 bt rel prom
  have hlen := len _ _ _ _ prom
  have inK : K.In s.heap := e0.mod.kin.keeps (fun b o e => And.left (e0.bs b o e))
  have noLim : s.heap.NoLimit := e0.mod.nolimit.keeps (fun b o e => And.left (e0.bs b o e))
  refine codeAny_call_function room.rm.depth (inK _ _ lk) rfl S.co S.gen rfl (PySem.W.codeRec_of inK hcd) (bt _ _ _ _ ?_)
  refine wpAny_newFunctionEnv_cells S.kind (fun ⟨n, v⟩ hy => ?_) (fun env he s1 x => ?_)
  · rcases S.par n (List.of_mem_zip hy).1 with par | par
    · exact .inl par
    · exact .inr (And.intro par (PySem.W.cellsFrom_some _ _ _ (Or.inl par)))
  · subst he
    refine And.intro (noLim.keeps x.toInCall.keep) (codeAny_func ?_)
    obtain ⟨t, runs, holds⟩ := hb A outer s H vs Q E (room.deeper _) prom
    have inv := inv_start (CX := CX) (P := P) (w := w) (mg := mg) (base := base) (E := E) (N := N) S room.rm.hd e0 hlen rel x
    have fin : ∀ {σ' : L2.St} {H' : Hp} {v : V} {u : Value}, Inv (cxOf CX P w K mg base N qual scope f cdv A outer s H E) [] σ' H' ‹_› → RelV v u → Q v H' → CE outer P w H s Q u _ :=
      fun {σ' H' v u} J rv got => ⟨v, H', J.os, J.bare, J.base, J.hok, rv, got⟩
    refine wpAny_mono (runs.run [] s1 (start N vs) H _ inv holds) ?_ (fun e s' hs => hs)
    intro fl s' hs
    cases fl with
    | brk => exact hs.choose_spec.choose_spec.2.elim
    | cont => exact hs.choose_spec.choose_spec.2.elim
    | next =>
      obtain ⟨σ', H', J, got⟩ := hs
      exact ⟨V.non, H', J.os, J.bare, J.base, J.hok, rfl, got⟩
    | ret u =>
      obtain ⟨v, σ', H', J, rv, got⟩ := hs
      exact ⟨v, H', J.os, J.bare, J.base, J.hok, rv, got⟩
theorem funG {x qual : Str} {st : Stmt} (F : Fun K x qual st f fd) (S : FnScope N ps (defScope st)) (len : ∀ vs H Q E, sp vs H Q E → vs.length = ps.length)
    (hb : ∀ (cdv : Value) (A : Around) (outer : List Env) (s : Shared) (H : Hp) (vs : List V) (Q : VK) (E : XK), Rm k (A.deeper (envOfC qual (defScope st) s.heap.objs.size f cdv)) → sp vs H Q E →
      ∃ t, PSs (cxOf CX0 P w K mg base N qual (defScope st) f cdv A outer s H E).nox (defBody st) t ∧ t { nx := fun _ H' => Q .non H', rt := Q } (start N vs) H) : FnG P w K mg base CX0 (k + 1) f fd ps sp := by
  obtain ⟨oc, od, kV, doc, pm, an, cdv, ct, osl, e, look, code⟩ := F.ex
  subst e
  refine fng_of look code S len (fun A outer s H vs Q E room prom => ?_)
  obtain ⟨t, runs, holds⟩ := hb cdv A outer s H vs Q E room prom
  exact ⟨t, runs.nox, holds⟩
end
section
variable {X : Cx} {CX : CXT} {k i : Nat} {f : Addr} {fd : FuncData} {ps : List Str} {sp : Sp} {dvs : List V} {ds : List Value} {E : XK} {x : Str} {p pos : Pos} {e : Expr} {es : List Expr} {t : TA}
theorem run_g {pins : List (Addr × Obj)} {σ : L2.St} {H : Hp} {s : Shared} {Q : VK} {us : List Value} {vs : List V} (F : FnG X.prog X.w X.K X.mg X.base CX k f fd ps sp) (hr : Rm k X.A) (hb : Binds X.K fd ps ds) (hd : Vals dvs ds)
    (hx : Passes CX X E) (I : Inv X pins σ H s) (r : Vals vs us) (h : sp (vs ++ dvs) H Q E) : wpAny (model X.prog X.w) X.A (call (.ref f) us) (EP X pins σ Q) X.xe s := by
  have rel : Vals (vs ++ dvs) (us ++ ds) := r.append hd
  have many : (us ++ ds).length = ps.length := rel.length.symm.trans (F.len _ _ _ _ h)
  refine wpAny_call (codeAny_mono (F.run X.A X.stack s H ⟨us, []⟩ _ _ Q E hr I.env0 (hb s us I.kIn many) rel h) ?_)
  intro out s' got
  cases out with
  | error e => exact hx pins σ H s e s' I got
  | ok fl =>
    cases fl with
    | ret u => exact I.after got
    | next => exact got.elim
    | brk => exact got.elim
    | cont => exact got.elim
theorem pe_callG (F : FnG X.prog X.w X.K X.mg X.base CX k f fd ps sp) (hr : Rm k X.A) (hg : Gl X x) (hm : X.mg x = some (.ref f)) (hk : PySem.W.keepIn X.K (.ref f) = true) (hb : Binds X.K fd ps ds) (hd : Vals dvs ds) (hx : Passes CX X E)
    (ha : PA X (e :: es) t) (hdb : (x == ("__debug__" : Str)) = false := by decide) (he : starEach (e :: es) X.env = (false, eval e X.env) :: starEach es X.env := by rfl)
    (hpl : (backTo pos (starEach es X.env)).any (·.1) = false := by rfl) : PE X (.Call (.Name x p) (e :: es) [] pos) (tCall sp dvs E t) := by
  refine ⟨fun pins s σ H Q I h => wpAny_Call_Name_kw (ld_glob I hg hm ?_ hdb)⟩
  refine PySem.W.callWith_K (h₀ := X.base) I.ok.mod.kin hk (thn (ha.run pos pins s σ H _ I h) ?_) he hpl
  rintro us s1 ⟨vs, H1, I1, rel, got⟩
  exact ⟨I1.kIn, run_g F hr hb hd hx I1 rel got⟩
theorem pe_callG0 (F : FnG X.prog X.w X.K X.mg X.base CX k f fd ps sp) (hr : Rm k X.A) (hg : Gl X x) (hm : X.mg x = some (.ref f)) (hk : PySem.W.keepIn X.K (.ref f) = true) (hb : Binds X.K fd ps ds) (hd : Vals dvs ds) (hx : Passes CX X E)
    (hdb : (x == ("__debug__" : Str)) = false := by decide) : PE X (.Call (.Name x p) [] [] pos) (tCall sp dvs E tNil) :=
  ⟨fun pins s σ H Q I h => wpAny_Call_Name_kw (ld_glob I hg hm (PySem.W.callWith_K0 I.kIn hk (run_g (us := []) F hr hb hd hx I .nil h)) hdb)⟩
theorem pe_callLG (F : FnG X.prog X.w X.K X.mg X.base CX k f fd ps sp) (hr : Rm k X.A) (hN : X.N[i]? = some x) (hv : Vis X.env.scope x) (hk : PySem.W.keepIn X.K (.ref f) = true) (hb : Binds X.K fd ps ds) (hd : Vals dvs ds) (hx : Passes CX X E)
    (ha : PA X (e :: es) t) (hdb : (x == ("__debug__" : Str)) = false := by decide) (hcd : (x == ("__classdict__" : Str)) = false := by decide)
    (he : starEach (e :: es) X.env = (false, eval e X.env) :: starEach es X.env := by rfl) (hpl : (backTo pos (starEach es X.env)).any (·.1) = false := by rfl) : PE X (.Call (.Name x p) (e :: es) [] pos) (tCallL i f sp dvs E t) := by
  refine ⟨fun pins s σ H Q I h => wpAny_Call_Name_kw (thn ((pe_var (pos := p) hN hv hdb hcd).run pins s σ H (fun v H1 => v = .ref f ∧ H1 = H) I ⟨.ref f, h.1, rfl, rfl⟩) ?_)⟩
  rintro u s1 ⟨v, H1, I1, r1, rfl, rfl⟩
  cases r1
  refine PySem.W.callWith_K (h₀ := X.base) I.ok.mod.kin hk (thn (ha.run pos pins s1 σ _ _ I1 h.2) ?_) he hpl
  rintro us s2 ⟨vs, H2, I2, rel, got⟩
  exact ⟨I2.kIn, run_g F hr hb hd hx I2 rel got⟩
structure HeldG (P : Program) (w : World) (K : PySem.W.Frag) (mg : Str → Option Value) (base : Heap) (k : Nat) (f : Addr) (sp : Sp) : Prop where
  ex : ∃ (fd : FuncData) (ps : List Str), FnG P w K mg base CX0 k f fd ps sp ∧ PySem.W.keepIn K (.ref f) = true ∧ Binds K fd ps []
end
end DL

namespace DL
open PySem L2

/-! ### defs of the text: what they compute -/
/-- of data alone -/
abbrev FS := List D → (Bool → D → Prop) → Prop
/-- of a borrowed list and data -/
abbrev FB := List D → List D → (Bool → D → List D → Prop) → Prop
def KdB (K : PySem.W.Frag) (fb : AS) (H : Hp) (Q : VK) : Bool → D → Prop := fun b d => ∀ v H', (∀ c o, H c = some o → H' c = some o) → Dx K H' fb v d → (b = true → IsNew K H fb H' v d) → Q v H'
def sp0 (K : PySem.W.Frag) (n : Nat) (F : FS) : Sp := fun vs H Q _ => ∃ (fb : AS) (ds : List D), (∀ b, fb b → ∃ o, H b = some o) ∧ DxAll K H fb vs ds ∧ ds.length = n ∧ F ds (KdB K fb H Q)
def KdBB (K : PySem.W.Frag) (fb : AS) (a : Addr) (H : Hp) (Q : VK) : Bool → D → List D → Prop := fun b d bs => ∀ v H', (∀ c o, c ≠ a → H c = some o → H' c = some o) → (∃ ws, H' a = some (.lst ws) ∧ DxAll K H' fb ws bs) → Dx K H' fb v d → (b = true → IsNew K H fb H' v d) → Q v H'
def spB (K : PySem.W.Frag) (n : Nat) (F : FB) : Sp := fun vs H Q _ => ∃ (fb : AS) (a : Addr) (vs' : List V) (ds bs : List D) (ws : List V), vs = .ref a :: vs' ∧ fb a ∧ (∀ b, fb b → ∃ o, H b = some o) ∧ H a = some (.lst ws) ∧ DxAll K H fb ws bs ∧ DxAll K H fb vs' ds ∧ ds.length = n ∧
  F bs ds (KdBB K fb a H Q)
def PmS (F : FS) : Prop := ∀ ds k k', (∀ b d, k b d → k' b d) → F ds k → F ds k'
def PmB (F : FB) : Prop := ∀ bs ds k k', (∀ b d bs', k b d bs' → k' b d bs') → F bs ds k → F bs ds k'
/-- the body's meaning, from the parameters -/
def fnS (m : SMon) (extra : Nat) : FS := fun ds k => m ⟨fun _ => k false .none, fun b d _ => k b d, fun _ => False, fun _ => False⟩ (ds.map Slot.dat ++ List.replicate extra Slot.non)
def fnB (m : SMon) (extra : Nat) : FB := fun bs ds k => m ⟨fun ρ => ∃ bs', ρ[0]? = some (Slot.own true bs') ∧ k false .none bs', fun b d ρ => ∃ bs', ρ[0]? = some (Slot.own true bs') ∧ k b d bs', fun _ => False, fun _ => False⟩ (Slot.own true bs :: (ds.map Slot.dat ++ List.replicate extra Slot.non))
theorem pm_fnS {m : SMon} (h : SMono m) (n : Nat) : PmS (fnS m n) := fun ds k k' w q => h ⟨fun _ => k false .none, fun b d _ => k b d, fun _ => False, fun _ => False⟩ _ _ ⟨fun _ q => w _ _ q, fun _ _ _ q => w _ _ q, fun _ q => q, fun _ q => q⟩ q
theorem pm_fnB {m : SMon} (h : SMono m) (n : Nat) : PmB (fnB m n) := fun bs ds k k' w q => h ⟨fun ρ => ∃ bs', ρ[0]? = some (Slot.own true bs') ∧ k false .none bs', fun b d ρ => ∃ bs', ρ[0]? = some (Slot.own true bs') ∧ k b d bs', fun _ => False, fun _ => False⟩ _ _ ⟨fun _ ⟨bs', e, q⟩ => ⟨bs', e, w _ _ _ q⟩, fun _ _ _ ⟨bs', e, q⟩ => ⟨bs', e, w _ _ _ q⟩, fun _ q => q, fun _ q => q⟩ q

theorem slot_dat {ds : List D} {extra i : Nat} {d : D} (h : (ds.map Slot.dat ++ List.replicate extra Slot.non)[i]? = some (Slot.dat d)) : ds[i]? = some d := by
  by_cases hi : i < ds.length
  · rw [List.getElem?_append_left (by simpa using hi), List.getElem?_map] at h
    cases q : ds[i]? with
    | none => rw [q] at h; cases h
    | some e => rw [q] at h; cases h; rfl
  · rw [List.getElem?_append_right (by simpa using hi), List.getElem?_replicate] at h
    split at h <;> cases h
theorem slot_own {ds : List D} {extra i : Nat} {b : Bool} {es : List D} (h : (ds.map Slot.dat ++ List.replicate extra Slot.non)[i]? = some (Slot.own b es)) : False := by
  by_cases hi : i < ds.length
  · rw [List.getElem?_append_left (by simpa using hi), List.getElem?_map] at h
    cases q : ds[i]? with
    | none => rw [q] at h; cases h
    | some e => rw [q] at h; cases h
  · rw [List.getElem?_append_right (by simpa using hi), List.getElem?_replicate] at h
    split at h <;> cases h
theorem slot_raw {ds : List D} {extra i : Nat} {v : V} {cs : List (Addr × HO)} {fs : List (V × D)} (h : (ds.map Slot.dat ++ List.replicate extra Slot.non)[i]? = some (Slot.raw v cs fs)) : False := by
  by_cases hi : i < ds.length
  · rw [List.getElem?_append_left (by simpa using hi), List.getElem?_map] at h
    cases q : ds[i]? with
    | none => rw [q] at h; cases h
    | some e => rw [q] at h; cases h
  · rw [List.getElem?_append_right (by simpa using hi), List.getElem?_replicate] at h
    split at h <;> cases h
theorem start_get {N : List Str} {vs : List V} {i : Nat} {v : V} (h : vs[i]? = some v) : (L2.start N vs)[i]? = some (some v) := by
  unfold L2.start
  have hi : i < vs.length := (List.getElem?_eq_some_iff.mp h).1
  rw [List.getElem?_append_left (by simpa using hi), List.getElem?_map, h]
  rfl
theorem start_len {N : List Str} {vs : List V} : (L2.start N vs).length = vs.length + (N.length - vs.length) := by
  unfold L2.start
  rw [List.length_append, List.length_map, List.length_replicate]
/-- the slots at the entry -/
theorem rep_start0 {K : PySem.W.Frag} {H : Hp} {fb : AS} {vs : List V} {ds : List D} {N : List Str} (hf : ∀ b, fb b → ∃ o, H b = some o) (hd : DxAll K H fb vs ds) :
    Rep K ⟨H, fb, fun _ => False, fun _ => 0⟩ (ds.map Slot.dat ++ List.replicate (N.length - ds.length) Slot.non) (fun _ => 0) (L2.start N vs) H := by
  have sub : ∀ b, Fb fb (ds.map Slot.dat ++ List.replicate (N.length - ds.length) Slot.non) (fun _ => 0) b → fb b := fun b z => by
    rcases z with z | z | ⟨i, b, es, e, _⟩
    · exact z
    · obtain ⟨i, v, cs, fs, o, e, _⟩ := z
      exact (slot_raw e).elim
    · exact (slot_own e).elim
  refine ⟨?_, fun i d e => ?_, fun i b es e => (slot_own e).elim, fun i j b c es fs e _ _ => (slot_own e).elim, fun i es e => (slot_own e).elim, fun i es e => (slot_own e).elim, fun b o e _ => e, hf, fun b q => q.elim, RawR.no (fun a ⟨i, v, cs, fs, o, e, _⟩ => (slot_raw e).elim) fun i v cs fs e => (slot_raw e).elim⟩
  · rw [start_len, List.length_append, List.length_map, List.length_replicate, hd.length]
  · obtain ⟨v, h1, h2⟩ := hd.get (slot_dat e)
    exact ⟨v, start_get h1, h2.weak sub⟩
theorem rep_startB {K : PySem.W.Frag} {H : Hp} {fb : AS} {a : Addr} {ws vs : List V} {bs ds : List D} {N : List Str} (hf : ∀ b, fb b → ∃ o, H b = some o) (ha : fb a) (hw : H a = some (.lst ws)) (hb : DxAll K H fb ws bs) (hd : DxAll K H fb vs ds) (hn : ds.length + 1 ≤ N.length) :
    Rep K ⟨H, fb, fun b => b = a, fun _ => a⟩ (Slot.own true bs :: (ds.map Slot.dat ++ List.replicate (N.length - (ds.length + 1)) Slot.non)) (fun _ => a) (start N (.ref a :: vs)) H := by
  have own0 : ∀ {i : Nat} {b : Bool} {es : List D}, (Slot.own true bs :: (ds.map Slot.dat ++ List.replicate (N.length - (ds.length + 1)) Slot.non))[i]? = some (Slot.own b es) → i = 0 ∧ b = true ∧ es = bs := fun {i b es} e => by
    cases i with
    | zero => simp at e; exact ⟨rfl, e.1, e.2.symm⟩
    | succ i => rw [List.getElem?_cons_succ] at e; exact (slot_own e).elim
  have raw0 : ∀ {i : Nat} {v : V} {cs : List (Addr × HO)} {fs : List (V × D)}, (Slot.own true bs :: (ds.map Slot.dat ++ List.replicate (N.length - (ds.length + 1)) Slot.non))[i]? = some (Slot.raw v cs fs) → False := fun {i v cs fs} e => by
    cases i with
    | zero => simp at e
    | succ i => rw [List.getElem?_cons_succ] at e; exact slot_raw e
  have sub : ∀ b, Fb fb (Slot.own true bs :: (ds.map Slot.dat ++ List.replicate (N.length - (ds.length + 1)) Slot.non)) (fun _ => a) b → fb b := fun b z => by
    rcases z with z | z | ⟨i, b, es, e, z⟩
    · exact z
    · obtain ⟨i, v, cs, fs, o, e, _⟩ := z
      exact (raw0 e).elim
    · rw [← z]; exact ha
  refine ⟨?_, fun i d e => ?_, fun i b es e => ?_, fun i j b c es fs e e' _ => ?_, fun i es e => ⟨rfl, rfl⟩, fun i es e => ?_, fun b o e _ => e, hf, fun b q => by cases q; exact ha, RawR.no (fun a ⟨i, v, cs, fs, o, e, _⟩ => (raw0 e).elim) fun i v cs fs e => (raw0 e).elim⟩
  · have := hd.length
    rw [start_len, List.length_cons, List.length_cons, List.length_append, List.length_map, List.length_replicate]
    omega
  · cases i with
    | zero => simp at e
    | succ i =>
      rw [List.getElem?_cons_succ] at e
      obtain ⟨v, h1, h2⟩ := hd.get (slot_dat e)
      exact ⟨v, start_get (i := i + 1) (by simpa using h1), h2.weak sub⟩
  · obtain ⟨rfl, rfl, rfl⟩ := own0 e
    exact ⟨start_get (i := 0) rfl, ws, hw, hb.weak sub⟩
  · rw [(own0 e).1, (own0 e').1]
  · cases (own0 e).2.1
section
variable {P : Program} {w : World} {K : PySem.W.Frag} {mg : Str → Option Value} {base : Heap} {x qual : Str} {st : Stmt} {f : Addr} {fd : FuncData} {N ps : List Str} {k : Nat} {m : SMon}
theorem DxAll.len_sp {H : Hp} {fb : AS} {vs : List V} {ds : List D} {n : Nat} (h : DxAll K H fb vs ds) (e : ds.length = n) : vs.length = n := h.length.trans e
theorem IsNew.weak {H0 H : Hp} {F F' : AS} {v : V} {d : D} (h : IsNew K H0 F H v d) (s : ∀ b, F' b → F b) : IsNew K H0 F' H v d := by
  obtain ⟨p, ws, xs, a, b, c, e, f⟩ := h
  exact ⟨p, ws, xs, a, b, c, e, f.weak fun q z => z.imp (s q) id⟩
/-- a def of data alone keeps what its body means -/
theorem fn0 (F : Fun K x qual st f fd) (S : FnScope N ps (defScope st))
    (body : ∀ (cdv : Value) (A : Around) (outer : List Env) (s : Shared) (H : Hp) (E : XK), Rm k (A.deeper (PyProof.Rows.envOfC qual (defScope st) s.heap.objs.size f cdv)) → BM (cxOf CX0 P w K mg base N qual (defScope st) f cdv A outer s H E).nox (defBody st) m) :
    FnG P w K mg base CX0 (k + 1) f fd ps (sp0 K ps.length (fnS m (N.length - ps.length))) := by
  refine funG F S (fun vs H Q E h => ?_) (fun cdv A outer s H vs Q E hr h => ?_)
  · obtain ⟨fb, ds, _, hd, e, _⟩ := h
    exact hd.len_sp e
  · obtain ⟨fb, ds, hf, hd, e, q⟩ := h
    have B := body cdv A outer s H E hr
    have R := rep_start0 (N := N) hf hd
    rw [e] at R
    refine ⟨_, B.run, ⟨_, _, _, _, R, q, ?_, ?_, ?_, ?_⟩⟩
    · exact fun ρ' loc' σ' H' R' g q => q .non H' (fun c o e => R'.ext c o e fun z => z) .non (fun z => nomatch z)
    · exact fun b d ρ' loc' σ' v H' R' g dx nw q => q v H' (fun c o e => R'.ext c o e fun z => z) (dx.weak fun c z => .inl z) fun z => (nw z).weak fun c z => .inl z
    · exact fun ρ' loc' σ' H' R' g q => q
    · exact fun ρ' loc' σ' H' R' g q => q
/-- .. of a borrowed list and data -/
theorem fnb (F : Fun K x qual st f fd) (S : FnScope N ps (defScope st)) {n : Nat} (hn : ps.length = n + 1) (hN : ps.length ≤ N.length)
    (body : ∀ (cdv : Value) (A : Around) (outer : List Env) (s : Shared) (H : Hp) (E : XK), Rm k (A.deeper (PyProof.Rows.envOfC qual (defScope st) s.heap.objs.size f cdv)) → BM (cxOf CX0 P w K mg base N qual (defScope st) f cdv A outer s H E).nox (defBody st) m) :
    FnG P w K mg base CX0 (k + 1) f fd ps (spB K n (fnB m (N.length - (n + 1)))) := by
  refine funG F S (fun vs H Q E h => ?_) (fun cdv A outer s H vs Q E hr h => ?_)
  · obtain ⟨fb, a, vs', ds, bs, ws, rfl, _, _, _, _, hd, e, _⟩ := h
    rw [List.length_cons, hd.len_sp e, hn]
  · obtain ⟨fb, a, vs', ds, bs, ws, rfl, ha, hf, hw, hb, hd, e, q⟩ := h
    have B := body cdv A outer s H E hr
    have R := rep_startB (N := N) hf ha hw hb hd (by omega)
    rw [e] at R
    have back : ∀ {ρ' : List Slot} {loc' : Nat → Addr} {σ' : L2.St} {H' : Hp} {bs' : List D}, Rep K ⟨H, fb, fun b => b = a, fun _ => a⟩ ρ' loc' σ' H' → ρ'[0]? = some (Slot.own true bs') → ∃ ws, H' a = some (.lst ws) ∧ DxAll K H' fb ws bs' := fun {ρ' loc' σ' H' bs'} R' e0 => by
      obtain ⟨h1, ws, h2, h3⟩ := R'.own 0 true bs' e0
      obtain ⟨h4, _⟩ := R'.brw 0 bs' e0
      rw [h4] at h2
      exact ⟨ws, h2, h3.weak fun c z => .inl z⟩
    refine ⟨_, B.run, ⟨_, _, _, _, R, q, ?_, ?_, ?_, ?_⟩⟩
    · exact fun ρ' loc' σ' H' R' g ⟨bs', e0, q⟩ => q .non H' (fun c o n e => R'.ext c o e n) (back R' e0) .non (fun z => nomatch z)
    · exact fun b d ρ' loc' σ' v H' R' g dx nw ⟨bs', e0, q⟩ => q v H' (fun c o n e => R'.ext c o e n) (back R' e0) (dx.weak fun c z => .inl z) fun z => (nw z).weak fun c z => .inl z
    · exact fun ρ' loc' σ' H' R' g q => q
    · exact fun ρ' loc' σ' H' R' g q => q
end

/-! ### calls of them -/
def mFn (n : Nat) (F : FS) (m : M (List D)) : M D := fun ρ k => m ρ fun ds ρ1 => ds.length = n ∧ F ds fun _ d => k d ρ1
def mFnN (n : Nat) (F : FS) (m : M (List D)) : M (List D) := fun ρ k => m ρ fun ds ρ1 => ds.length = n ∧ F ds fun b d => b = true ∧ ∃ xs, d = .list xs ∧ k xs ρ1
def mFnB (n : Nat) (F : FB) (i : Nat) (m : M (List D)) : M D := fun ρ k => (∃ b bs, ρ[i]? = some (Slot.own b bs)) ∧ m ρ fun ds ρ1 => ∃ b bs, ρ1[i]? = some (Slot.own b bs) ∧ ds.length = n ∧ F bs ds fun _ d bs' => k d (ρ1.set i (.own b bs'))
def mFnBN (n : Nat) (F : FB) (i : Nat) (m : M (List D)) : M (List D) := fun ρ k => (∃ b bs, ρ[i]? = some (Slot.own b bs)) ∧ m ρ fun ds ρ1 => ∃ b bs, ρ1[i]? = some (Slot.own b bs) ∧ ds.length = n ∧ F bs ds fun c d bs' => c = true ∧ ∃ xs, d = .list xs ∧ k xs (ρ1.set i (.own b bs'))
section
variable {X : Cx} {k n : Nat} {f : Addr} {fd : FuncData} {ps : List Str} {x : Str} {p pos : Pos} {e : Expr} {es : List Expr} {m : M (List D)} {F : FS} {FF : FB}
theorem em_fn (G : FnG X.prog X.w X.K X.mg X.base CX0 k f fd ps (sp0 X.K n F)) (mF : PmS F) (hr : Rm k X.A) (hg : Gl X x) (hm : X.mg x = some (.ref f)) (hk : PySem.W.keepIn X.K (.ref f) = true) (hb : Binds X.K fd ps [])
    (ha : AM X (e :: es) m) (hdb : (x == ("__debug__" : Str)) = false := by decide) (he : starEach (e :: es) X.env = (false, eval e X.env) :: starEach es X.env := by rfl) (hpl : (backTo pos (starEach es X.env)).any (·.1) = false := by rfl) :
    EM X (.Call (.Name x p) (e :: es) [] pos) (mFn n F m) := by
  refine ⟨fun ρ k k' w q => ha.mono ρ _ _ (fun ds ρ1 q1 => ⟨q1.1, mF ds _ _ (fun b d q2 => w _ _ q2) q1.2⟩) q, pe_weak (pe_callG G hr hg hm hk hb .nil pass0 ha.run hdb he hpl) ?_⟩
  rintro σ H Q ⟨G', loc, ρ, R, q⟩
  refine ⟨G', loc, ρ, R, ha.mono ρ _ _ (fun ds ρ1 q1 vs H1 R1 g1 d1 => ?_) q⟩
  refine ⟨Fb G'.fb ρ1 loc, ds, R1.fbE, by rw [List.append_nil]; exact d1, q1.1, mF ds _ _ (fun b d q2 v H2 m2 d2 _ => ?_) q1.2⟩
  exact q2 v H2 (R1.more m2) (g1.trans (more_grow m2)) d2
/-- a def that gives a new list -/
theorem nm_fn (G : FnG X.prog X.w X.K X.mg X.base CX0 k f fd ps (sp0 X.K n F)) (mF : PmS F) (hr : Rm k X.A) (hg : Gl X x) (hm : X.mg x = some (.ref f)) (hk : PySem.W.keepIn X.K (.ref f) = true) (hb : Binds X.K fd ps [])
    (ha : AM X (e :: es) m) (hdb : (x == ("__debug__" : Str)) = false := by decide) (he : starEach (e :: es) X.env = (false, eval e X.env) :: starEach es X.env := by rfl) (hpl : (backTo pos (starEach es X.env)).any (·.1) = false := by rfl) :
    NM X (.Call (.Name x p) (e :: es) [] pos) (mFnN n F m) := by
  refine ⟨fun ρ k k' w q => ha.mono ρ _ _ (fun ds ρ1 q1 => ⟨q1.1, mF ds _ _ (fun b d ⟨z, xs, y, q2⟩ => ⟨z, xs, y, w _ _ q2⟩) q1.2⟩) q, pe_weak (pe_callG G hr hg hm hk hb .nil pass0 ha.run hdb he hpl) ?_⟩
  rintro σ H Q ⟨G', loc, ρ, R, q⟩
  refine ⟨G', loc, ρ, R, ha.mono ρ _ _ (fun ds ρ1 q1 vs H1 R1 g1 d1 => ?_) q⟩
  refine ⟨Fb G'.fb ρ1 loc, ds, R1.fbE, by rw [List.append_nil]; exact d1, q1.1, mF ds _ _ (fun b d q2 v H2 m2 d2 nw => ?_) q1.2⟩
  obtain ⟨rfl, xs, rfl, q3⟩ := q2
  obtain ⟨p, ws, ys, rfl, e2, hp, e3, d3⟩ := nw rfl
  cases e2
  obtain ⟨a1, a2, _, a4, a5, _⟩ := new_list R1 (.nil : DxAll X.K H1 (Fb G'.fb ρ1 loc) [] []) hp
  have sub : ∀ b, Fb (G'.plus p).fb ρ1 loc b → Fb G'.fb ρ1 loc b ∨ b = p := fun b z => by
    rcases z with (z | z) | z
    · exact .inl (.inl z)
    · exact .inr z
    · exact .inl (.inr z)
  have R2 : Rep X.K (G'.plus p) ρ1 loc σ H2 := by
    have g2 : Grow (Fb G'.fb ρ1 loc) (Fb (G'.plus p).fb ρ1 loc) H1 H2 := fun b o e n => ⟨m2 b o e, fun z => by
      rcases sub b z with z | z
      · exact n z
      · rw [z, hp] at e; cases e⟩
    refine ⟨R1.len, fun i d e => ?_, fun i b ds e => ?_, R1.apart, R1.brw, a4.new, fun b o e n => m2 b o (R1.ext b o e n), fun b e => ?_, fun b e => .inl (R1.bwS b e), R1.raw.plus m2 hp g2⟩
    · obtain ⟨v, h1, h2⟩ := R1.dat i d e
      exact ⟨v, h1, h2.g g2⟩
    · obtain ⟨h1, vs, h2, h3⟩ := R1.own i b ds e
      exact ⟨h1, vs, m2 _ _ h2, h3.g g2⟩
    · rcases e with e | e
      · obtain ⟨o, q⟩ := R1.fbS b e
        exact ⟨o, m2 _ _ q⟩
      · rw [e]; exact ⟨_, e3⟩
  refine q3 p ws H2 a1 a2 e3 R2 (g1.trans fun b o e n => ⟨m2 b o e, fun z => ?_⟩) (d3.weak sub)
  rcases sub b z with z | z
  · exact n z
  · rw [z, hp] at e; cases e
/-- behind a call that changed the borrowed list alone -/
theorem Rep.back {K : PySem.W.Frag} {G : Fr} {ρ : List Slot} {loc : Nat → Addr} {σ : L2.St} {H H' : Hp} (R : Rep K G ρ loc σ H) {i : Nat} {b : Bool} {bs bs' : List D} {ws : List V} (e : ρ[i]? = some (Slot.own b bs)) (g : ∀ c o, c ≠ loc i → H c = some o → H' c = some o)
    (hw : H' (loc i) = some (.lst ws)) (hb : DxAll K H' (Fb G.fb ρ loc) ws bs') : Rep K G (ρ.set i (.own b bs')) loc σ H' ∧ Grow (Fb G.fb ρ loc) (Fb G.fb (ρ.set i (.own b bs')) loc) H H' ∧ ∀ a, Fb G.fb (ρ.set i (.own b bs')) loc a → Fb G.fb ρ loc a := by
  have hl : i < ρ.length := (List.getElem?_eq_some_iff.mp e).1
  have gt : ∀ j s, (ρ.set i (.own b bs'))[j]? = some s → (j = i ∧ s = .own b bs') ∨ (j ≠ i ∧ ρ[j]? = some s) := fun j s q => by
    by_cases hj : i = j
    · subst hj
      rw [List.getElem?_set_self hl] at q
      exact .inl ⟨rfl, (Option.some.inj q).symm⟩
    · rw [List.getElem?_set_ne hj] at q; exact .inr ⟨Ne.symm hj, q⟩
  have sub : ∀ a, Fb G.fb (ρ.set i (.own b bs')) loc a → Fb G.fb ρ loc a := fun a z => by
    rcases z with z | z | ⟨j, c, ds, e', z⟩
    · exact .inl z
    · refine .inr (.inl (Rw.sub (fun j v cs fs q => ?_) z))
      rcases gt j _ q with ⟨_, q⟩ | ⟨_, q⟩
      · cases q
      · exact q
    · rcases gt j _ e' with ⟨rfl, q⟩ | ⟨_, q⟩
      · exact .inr (.inr ⟨j, b, bs, e, z⟩)
      · exact .inr (.inr ⟨j, c, ds, q, z⟩)
  have gr : Grow (Fb G.fb ρ loc) (Fb G.fb (ρ.set i (.own b bs')) loc) H H' := fun c o q n => ⟨g c o (fun z => n (.inr (.inr ⟨i, b, bs, e, z.symm⟩))) q, fun z => n (sub c z)⟩
  refine ⟨⟨by rw [List.length_set]; exact R.len, fun j d q => ?_, fun j c es q => ?_, fun j l c c' es fs q q' z => ?_, fun j es q => ?_, fun j es q => ?_, fun c o q n => ?_, fun c q => ?_, R.bwS, R.raw.step (fun j v cs fs q => ?_) (fun j c es q => ?_) gr (fun a u z q => g a u (fun y => R.raw.own a z i b bs e y.symm) q) fun _ _ a b => ⟨a, b⟩⟩, gr, sub⟩
  · rcases gt j _ q with ⟨_, q'⟩ | ⟨_, q'⟩
    · cases q'
    · obtain ⟨v, a1, a2⟩ := R.dat j d q'
      exact ⟨v, a1, a2.g gr⟩
  · rcases gt j _ q with ⟨rfl, q'⟩ | ⟨hj, q'⟩
    · cases q'
      exact ⟨(R.own j b bs e).1, ws, hw, hb.weak sub⟩
    · obtain ⟨a1, vs, a2, a3⟩ := R.own j c es q'
      refine ⟨a1, vs, g _ _ (fun z => hj (R.apart j i c b es bs q' e z)) a2, a3.g gr⟩
  · rcases gt j _ q with ⟨rfl, q1⟩ | ⟨hj, q1⟩
    · rcases gt l _ q' with ⟨rfl, q2⟩ | ⟨hl, q2⟩
      · rfl
      · exact R.apart j l b c' bs fs e q2 z
    · rcases gt l _ q' with ⟨rfl, q2⟩ | ⟨hl, q2⟩
      · exact R.apart j l c b es bs q1 e z
      · exact R.apart j l c c' es fs q1 q2 z
  · rcases gt j _ q with ⟨rfl, q1⟩ | ⟨_, q1⟩
    · cases q1; exact R.brw j bs e
    · exact R.brw j es q1
  · rcases gt j _ q with ⟨rfl, q1⟩ | ⟨_, q1⟩
    · cases q1; exact R.new j bs e
    · exact R.new j es q1
  · refine g _ _ (fun z => ?_) (R.ext c o q n)
    cases b with
    | true => exact n (z ▸ (R.brw i bs e).2)
    | false => rw [z, (R.new i bs e).1] at q; cases q
  · obtain ⟨o, z⟩ := R.fbS c q
    by_cases hc : c = loc i
    · rw [hc]; exact ⟨_, hw⟩
    · exact ⟨o, g _ _ hc z⟩
  · rcases gt j _ q with ⟨_, q⟩ | ⟨_, q⟩
    · cases q
    · exact ⟨q, rfl⟩
  · rcases gt j _ q with ⟨rfl, q⟩ | ⟨_, q⟩
    · exact .inl ⟨b, bs, e, rfl⟩
    · exact .inl ⟨c, es, q, rfl⟩
theorem own_pv {K : PySem.W.Frag} {G : Fr} {ρ : List Slot} {loc : Nat → Addr} {σ : L2.St} {H : Hp} (R : Rep K G ρ loc σ H) {i : Nat} (h : ∃ b bs, ρ[i]? = some (Slot.own b bs)) : σ[i]? = some (some (.ref (loc i))) := by
  obtain ⟨b, bs, e⟩ := h
  exact (R.own i b bs e).1
/-- f(box, e, ..) -/
theorem em_fnB {i : Nat} {y : Str} {py : Pos} (hv : PE X (.Name y py) (tVar i)) (G : FnG X.prog X.w X.K X.mg X.base CX0 k f fd ps (spB X.K n FF)) (mF : PmB FF) (hr : Rm k X.A) (hg : Gl X x) (hm : X.mg x = some (.ref f)) (hk : PySem.W.keepIn X.K (.ref f) = true) (hb : Binds X.K fd ps [])
    (ha : AM X es m) (hdb : (x == ("__debug__" : Str)) = false := by decide) (he : starEach (.Name y py :: es) X.env = (false, eval (.Name y py) X.env) :: starEach es X.env := by rfl) (hpl : (backTo pos (starEach es X.env)).any (·.1) = false := by rfl) :
    EM X (.Call (.Name x p) (.Name y py :: es) [] pos) (mFnB n FF i m) := by
  refine ⟨fun ρ k k' w q => ⟨q.1, ha.mono ρ _ _ (fun ds ρ1 ⟨b, bs, e, l, q1⟩ => ⟨b, bs, e, l, mF bs ds _ _ (fun c d bs' q2 => w _ _ q2) q1⟩) q.2⟩, pe_weak (pe_callG G hr hg hm hk hb .nil pass0 (pa_cons hv ha.run he) hdb he hpl) ?_⟩
  rintro σ H Q ⟨G', loc, ρ, R, q0, q⟩
  refine ⟨.ref (loc i), own_pv R q0, G', loc, ρ, R, ha.mono ρ _ _ (fun ds ρ1 q1 vs H1 R1 g1 d1 => ?_) q⟩
  obtain ⟨b, bs, e1, l1, q1⟩ := q1
  obtain ⟨h1, ws, h2, h3⟩ := R1.own i b bs e1
  refine ⟨Fb G'.fb ρ1 loc, loc i, vs, ds, bs, ws, by rw [List.append_nil], .inr (.inr ⟨i, b, bs, e1, rfl⟩), R1.fbE, h2, h3, d1, l1, mF bs ds _ _ (fun c d bs' q2 v H2 m2 hw d2 _ => ?_) q1⟩
  obtain ⟨ws', w1, w2⟩ := hw
  obtain ⟨R2, g2, s2⟩ := R1.back e1 m2 w1 w2
  exact q2 v H2 R2 (g1.trans g2) (d2.weak s2)
end
end DL

namespace DL
open PySem L2

/-! ### stores -/
section
variable {K : PySem.W.Frag} {G : Fr} {ρ : List Slot} {loc : Nat → Addr} {σ : L2.St} {H : Hp}
theorem set_get {i j : Nat} {a s : Slot} (q : (ρ.set i a)[j]? = some s) : (j = i ∧ s = a ∧ i < ρ.length) ∨ (j ≠ i ∧ ρ[j]? = some s) := by
  by_cases hj : i = j
  · subst hj
    by_cases hl : i < ρ.length
    · rw [List.getElem?_set_self hl] at q
      exact .inl ⟨rfl, (Option.some.inj q).symm, hl⟩
    · rw [List.getElem?_eq_none (by simpa using hl)] at q; cases q
  · rw [List.getElem?_set_ne hj] at q; exact .inr ⟨Ne.symm hj, q⟩
theorem Rw.put {i : Nat} {s : Slot} (hr : ∀ v cs fs, s ≠ .raw v cs fs) {a : Addr} (z : Rw (ρ.set i s) a) : Rw ρ a := Rw.sub (fun j v cs fs q => by
  rcases set_get q with ⟨_, q, _⟩ | ⟨_, q⟩
  · exact (hr _ _ _ q.symm).elim
  · exact q) z
theorem Fb_put {fb : AS} {i : Nat} {s : Slot} (hs : ∀ b ds, s ≠ .own b ds) (a : Addr) (h : Fb fb (ρ.set i s) loc a) (hr : ∀ v cs fs, s ≠ .raw v cs fs := by intro _ _ _ z; cases z) : Fb fb ρ loc a := by
  rcases h with h | z | ⟨j, b, ds, e, l⟩
  · exact .inl h
  · exact .inr (.inl (Rw.put hr z))
  · rcases set_get e with ⟨_, q, _⟩ | ⟨_, q⟩
    · exact (hs _ _ q.symm).elim
    · exact .inr (.inr ⟨j, b, ds, q, l⟩)
/-- the values of their own where a slot is written -/
theorem RawR.put {H' : Hp} {i : Nat} {s : Slot} {v : Option V} (R : RawR K G ρ loc σ H) (hs : ∀ b ds, s ≠ .own b ds) (g : Grow (Fb G.fb ρ loc) (Fb G.fb (ρ.set i s) loc) H H') (k : ∀ a u, Rw ρ a → H a = some u → H' a = some u) (hr : ∀ v cs fs, s ≠ .raw v cs fs := by intro _ _ _ z; cases z) : RawR K G (ρ.set i s) loc (σ.set i v) H' :=
  R.step (fun j v cs fs q => by
    rcases set_get q with ⟨_, q, _⟩ | ⟨hj, q⟩
    · exact (hr _ _ _ q.symm).elim
    · exact ⟨q, by rw [List.getElem?_set_ne (Ne.symm hj)]⟩) (fun j b es q => by
    rcases set_get q with ⟨_, q, _⟩ | ⟨_, q⟩
    · exact (hs _ _ q.symm).elim
    · exact .inl ⟨b, es, q, rfl⟩) g k fun _ _ a b => ⟨a, b⟩
/-- data in a slot -/
theorem Rep.put (R : Rep K G ρ loc σ H) (i : Nat) {v : V} {d : D} (dx : Dx K H (Fb G.fb ρ loc) v d) : Rep K G (ρ.set i (.dat d)) loc (σ.set i (some v)) H := by
  have sub : ∀ a, Fb G.fb (ρ.set i (.dat d)) loc a → Fb G.fb ρ loc a := fun a => Fb_put (by intro _ _ z; cases z) a
  refine ⟨by rw [List.length_set, List.length_set]; exact R.len, fun j e q => ?_, fun j b es q => ?_, fun j l b c es fs q q' z => ?_, fun j es q => ?_, fun j es q => ?_, R.ext, R.fbS, R.bwS, R.raw.put (by intro _ _ z; cases z) (fun b o e n => ⟨e, fun z => n (sub b z)⟩) fun _ _ _ e => e⟩
  · rcases set_get q with ⟨rfl, q', hl⟩ | ⟨hj, q'⟩
    · cases q'
      exact ⟨v, List.getElem?_set_self (by rw [R.len]; exact hl), dx.weak sub⟩
    · obtain ⟨u, a, b⟩ := R.dat j e q'
      exact ⟨u, by rw [List.getElem?_set_ne (Ne.symm hj)]; exact a, b.weak sub⟩
  · rcases set_get q with ⟨_, q', _⟩ | ⟨hj, q'⟩
    · cases q'
    · obtain ⟨a, ws, b, c⟩ := R.own j b es q'
      exact ⟨by rw [List.getElem?_set_ne (Ne.symm hj)]; exact a, ws, b, c.weak sub⟩
  · rcases set_get q with ⟨_, q1, _⟩ | ⟨_, q1⟩
    · cases q1
    · rcases set_get q' with ⟨_, q2, _⟩ | ⟨_, q2⟩
      · cases q2
      · exact R.apart j l b c es fs q1 q2 z
  · rcases set_get q with ⟨_, q1, _⟩ | ⟨_, q1⟩
    · cases q1
    · exact R.brw j es q1
  · rcases set_get q with ⟨_, q1, _⟩ | ⟨_, q1⟩
    · cases q1
    · exact R.new j es q1
theorem put_grow {i : Nat} {d : D} : Grow (Fb G.fb ρ loc) (Fb G.fb (ρ.set i (.dat d)) loc) H H := fun b o e n => ⟨e, fun z => n (Fb_put (by intro _ _ z; cases z) b z)⟩
def lset (loc : Nat → Addr) (i : Nat) (p : Addr) : Nat → Addr := fun j => if j = i then p else loc j
theorem lset_self {i : Nat} {p : Addr} : lset loc i p i = p := if_pos rfl
theorem lset_ne {i j : Nat} {p : Addr} (h : j ≠ i) : lset loc i p j = loc j := if_neg h
theorem Fb_putN {p : Addr} {i : Nat} {ds : List D} (a : Addr) (h : Fb G.fb (ρ.set i (.own false ds)) (lset loc i p) a) : Fb (G.plus p).fb ρ loc a := by
  rcases h with h | z | ⟨j, b, es, e, l⟩
  · exact .inl (.inl h)
  · exact .inr (.inl (Rw.put (by intro _ _ _ z; cases z) z))
  · rcases set_get e with ⟨rfl, q, _⟩ | ⟨hj, q⟩
    · rw [lset_self] at l; exact .inl (.inr l.symm)
    · rw [lset_ne hj] at l; exact .inr (.inr ⟨j, b, es, q, l⟩)
/-- a new list in a slot -/
theorem Rep.putN {p : Addr} (R : Rep K (G.plus p) ρ loc σ H) (bs : ∀ b, G.bw b → G.fb b) (h0 : G.H0 p = none) (np : ¬ G.fb p) (i : Nat) {ws : List V} {ds : List D} (hp : H p = some (.lst ws)) (dx : DxAll K H (Fb (G.plus p).fb ρ loc) ws ds) :
    Rep K G (ρ.set i (.own false ds)) (lset loc i p) (σ.set i (some (.ref p))) H := by
  have sub : ∀ a, Fb G.fb (ρ.set i (.own false ds)) (lset loc i p) a → Fb (G.plus p).fb ρ loc a := fun a => Fb_putN a
  have other : ∀ j b es, ρ[j]? = some (Slot.own b es) → loc j ≠ p := fun j b es e z => by
    cases b with
    | false => exact (R.new j es e).2 (.inr z)
    | true => exact np (z ▸ bs _ (R.brw j es e).2)
  refine ⟨by rw [List.length_set, List.length_set]; exact R.len, fun j e q => ?_, fun j b es q => ?_, fun j l b c es fs q q' z => ?_, fun j es q => ?_, fun j es q => ?_, R.ext, fun b e => R.fbS b (.inl e), bs, R.raw.step (fun j v cs fs q => ?_) (fun j b es q => ?_) (fun b o e n => ⟨e, fun z => n (sub b z)⟩) (fun _ _ _ e => e) fun _ _ a b => ⟨a, fun z => b (.inl z)⟩⟩
  · rcases set_get q with ⟨_, q', _⟩ | ⟨hj, q'⟩
    · cases q'
    · obtain ⟨u, a, b⟩ := R.dat j e q'
      exact ⟨u, by rw [List.getElem?_set_ne (Ne.symm hj)]; exact a, b.weak sub⟩
  · rcases set_get q with ⟨rfl, q', hl⟩ | ⟨hj, q'⟩
    · cases q'
      rw [lset_self]
      exact ⟨List.getElem?_set_self (by rw [R.len]; exact hl), ws, hp, dx.weak sub⟩
    · obtain ⟨a, us, b, c⟩ := R.own j b es q'
      rw [lset_ne hj]
      exact ⟨by rw [List.getElem?_set_ne (Ne.symm hj)]; exact a, us, b, c.weak sub⟩
  · rcases set_get q with ⟨rfl, q1, _⟩ | ⟨hj, q1⟩
    · rcases set_get q' with ⟨rfl, q2, _⟩ | ⟨hl, q2⟩
      · rfl
      · rw [lset_self, lset_ne hl] at z
        exact (other l _ _ q2 z.symm).elim
    · rcases set_get q' with ⟨rfl, q2, _⟩ | ⟨hl, q2⟩
      · rw [lset_self, lset_ne hj] at z
        exact (other j _ _ q1 z).elim
      · rw [lset_ne hj, lset_ne hl] at z
        exact R.apart j l b c es fs q1 q2 z
  · rcases set_get q with ⟨_, q1, _⟩ | ⟨hj, q1⟩
    · cases q1
    · rw [lset_ne hj]; exact R.brw j es q1
  · rcases set_get q with ⟨rfl, q1, _⟩ | ⟨hj, q1⟩
    · rw [lset_self]; exact ⟨h0, np⟩
    · rw [lset_ne hj]
      exact ⟨(R.new j es q1).1, fun z => (R.new j es q1).2 (.inl z)⟩
  · rcases set_get q with ⟨_, q1, _⟩ | ⟨hj, q1⟩
    · cases q1
    · exact ⟨q1, by rw [List.getElem?_set_ne (Ne.symm hj)]⟩
  · rcases set_get q with ⟨rfl, q1, _⟩ | ⟨hj, q1⟩
    · refine .inr fun a z y => ?_
      rw [lset_self] at y
      exact (R.raw.here z).2.2 (.inr y.symm)
    · exact .inl ⟨b, es, q1, lset_ne hj⟩
end

/-! ### blocks and small statements -/
section
variable {K : PySem.W.Frag} {G : Fr} {ρ ρ' : List Slot} {loc loc' : Nat → Addr} {H H' : Hp}
theorem Lands.on {k : List Slot → Prop} {q : L2.St → Hp → Prop} (h : Lands K G loc ρ H k q) (g : Grow (Fb G.fb ρ loc) (Fb G.fb ρ' loc') H H') : Lands K G loc' ρ' H' k q := fun ρ2 loc2 σ2 H2 R2 g2 q2 => h ρ2 loc2 σ2 H2 R2 (g.trans g2) q2
theorem LandsR.on {k : Bool → D → List Slot → Prop} {q : VK} (h : LandsR K G loc ρ H k q) (g : Grow (Fb G.fb ρ loc) (Fb G.fb ρ' loc') H H') : LandsR K G loc' ρ' H' k q := fun b d ρ2 loc2 σ2 v H2 R2 g2 d2 n2 q2 => h b d ρ2 loc2 σ2 v H2 R2 (g.trans g2) d2 n2 q2
end
def sNext : SMon := fun k ρ => k.nx ρ
def sBreak : SMon := fun k ρ => k.bk ρ
def sCont : SMon := fun k ρ => k.ct ρ
def sNever : SMon := fun _ _ => False
def sSeq (m m' : SMon) : SMon := fun k ρ => m { k with nx := m' k } ρ
def sIf (c : M Bool) (a b : SMon) : SMon := fun k ρ => c ρ fun t ρ1 => if t = true then a k ρ1 else b k ρ1
def sDrop {α : Type} (m : M α) : SMon := fun k ρ => m ρ fun _ ρ1 => k.nx ρ1
def sRet (m : M D) : SMon := fun k ρ => m ρ fun d ρ1 => k.rt false d ρ1
def sRetN (m : M (List D)) : SMon := fun k ρ => m ρ fun ds ρ1 => k.rt true (.list ds) ρ1
def sRet0 : SMon := fun k ρ => k.rt false .none ρ
/-- return of an owned list -/
def sRetOwn (i : Nat) : SMon := fun k ρ => match ρ[i]? with
  | some (.own false ds) => k.rt true (.list ds) (ρ.set i (.dat (.list ds)))
  | some (.dat d) => k.rt false d ρ
  | _ => False
def sSet (i : Nat) (m : M D) : SMon := fun k ρ => m ρ fun d ρ1 => k.nx (ρ1.set i (.dat d))
def sSetN (i : Nat) (m : M (List D)) : SMon := fun k ρ => m ρ fun ds ρ1 => k.nx (ρ1.set i (.own false ds))
theorem smono_if {c : M Bool} {a b : SMon} (hc : Mono c) (ha : SMono a) (hb : SMono b) : SMono (sIf c a b) := fun k k' ρ l q => hc ρ _ _ (fun t ρ1 q1 => by
  cases t with
  | true => rw [if_pos rfl] at q1 ⊢; exact ha _ _ _ l q1
  | false => rw [if_neg Bool.false_ne_true] at q1 ⊢; exact hb _ _ _ l q1) q
theorem smono_seq {a b : SMon} (ha : SMono a) (hb : SMono b) : SMono (sSeq a b) := fun k k' ρ l q => ha { k with nx := b k } { k' with nx := b k' } ρ ⟨fun ρ1 q1 => hb k k' ρ1 l q1, l.rt, l.bk, l.ct⟩ q
section
variable {X : Cx} {st : Stmt} {rest : List Stmt} {t u : SMon} {e : Expr} {m : M D} {ms : M (List D)} {pos : Pos}
theorem bm_nil : BM X [] sNext := ⟨fun _ _ _ l q => l.nx _ q, pss_weak pss_nil fun E σ H ⟨G, loc, ρ, k, R, q, l, _⟩ => l _ _ _ _ R Grow.refl q⟩
theorem bm_cons (h1 : SM X st t) (h2 : BM X rest u) : BM X (st :: rest) (sSeq t u) := by
  refine ⟨smono_seq h1.mono h2.mono, pss_weak (pss_cons h1.run h2.run) ?_⟩
  rintro E σ H ⟨G, loc, ρ, k, R, q, l1, l2, l3, l4⟩
  exact ⟨G, loc, ρ, { k with nx := u k }, R, q, fun ρ' loc' σ' H' R' g q' => ⟨G, loc', ρ', k, R', q', l1.on g, l2.on g, l3.on g, l4.on g⟩, l2, l3, l4⟩
theorem bm_one (h : SM X st t) : BM X [st] t := ⟨h.mono, pss_one h.run⟩
theorem sm_pass : SM X (.Pass pos) sNext := ⟨fun _ _ _ l q => l.nx _ q, ps_weak ps_pass fun E σ H ⟨G, loc, ρ, k, R, q, l, _⟩ => l _ _ _ _ R Grow.refl q⟩
theorem sm_doc {x j pos'} : SM X (.Expr (.Constant (.str x) j pos) pos') sNext := ⟨fun _ _ _ l q => l.nx _ q, ps_weak ps_doc fun E σ H ⟨G, loc, ρ, k, R, q, l, _⟩ => l _ _ _ _ R Grow.refl q⟩
theorem sm_break : SM X (.Break pos) sBreak := ⟨fun _ _ _ l q => l.bk _ q, ps_weak ps_break fun E σ H ⟨G, loc, ρ, k, R, q, _, _, l, _⟩ => l _ _ _ _ R Grow.refl q⟩
theorem sm_cont : SM X (.Continue pos) sCont := ⟨fun _ _ _ l q => l.ct _ q, ps_weak ps_continue fun E σ H ⟨G, loc, ρ, k, R, q, _, _, _, l⟩ => l _ _ _ _ R Grow.refl q⟩
theorem sm_never : SM X st sNever := ⟨fun _ _ _ _ q => q.elim, ps_weak ps_never fun E σ H ⟨G, loc, ρ, k, R, q, _⟩ => q.elim⟩
theorem bm_never {sts : List Stmt} : BM X sts sNever := ⟨fun _ _ _ _ q => q.elim, pss_weak pss_never fun E σ H ⟨G, loc, ρ, k, R, q, _⟩ => q.elim⟩
theorem sm_if {c : Expr} {a b : List Stmt} {tc : M Bool} (hc : TM X c tc) (ha : BM X a t) (hb : BM X b u) : SM X (.If c a b pos) (sIf tc t u) := by
  refine ⟨smono_if hc.mono ha.mono hb.mono, ps_weak (ps_if hc.run ha.run hb.run) ?_⟩
  rintro E σ H ⟨G, loc, ρ, k, R, q, l1, l2, l3, l4⟩
  refine ⟨G, loc, ρ, R, hc.mono ρ _ _ (fun b ρ1 q1 H1 R1 g1 => ?_) q⟩
  cases b with
  | true =>
    rw [if_pos rfl] at q1 ⊢
    exact ⟨G, loc, ρ1, k, R1, q1, l1.on g1, l2.on g1, l3.on g1, l4.on g1⟩
  | false =>
    rw [if_neg Bool.false_ne_true] at q1 ⊢
    exact ⟨G, loc, ρ1, k, R1, q1, l1.on g1, l2.on g1, l3.on g1, l4.on g1⟩
theorem sm_drop (h : EM X e m) (hs : swapsWith e none pos.line X.env = pure false := by rfl) : SM X (.Expr e pos) (sDrop m) := by
  refine ⟨fun k k' ρ l q => h.mono ρ _ _ (fun _ ρ1 q1 => l.nx _ q1) q, ps_weak (ps_expr h.run hs) ?_⟩
  rintro E σ H ⟨G, loc, ρ, k, R, q, l1, l2, l3, l4⟩
  exact ⟨G, loc, ρ, R, h.mono ρ _ _ (fun d ρ1 q1 v H1 R1 g1 d1 => l1 _ _ _ _ R1 g1 q1) q⟩
theorem sm_ret (h : EM X e m) : SM X (.Return (some e) pos) (sRet m) := by
  refine ⟨fun k k' ρ l q => h.mono ρ _ _ (fun _ ρ1 q1 => l.rt _ _ _ q1) q, ps_weak (ps_ret h.run) ?_⟩
  rintro E σ H ⟨G, loc, ρ, k, R, q, l1, l2, l3, l4⟩
  exact ⟨G, loc, ρ, R, h.mono ρ _ _ (fun d ρ1 q1 v H1 R1 g1 d1 => l2 false d _ _ _ v _ R1 g1 d1 (fun z => nomatch z) q1) q⟩
theorem sm_retN (h : NM X e ms) : SM X (.Return (some e) pos) (sRetN ms) := by
  refine ⟨fun k k' ρ l q => h.mono ρ _ _ (fun _ ρ1 q1 => l.rt _ _ _ q1) q, ps_weak (ps_ret h.run) ?_⟩
  rintro E σ H ⟨G, loc, ρ, k, R, q, l1, l2, l3, l4⟩
  refine ⟨G, loc, ρ, R, h.mono ρ _ _ (fun ds ρ1 q1 p vs H1 h0 n e1 R1 g1 d1 => ?_) q⟩
  obtain ⟨R2, n2⟩ := R1.unplus R.bwS n
  refine l2 true _ _ _ _ _ _ R2 (g1.weak Fb.plus_sub) (.lst n2 e1 (d1.weak Fb.plus_sub)) (fun _ => ⟨p, vs, ds, rfl, rfl, h0, e1, d1.weak fun b z => ?_⟩) q1
  rcases z with (z | z) | z
  · exact .inl (.inl z)
  · exact .inr z
  · exact .inl (.inr z)
theorem sm_ret0 : SM X (.Return none pos) sRet0 := ⟨fun k k' ρ l q => l.rt _ _ _ q, ps_weak ps_retN fun E σ H ⟨G, loc, ρ, k, R, q, _, l, _⟩ => l false .none _ _ _ _ _ R Grow.refl .non (fun z => nomatch z) q⟩
theorem sm_retOwn (i : Nat) {x : Str} {p : Pos} (h : PE X (.Name x p) (tVar i)) : SM X (.Return (some (.Name x p)) pos) (sRetOwn i) := by
  refine ⟨fun k k' ρ l q => ?_, ps_weak (ps_ret h) ?_⟩
  · unfold sRetOwn at q ⊢
    split at q
    · exact l.rt _ _ _ q
    · exact l.rt _ _ _ q
    · exact q.elim
  · rintro E σ H ⟨G, loc, ρ, k, R, q, l1, l2, l3, l4⟩
    unfold sRetOwn at q
    split at q
    · rename_i ds e
      obtain ⟨R', dx⟩ := R.freeze e
      obtain ⟨h1, ws, h2, h3⟩ := R.own i false ds e
      refine ⟨_, h1, l2 true _ _ _ _ _ _ R' (fun b o e n => ⟨e, fun z => n (Fb_freeze b z)⟩) dx (fun _ => ⟨loc i, ws, ds, rfl, rfl, (R.new i ds e).1, h2, h3.weak fun b z => ?_⟩) q⟩
      rcases z with z | z
      · exact Fb_freeze b z
      · exact .inr (.inr ⟨i, false, ds, e, z.symm⟩)
    · rename_i d e
      obtain ⟨v, h1, h2⟩ := R.dat i d e
      exact ⟨v, h1, l2 false _ _ _ _ _ _ R Grow.refl h2 (fun z => nomatch z) q⟩
    · exact q.elim
theorem sm_set {i : Nat} {x : Str} {pos' : Pos} (hN : X.N.Nodup) (hi : X.N[i]? = some x) (hx : Loc X.env.scope x) (he : EM X e m) (hs : swapsWith e (some (.Name x pos')) pos.line X.env = pure false := by rfl) (hf : X.fn x = true ∨ X.env.scope.names.lookup x = some .local := by first | exact .inl rfl | exact .inr rfl | assumption) :
    SM X (.Assign [.Name x pos'] e pos) (sSet i m) := by
  refine ⟨fun k k' ρ l q => he.mono ρ _ _ (fun _ ρ1 q1 => l.nx _ q1) q, ps_weak (ps_set hN hi hx he.run hs hf) ?_⟩
  rintro E σ H ⟨G, loc, ρ, k, R, q, l1, l2, l3, l4⟩
  exact ⟨G, loc, ρ, R, he.mono ρ _ _ (fun d ρ1 q1 v H1 R1 g1 d1 => l1 _ _ _ _ (R1.put i d1) (g1.trans put_grow) q1) q⟩
theorem sm_setN {i : Nat} {x : Str} {pos' : Pos} (hN : X.N.Nodup) (hi : X.N[i]? = some x) (hx : Loc X.env.scope x) (he : NM X e ms) (hs : swapsWith e (some (.Name x pos')) pos.line X.env = pure false := by rfl) (hf : X.fn x = true ∨ X.env.scope.names.lookup x = some .local := by first | exact .inl rfl | exact .inr rfl | assumption) :
    SM X (.Assign [.Name x pos'] e pos) (sSetN i ms) := by
  refine ⟨fun k k' ρ l q => he.mono ρ _ _ (fun _ ρ1 q1 => l.nx _ q1) q, ps_weak (ps_set hN hi hx he.run hs hf) ?_⟩
  rintro E σ H ⟨G, loc, ρ, k, R, q, l1, l2, l3, l4⟩
  refine ⟨G, loc, ρ, R, he.mono ρ _ _ (fun ds ρ1 q1 p vs H1 h0 n e1 R1 g1 d1 => l1 _ _ _ _ (R1.putN R.bwS h0 n i e1 d1) (g1.weak fun b z => Fb_putN b z) q1) q⟩
end

/-- a frame in which p stays as it stands -/
def Fr.pin (G : Fr) (p : Addr) (o : HO) : Fr := { G with H0 := upd G.H0 p o, fb := fun a => G.fb a ∨ a = p }
section
variable {K : PySem.W.Frag} {G : Fr} {ρ : List Slot} {loc : Nat → Addr} {σ : L2.St} {H : Hp} {p : Addr} {o : HO}
theorem Rep.pin (R : Rep K (G.plus p) ρ loc σ H) (e : H p = some o) : Rep K (G.pin p o) ρ loc σ H := by
  refine ⟨R.len, R.dat, R.own, R.apart, R.brw, fun i ds q => ?_, fun b u q n => ?_, R.fbS, R.bwS, R.raw.step (fun _ _ _ _ e => ⟨e, rfl⟩) (fun j b ds e => .inl ⟨b, ds, e, rfl⟩) (fun b o e n => ⟨e, n⟩) (fun _ _ _ e => e) fun a z h n => ⟨?_, n⟩⟩
  · obtain ⟨h1, h2⟩ := R.new i ds q
    refine ⟨?_, h2⟩
    show upd G.H0 p o (loc i) = none
    rw [upd_ne fun z => h2 (.inr z)]; exact h1
  · by_cases hb : b = p
    · subst hb
      have q : upd G.H0 b o b = some u := q
      rw [upd_same] at q
      rw [e]; exact q
    · have q : upd G.H0 p o b = some u := q
      rw [upd_ne hb] at q
      exact R.ext b u q n
  · show upd G.H0 p o a = none
    rw [upd_ne fun y => n (.inr y)]; exact h
theorem Rep.unpin (R : Rep K (G.pin p o) ρ loc σ H) (h0 : G.H0 p = none) (nb : ¬ G.bw p) : Rep K (G.plus p) ρ loc σ H ∧ H p = some o := by
  have ne : ∀ b u, G.H0 b = some u → b ≠ p := fun b u e z => by rw [z, h0] at e; cases e
  refine ⟨⟨R.len, R.dat, R.own, R.apart, R.brw, fun i ds q => ?_, fun b u q n => ?_, R.fbS, R.bwS, R.raw.step (fun _ _ _ _ e => ⟨e, rfl⟩) (fun j b ds e => .inl ⟨b, ds, e, rfl⟩) (fun b o e n => ⟨e, n⟩) (fun _ _ _ e => e) fun a z h n => ⟨?_, n⟩⟩, R.ext p o upd_same nb⟩
  · obtain ⟨h1, h2⟩ := R.new i ds q
    refine ⟨?_, h2⟩
    have h1 : upd G.H0 p o (loc i) = none := h1
    rw [upd_ne fun z => h2 (.inr z)] at h1; exact h1
  · refine R.ext b u ?_ n
    show upd G.H0 p o b = some u
    rw [upd_ne (ne b u q)]; exact q
  · have h : upd G.H0 p o a = none := h
    rw [upd_ne fun y => n (.inr y)] at h; exact h
end

/-! ### a, b = e1, e2 -/
inductive Put where
  | d (x : D) | n (xs : List D)
def Put.slot : Put → Slot
  | .d x => .dat x
  | .n xs => .own false xs
inductive PutsOk (K : PySem.W.Frag) (H : Hp) (F : AS) : Fr → Fr → List V → List Put → Prop
  | nil {G : Fr} : PutsOk K H F G G [] []
  | d {G G' : Fr} {v : V} {vs : List V} {x : D} {us : List Put} : Dx K H F v x → PutsOk K H F G G' vs us → PutsOk K H F G G' (v :: vs) (.d x :: us)
  | n {G G' : Fr} {p : Addr} {ws vs : List V} {xs : List D} {us : List Put} : G.H0 p = none → ¬ G.fb p → H p = some (.lst ws) → DxAll K H F ws xs → PutsOk K H F (G.pin p (.lst ws)) G' vs us → PutsOk K H F G G' (.ref p :: vs) (.n xs :: us)
def TPAof (K : PySem.W.Frag) (m : M (List Put)) : TA := fun σ H Q => ∃ G loc ρ, Rep K G ρ loc σ H ∧ m ρ fun us ρ' =>
  ∀ vs H' G', Rep K G' ρ' loc σ H' → Grow (Fb G.fb ρ loc) (Fb G'.fb ρ' loc) H H' → PutsOk K H' (Fb G'.fb ρ' loc) G G' vs us → Q vs H'
structure APM (X : Cx) (es : List Expr) (m : M (List Put)) : Prop where
  mono : Mono m
  run : PA X es (TPAof X.K m)
def mPD (m : M D) (ms : M (List Put)) : M (List Put) := fun ρ k => m ρ fun d ρ1 => ms ρ1 fun us ρ2 => k (.d d :: us) ρ2
def mPN (m : M (List D)) (ms : M (List Put)) : M (List Put) := fun ρ k => m ρ fun d ρ1 => ms ρ1 fun us ρ2 => k (.n d :: us) ρ2
def setAll : List Nat → List Put → List Slot → List Slot
  | i :: is, u :: us, ρ => (setAll is us ρ).set i u.slot
  | _, _, ρ => ρ
def putAll : List Nat → List V → L2.St → L2.St
  | i :: is, v :: vs, σ => (putAll is vs σ).set i (some v)
  | _, _, σ => σ
def sPar (is : List Nat) (m : M (List Put)) : SMon := fun k ρ => m ρ fun us ρ1 => us.length = is.length ∧ k.nx (setAll is us ρ1)
theorem PutsOk.len {K : PySem.W.Frag} {H : Hp} {F : AS} {G G' : Fr} {vs : List V} {us : List Put} (h : PutsOk K H F G G' vs us) : vs.length = us.length := by
  induction h with
  | nil => rfl
  | d _ _ ih => rw [List.length_cons, List.length_cons, ih]
  | n _ _ _ _ _ ih => rw [List.length_cons, List.length_cons, ih]
theorem PutsOk.same {K : PySem.W.Frag} {H : Hp} {F : AS} {G G' : Fr} {vs : List V} {us : List Put} (h : PutsOk K H F G G' vs us) : (∀ b o, G.H0 b = some o → G'.H0 b = some o) ∧ G'.bw = G.bw := by
  induction h with
  | nil => exact ⟨fun _ _ z => z, rfl⟩
  | d _ _ ih => exact ih
  | n h0 _ _ _ _ ih => exact ⟨fun b o e => ih.1 b o (upd_more h0 b o e), ih.2⟩
theorem PutsOk.rep {K : PySem.W.Frag} {H : Hp} {loc : Nat → Addr} {σ : L2.St} {ρ : List Slot} {F : AS} {G G' : Fr} {vs : List V} {us : List Put} (h : PutsOk K H F G G' vs us) : ∀ (is : List Nat), us.length = is.length → (∀ b, G.bw b → G.fb b) → Rep K G' ρ loc σ H → (∀ b, Fb G'.fb ρ loc b → F b) →
    ∃ loc', Rep K G (setAll is us ρ) loc' (putAll is vs σ) H ∧ ∀ b, Fb G.fb (setAll is us ρ) loc' b → F b := by
  induction h with
  | nil => exact fun is _ _ R s => ⟨loc, by cases is <;> exact R, by cases is <;> exact s⟩
  | d dx r ih =>
    intro is hl hb R s
    cases is with
    | nil => cases hl
    | cons i is =>
      obtain ⟨loc', R', s'⟩ := ih is (Nat.succ.inj hl) hb R s
      exact ⟨loc', R'.put i (dx.weak s'), fun b z => s' b (Fb_put (by intro _ _ z; cases z) b z)⟩
  | n h0 np hp dx r ih =>
    intro is hl hb R s
    cases is with
    | nil => cases hl
    | cons i is =>
      obtain ⟨loc', R', s'⟩ := ih is (Nat.succ.inj hl) (fun b z => .inl (hb b z)) R s
      obtain ⟨R2, _⟩ := R'.unpin h0 fun z => np (hb _ z)
      exact ⟨lset loc' i _, R2.putN hb h0 np i hp (dx.weak s'), fun b z => s' b (Fb_putN b z)⟩
section
variable {X : Cx} {st : Stmt} {e : Expr} {es : List Expr} {m : M D} {ml : M (List D)} {ms : M (List Put)} {pos : Pos}
theorem apm_nil : APM X [] (mPure []) := by
  refine ⟨mono_pure, pa_weak pa_nil ?_⟩
  rintro σ H Q ⟨G, loc, ρ, R, q⟩
  exact q [] H G R Grow.refl .nil
theorem apm_d (h : EM X e m) (g : APM X es ms) (hs : starEach (e :: es) X.env = (false, eval e X.env) :: starEach es X.env := by rfl) : APM X (e :: es) (mPD m ms) := by
  refine ⟨fun ρ k k' w q => h.mono ρ _ _ (fun d ρ1 q1 => g.mono ρ1 _ _ (fun us ρ2 q2 => w _ _ q2) q1) q, pa_weak (pa_cons h.run g.run hs) ?_⟩
  rintro σ H Q ⟨G, loc, ρ, R, q⟩
  refine ⟨G, loc, ρ, R, h.mono ρ _ _ (fun d ρ1 q1 v H1 R1 g1 d1 => ?_) q⟩
  exact ⟨G, loc, ρ1, R1, g.mono ρ1 _ _ (fun us ρ2 q2 vs H2 G2 R2 g2 p2 => q2 (v :: vs) H2 G2 R2 (g1.trans g2) (.d (d1.g g2) p2)) q1⟩
theorem apm_n (h : NM X e ml) (g : APM X es ms) (hs : starEach (e :: es) X.env = (false, eval e X.env) :: starEach es X.env := by rfl) : APM X (e :: es) (mPN ml ms) := by
  refine ⟨fun ρ k k' w q => h.mono ρ _ _ (fun d ρ1 q1 => g.mono ρ1 _ _ (fun us ρ2 q2 => w _ _ q2) q1) q, pa_weak (pa_cons h.run g.run hs) ?_⟩
  rintro σ H Q ⟨G, loc, ρ, R, q⟩
  refine ⟨G, loc, ρ, R, h.mono ρ _ _ (fun d ρ1 q1 p ws H1 h0 np e1 R1 g1 d1 => ?_) q⟩
  refine ⟨G.pin p (.lst ws), loc, ρ1, R1.pin e1, g.mono ρ1 _ _ (fun us ρ2 q2 vs H2 G2 R2 g2 p2 => q2 (.ref p :: vs) H2 G2 R2 (g1.trans g2) (.n h0 np ?_ (d1.g g2) p2)) q1⟩
  refine R2.ext p _ (p2.same.1 p _ upd_same) fun z => ?_
  rw [p2.same.2] at z
  exact np (R.bwS p z)
theorem putAll2 {i j : Nat} (hij : i ≠ j) {v w : V} {σ : L2.St} : (σ.set i (some v)).set j (some w) = putAll [i, j] [v, w] σ := by
  show _ = (σ.set j (some w)).set i (some v)
  rw [List.set_comm _ _ hij]
theorem sm_par_of {is : List Nat} {tp : TS} {ta : TA} (h : PS X st tp) (ha : APM X es ms) (e : ta = TPAof X.K ms) (w : ∀ E σ H, ta σ H (fun vs H1 => vs.length = is.length ∧ E.nx (putAll is vs σ) H1) → tp E σ H) : SM X st (sPar is ms) := by
  subst e
  refine ⟨fun k k' ρ l q => ha.mono ρ _ _ (fun _ ρ1 q1 => ⟨q1.1, l.nx _ q1.2⟩) q, ps_weak h fun E σ H => ?_⟩
  rintro ⟨G, loc, ρ, k, R, q, l1, l2, l3, l4⟩
  refine w E σ H ⟨G, loc, ρ, R, ha.mono ρ _ _ (fun us ρ1 q1 vs H1 G1 R1 g1 p1 => ⟨p1.len.trans q1.1, ?_⟩) q⟩
  obtain ⟨loc', R', s'⟩ := p1.rep is q1.1 R.bwS R1 fun b z => z
  exact l1 _ _ _ _ R' (g1.weak s') q1.2
theorem two_of {vs : List V} (h : vs.length = 2) : ∃ v w, vs = [v, w] := by
  match vs, h with
  | [v, w], _ => exact ⟨v, w, rfl⟩
theorem three_of {vs : List V} (h : vs.length = 3) : ∃ v w u, vs = [v, w, u] := by
  match vs, h with
  | [v, w, u], _ => exact ⟨v, w, u, rfl⟩
theorem sm_par {i j : Nat} {x y : Str} {a b : Expr} {px py pt : Pos} {kt k2 pt2} (hc : X.calm = true) (hN : X.N.Nodup) (hi : X.N[i]? = some x) (hj : X.N[j]? = some y) (hij : i ≠ j)
    (hx : X.env.scope.names.lookup x = some .local) (hy : X.env.scope.names.lookup y = some .local) (ha : APM X [a, b] ms)
    (hw : swappedStores [.Tuple [.Name x px, .Name y py] kt pt] (.Tuple [a, b] k2 pt2) X.env = pure (some [x, y]))
    (hs : swapsWithSole [.Tuple [.Name x px, .Name y py] kt pt] (.Tuple [a, b] k2 pt2) pos.line X.env = pure false := by rfl) :
    SM X (.Assign [.Tuple [.Name x px, .Name y py] kt pt] (.Tuple [a, b] k2 pt2) pos) (sPar [i, j] ms) := by
  refine sm_par_of (ps_par hc hN hi hj hij hx hy ha.run hw hs) ha rfl fun E σ H h => ?_
  obtain ⟨G, loc, ρ, R, q⟩ := h
  refine ⟨G, loc, ρ, R, ha.mono ρ _ _ (fun us ρ1 q1 vs H1 G1 R1 g1 p1 => ?_) q⟩
  obtain ⟨l, q2⟩ := q1 vs H1 G1 R1 g1 p1
  obtain ⟨v, w, rfl⟩ := two_of l
  exact ⟨v, w, rfl, by rw [putAll2 hij]; exact q2⟩
end
end DL

namespace DL
open PySem L2

/-! ### targets -/
abbrev GMn := D → List Slot → (List Slot → Prop) → Prop
abbrev GMs := List D → List Slot → (List Slot → Prop) → Prop
def TGof (K : PySem.W.Frag) (vs : List Nat) (g : GMn) : TG := fun v σ H Q => ∃ G loc ρ d, Rep K G ρ loc σ H ∧ Dx K H (Fb G.fb ρ loc) v d ∧ g d ρ fun ρ' =>
  ∀ σ' H', Rep K G ρ' loc σ' H' → Grow (Fb G.fb ρ loc) (Fb G.fb ρ' loc) H H' → wipe σ' vs = wipe σ vs → Q σ' H'
def TGsof (K : PySem.W.Frag) (vs : List Nat) (g : GMs) : TGs := fun us σ H Q => ∃ G loc ρ ds, Rep K G ρ loc σ H ∧ DxAll K H (Fb G.fb ρ loc) us ds ∧ g ds ρ fun ρ' =>
  ∀ σ' H', Rep K G ρ' loc σ' H' → Grow (Fb G.fb ρ loc) (Fb G.fb ρ' loc) H H' → wipe σ' vs = wipe σ vs → Q σ' H'
structure GM (X : Cx) (vs : List Nat) (tg : Expr) (g : GMn) : Prop where
  mono : ∀ d ρ (k k' : List Slot → Prop), (∀ ρ', k ρ' → k' ρ') → g d ρ k → g d ρ k'
  run : PG X tg (TGof X.K vs g)
structure GsM (X : Cx) (vs : List Nat) (tgs : List Expr) (g : GMs) : Prop where
  mono : ∀ ds ρ (k k' : List Slot → Prop), (∀ ρ', k ρ' → k' ρ') → g ds ρ k → g ds ρ k'
  run : PGs X tgs (TGsof X.K vs g)
theorem pg_weak {X : Cx} {e : Expr} {t t' : TG} (h : PG X e t) (w : ∀ v σ H Q, t' v σ H Q → t v σ H Q) : PG X e t' := ⟨fun pins s σ H v u Q I r q => h.run pins s σ H v u Q I r (w _ _ _ _ q)⟩
theorem pgs_weak {X : Cx} {e : List Expr} {t t' : TGs} (h : PGs X e t) (w : ∀ v σ H Q, t' v σ H Q → t v σ H Q) : PGs X e t' := ⟨fun pins s σ H v u Q I r q => h.run pins s σ H v u Q I r (w _ _ _ _ q)⟩
theorem wipe_set {x : Option V} {i : Nat} : ∀ {vs : List Nat} {σ : L2.St}, i ∈ vs → wipe (σ.set i x) vs = wipe σ vs
  | v :: vs, σ, h => by
    by_cases hv : i ∈ vs
    · unfold wipe; rw [wipe_set hv]
    · have e : i = v := by
        rcases List.mem_cons.mp h with e | e
        · exact e
        · exact (hv e).elim
      subst e
      have comm : ∀ (us : List Nat), i ∉ us → wipe (σ.set i x) us = (wipe σ us).set i x := fun us hu => by
        induction us with
        | nil => rfl
        | cons u us ih =>
          have h1 : u ≠ i := fun e => hu (by rw [e]; exact List.mem_cons_self)
          have h2 : i ∉ us := fun m => hu (List.mem_cons_of_mem _ m)
          unfold wipe
          rw [ih h2, List.set_comm _ _ (Ne.symm h1)]
      unfold wipe
      rw [comm vs hv, List.set_set]
def gVar (i : Nat) : GMn := fun d ρ k => k (ρ.set i (.dat d))
def gTupD (n : Nat) (g : GMs) : GMn := fun d ρ k => match d with
  | .tuple ds => ds.length = n ∧ g ds ρ k
  | _ => False
def gNilD : GMs := fun ds ρ k => match ds with
  | [] => k ρ
  | _ => False
def gConsD (g : GMn) (gs : GMs) : GMs := fun ds ρ k => match ds with
  | d :: r => g d ρ fun ρ1 => gs r ρ1 k
  | [] => False
/-- with what a slot owns -/
def withOwn (ρ : List Slot) (j : Nat) (f : Bool → List D → Prop) : Prop := match ρ[j]? with
  | some (.own b bs) => f b bs
  | _ => False
theorem withOwn.mono {ρ : List Slot} {j : Nat} {f g : Bool → List D → Prop} (h : withOwn ρ j f) (w : ∀ b bs, f b bs → g b bs) : withOwn ρ j g := by
  unfold withOwn at h ⊢
  split at h
  · exact w _ _ h
  · exact h.elim
theorem withOwn.get {ρ : List Slot} {j : Nat} {f : Bool → List D → Prop} (h : withOwn ρ j f) : ∃ b bs, ρ[j]? = some (.own b bs) ∧ f b bs := by
  unfold withOwn at h
  split at h
  · exact ⟨_, _, by assumption, h⟩
  · exact h.elim
def gSubD (j : Nat) (mi : M D) : GMn := fun d ρ k => withOwn ρ j fun _ _ => mi ρ fun e ρ1 => withOwn ρ1 j fun b bs => match e with
  | .int i => ∃ n, ixN bs.length i = some n ∧ k (ρ1.set j (.own b (bs.set n d)))
  | _ => False
section
variable {K : PySem.W.Frag} {G : Fr} {ρ : List Slot} {loc : Nat → Addr} {σ : L2.St} {H : Hp}
/-- an owned list rewritten -/
theorem Rep.wr (R : Rep K G ρ loc σ H) {i : Nat} {b : Bool} {bs bs' : List D} {ws : List V} (e : ρ[i]? = some (Slot.own b bs)) (hb : DxAll K H (Fb G.fb ρ loc) ws bs') :
    Rep K G (ρ.set i (.own b bs')) loc σ (upd H (loc i) (.lst ws)) ∧ Grow (Fb G.fb ρ loc) (Fb G.fb (ρ.set i (.own b bs')) loc) H (upd H (loc i) (.lst ws)) := by
  have g : Grow (Fb G.fb ρ loc) (Fb G.fb ρ loc) H (upd H (loc i) (.lst ws)) := fun c o q n => ⟨by rw [upd_ne fun z => n (.inr (.inr ⟨i, b, bs, e, z.symm⟩))]; exact q, n⟩
  obtain ⟨a1, a2, _⟩ := R.back e (fun c o n q => by rw [upd_ne n]; exact q) upd_same (hb.g g)
  exact ⟨a1, a2⟩
end
section
variable {X : Cx} {vs : List Nat} {pos : Pos} {e : Expr} {es : List Expr} {g : GMn} {gs : GMs}
theorem gm_name {i : Nat} {x : Str} (hN : X.N.Nodup) (hi : X.N[i]? = some x) (hx : Loc X.env.scope x) (hv : i ∈ vs) (hf : X.fn x = true ∨ X.env.scope.names.lookup x = some .local := by first | exact .inl rfl | exact .inr rfl | assumption) : GM X vs (.Name x pos) (gVar i) := by
  refine ⟨fun _ _ _ _ w q => w _ q, pg_weak (pg_name hN hi hx hf) ?_⟩
  rintro v σ H Q ⟨G, loc, ρ, d, R, dx, q⟩
  exact q _ H (R.put i dx) put_grow (wipe_set hv)
theorem gsm_nil : GsM X vs [] gNilD := by
  refine ⟨fun ds ρ k k' w q => ?_, pgs_weak pgs_nil ?_⟩
  · cases ds with
    | nil => exact w _ q
    | cons d ds => exact q.elim
  · rintro us σ H Q ⟨G, loc, ρ, ds, R, dx, q⟩
    cases ds with
    | nil => cases dx; exact ⟨rfl, q _ H R Grow.refl rfl⟩
    | cons d ds => exact q.elim
theorem gsm_cons (h : GM X vs e g) (h2 : GsM X vs es gs) (hs : (assignEach (e :: es) X.env).map (·.2) = assign e X.env :: (assignEach es X.env).map (·.2) := by rfl) : GsM X vs (e :: es) (gConsD g gs) := by
  refine ⟨fun ds ρ k k' w q => ?_, pgs_weak (pgs_cons h.run h2.run hs) ?_⟩
  · cases ds with
    | nil => exact q.elim
    | cons d ds => exact h.mono d ρ _ _ (fun ρ1 q1 => h2.mono ds ρ1 _ _ w q1) q
  · rintro us σ H Q ⟨G, loc, ρ, ds, R, dx, q⟩
    cases ds with
    | nil => exact q.elim
    | cons d ds =>
      cases dx with
      | cons dv dr =>
        refine ⟨_, _, rfl, G, loc, ρ, d, R, dv, h.mono d ρ _ _ (fun ρ1 q1 σ1 H1 R1 g1 w1 => ?_) q⟩
        exact ⟨G, loc, ρ1, ds, R1, dr.g g1, h2.mono ds ρ1 _ _ (fun ρ2 q2 σ2 H2 R2 g2 w2 => q2 σ2 H2 R2 (g1.trans g2) (w2.trans w1)) q1⟩
theorem gm_tup {k n : Nat} (hc : X.calm = true) (h : GsM X vs es gs) (hn : (assignEach es X.env).length = n := by rfl) (hst : (assignEach es X.env).findIdx? (·.1) = none := by rfl) : GM X vs (.Tuple es k pos) (gTupD n gs) := by
  refine ⟨fun d ρ k k' w q => ?_, pg_weak (pg_tup hc h.run hn hst) ?_⟩
  · cases d <;> first | exact q.elim | exact ⟨q.1, h.mono _ ρ _ _ w q.2⟩
  · rintro v σ H Q ⟨G, loc, ρ, d, R, dx, q⟩
    cases d <;> first | exact q.elim | skip
    obtain ⟨a, xs, rfl, e1, da⟩ := dx.sqt
    exact ⟨a, xs, rfl, e1, da.length.trans q.1, G, loc, ρ, _, R, da, q.2⟩
theorem gm_sub {j : Nat} {x : Str} {p : Pos} {i : Expr} {mi : M D} (hv : PE X (.Name x p) (tVar j)) (hi : EM X i mi)
    (ha : ∀ v, assign (.Subscript (.Name x p) i pos) X.env v = (do
      let ov ← holding [v] (eval (.Name x p) X.env)
      let iv ← holding [v, ov] (eval i X.env)
      standAt pos
      holding [v, ov, iv] (setItem ov iv v)
      release [v, ov, iv] []) := by intro _; rfl) : GM X vs (.Subscript (.Name x p) i pos) (gSubD j mi) := by
  refine ⟨fun d ρ k k' w q => q.mono fun _ _ q => hi.mono ρ _ _ (fun e ρ1 q1 => q1.mono fun b bs q2 => by
      cases e <;> first | exact q2.elim | (obtain ⟨n, q3, q4⟩ := q2; exact ⟨n, q3, w _ q4⟩)) q, pg_weak (pg_sub hv hi.run set_list ha) ?_⟩
  · rintro v σ H Q ⟨G, loc, ρ, d, R, dx, q⟩
    obtain ⟨b, bs, e0, q⟩ := q.get
    refine ⟨_, (R.own j b bs e0).1, G, loc, ρ, R, hi.mono ρ _ _ (fun e ρ1 q1 iv H1 R1 g1 d1 => ?_) q⟩
    obtain ⟨c, cs, e1, q1⟩ := q1.get
    cases e <;> first | exact q1.elim | skip
    cases d1
    obtain ⟨n, q3, q4⟩ := q1
    obtain ⟨h1, ws, h2, h3⟩ := R1.own j c cs e1
    obtain ⟨R2, g2⟩ := R1.wr e1 (h3.set n (dx.g g1))
    exact ⟨loc j, ws, _, n, rfl, rfl, h2, by rw [h3.length]; exact q3, q4 σ _ R2 (g1.trans g2) rfl⟩
/-- target = value -/
def sAsg (m : M D) (g : GMn) : SMon := fun k ρ => m ρ fun d ρ1 => g d ρ1 k.nx
theorem sm_asg {tg : Expr} {m : M D} (vs : List Nat) (he : EM X e m) (hg : GM X vs tg g) (hs : swapsWithSole [tg] e pos.line X.env = pure false := by rfl) (hw : swappedStores [tg] e X.env = pure none := by rfl)
    (h1 : (assignEach [tg] X.env).map (·.2) = [assign tg X.env] := by rfl) : SM X (.Assign [tg] e pos) (sAsg m g) := by
  refine ⟨fun k k' ρ l q => he.mono ρ _ _ (fun d ρ1 q1 => hg.mono _ _ _ _ l.nx q1) q, ps_weak (ps_asg he.run hg.run hs hw h1) ?_⟩
  rintro E σ H ⟨G, loc, ρ, k, R, q, l1, l2, l3, l4⟩
  refine ⟨G, loc, ρ, R, he.mono ρ _ _ (fun d ρ1 q1 v H1 R1 g1 d1 => ?_) q⟩
  exact ⟨G, loc, ρ1, d, R1, d1, hg.mono _ _ _ _ (fun ρ2 q2 σ2 H2 R2 g2 _ => l1 _ _ _ _ R2 (g1.trans g2) q2) q1⟩
end

/-! ### three at once; name op= e -/
section
variable {X : Cx} {pos : Pos} {ms : M (List Put)}
theorem putAll3 {i j l : Nat} (hij : i ≠ j) (hil : i ≠ l) (hjl : j ≠ l) {v w u : V} {σ : L2.St} : ((σ.set i (some v)).set j (some w)).set l (some u) = putAll [i, j, l] [v, w, u] σ := by
  show _ = ((σ.set l (some u)).set j (some w)).set i (some v)
  rw [List.set_comm _ _ hij, List.set_comm _ _ hil, List.set_comm _ _ hjl]
theorem sm_par3 {i j l : Nat} {x y z : Str} {a b c : Expr} {px py pz pt : Pos} {kt k2 pt2} (hc : X.calm = true) (hN : X.N.Nodup) (hi : X.N[i]? = some x) (hj : X.N[j]? = some y) (hl : X.N[l]? = some z) (hij : i ≠ j) (hil : i ≠ l) (hjl : j ≠ l)
    (hx : X.env.scope.names.lookup x = some .local) (hy : X.env.scope.names.lookup y = some .local) (hz : X.env.scope.names.lookup z = some .local) (ha : APM X [a, b, c] ms)
    (hw : swappedStores [.Tuple [.Name x px, .Name y py, .Name z pz] kt pt] (.Tuple [a, b, c] k2 pt2) X.env = pure (some [x, y, z]))
    (hs : swapsWithSole [.Tuple [.Name x px, .Name y py, .Name z pz] kt pt] (.Tuple [a, b, c] k2 pt2) pos.line X.env = pure false := by rfl) :
    SM X (.Assign [.Tuple [.Name x px, .Name y py, .Name z pz] kt pt] (.Tuple [a, b, c] k2 pt2) pos) (sPar [i, j, l] ms) := by
  refine sm_par_of (ps_par3 hc hN hi hj hl hij hil hjl hx hy hz ha.run hw hs) ha rfl fun E σ H h => ?_
  obtain ⟨G, loc, ρ, R, q⟩ := h
  refine ⟨G, loc, ρ, R, ha.mono ρ _ _ (fun us ρ1 q1 vs H1 G1 R1 g1 p1 => ?_) q⟩
  obtain ⟨l, q2⟩ := q1 vs H1 G1 R1 g1 p1
  obtain ⟨v, w, u, rfl⟩ := three_of l
  exact ⟨v, w, u, rfl, by rw [putAll3 hij hil hjl]; exact q2⟩
def sAug (i : Nat) (p : P2) (m : M D) : SMon := fun k ρ => match ρ[i]? with
  | some (.dat d) => m ρ fun e ρ1 => p d e fun r => k.nx (ρ1.set i (.dat r))
  | _ => False
theorem sm_aug {i : Nat} {x : Str} {e : Expr} {m : M D} {op : Operator} {r : TIp} {p : P2} {pos' : Pos} (hN : X.N.Nodup) (hi : X.N[i]? = some x) (hx : Loc X.env.scope x) (he : EM X e m) (ho : PIp X op r) (hp : Prim2 X.K r p) (mp : ∀ a b, Pm1 (p a b)) (hf : X.fn x = true ∨ X.env.scope.names.lookup x = some .local := by first | exact .inl rfl | exact .inr rfl | assumption) :
    SM X (.AugAssign (.Name x pos') op e pos) (sAug i p m) := by
  refine ⟨fun k k' ρ l q => ?_, ps_weak (ps_aug hN hi hx he.run ho hf) ?_⟩
  · unfold sAug at q ⊢
    split at q
    · exact he.mono ρ _ _ (fun e ρ1 q1 => mp _ _ _ _ (fun r q2 => l.nx _ q2) q1) q
    · exact q.elim
  · rintro E σ H ⟨G, loc, ρ, k, R, q, l1, l2, l3, l4⟩
    unfold sAug at q
    split at q
    · rename_i d e0
      obtain ⟨v, h1, h2⟩ := R.dat i d e0
      refine ⟨v, h1, G, loc, ρ, R, he.mono ρ _ _ (fun e ρ1 q1 u H1 R1 g1 d1 => ?_) q⟩
      refine hp (Fb G.fb ρ1 loc) H1 v u d e _ R1.fbE (h2.g g1) d1 (mp _ _ _ _ (fun r q2 w H2 m2 d2 => ?_) q1)
      exact l1 _ _ _ _ ((R1.more m2).put i d2) ((g1.trans (more_grow m2)).trans put_grow) q2
    · exact q.elim
/-- //= of ints -/
theorem ipo_fdiv : PIp X .FloorDiv (rI CDivW fun i j => .int (i / j)) := by
  intro pins s σ H x y v u Q I r1 r2 h
  exact iop_fdivW pins s σ H x y v u Q I r1 r2 h
end

/-! ### methods of an owned list -/
def mAppend (i : Nat) (m : M D) : M D := fun ρ k => withOwn ρ i fun _ _ => m ρ fun d ρ1 => withOwn ρ1 i fun b bs => bs.length < sizeLine ∧ k .none (ρ1.set i (.own b (bs ++ [d])))
def mPop (i : Nat) : M D := fun ρ k => withOwn ρ i fun b bs => ∃ d, bs[bs.length - 1]? = some d ∧ k d (ρ.set i (.own b bs.dropLast))
def mPopAt (i : Nat) (m : M D) : M D := fun ρ k => withOwn ρ i fun _ _ => m ρ fun e ρ1 => withOwn ρ1 i fun b bs => match e with
  | .int j => -(2 ^ 63) ≤ j ∧ j < 2 ^ 63 ∧ ∃ n d, seqIndex? j bs.length = some n ∧ bs[n]? = some d ∧ k d (ρ1.set i (.own b (bs.eraseIdx n)))
  | _ => False
def mClear (i : Nat) : M D := fun ρ k => withOwn ρ i fun b _ => k .none (ρ.set i (.own b []))
def mReverse (i : Nat) : M D := fun ρ k => withOwn ρ i fun b bs => k .none (ρ.set i (.own b bs.reverse))
theorem DxAll.dropLast {K : PySem.W.Frag} {H : Hp} {F : AS} {vs : List V} {ds : List D} (h : DxAll K H F vs ds) : DxAll K H F vs.dropLast ds.dropLast := by
  rw [List.dropLast_eq_take, List.dropLast_eq_take, h.length]; exact h.take _
section
variable {X : Cx} {i : Nat} {x : Str} {p apos cpos : Pos} {e : Expr} {m : M D}
theorem em_append (hv : PE X (.Name x p) (tVar i)) (he : EM X e m)
    (hbase : attributeBase (.Name x p) "append" X.env (eval (.Name x p) X.env) = eval (.Name x p) X.env := by rfl)
    (hfew : ((backTo cpos (starEach [e] X.env)).all (fun x => !x.1) && (backToKw cpos (keywordEach [] X.env)).all (fun x => x.1.isSome)
      && decide ([e].length + ([] : List Keyword).length + (if ([] : List Keyword).isEmpty then 0 else 1) < 30)) = true := by rfl)
    (hline : (apos.endLine == cpos.line) = true := by rfl) (hs : starEach [e] X.env = (false, eval e X.env) :: starEach [] X.env := by rfl) (hplain : (backTo cpos (starEach [] X.env)).any (·.1) = false := by rfl) :
    EM X (.Call (.Attribute (.Name x p) "append" apos) [e] [] cpos) (mAppend i m) := by
  refine ⟨fun ρ k k' w q => q.mono fun _ _ q => he.mono ρ _ _ (fun d ρ1 q1 => q1.mono fun b bs q2 => ⟨q2.1, w _ _ q2.2⟩) q, pe_weak (pe_bm PySem.F.plainAttrs_list PySem.F.slot_list_append PySem.F.type_list_append mt_append hv (pa_cons he.run pa_nil hs) hbase hfew hline hs hplain) ?_⟩
  rintro σ H Q ⟨G, loc, ρ, R, q⟩
  obtain ⟨b, bs, e0, q⟩ := q.get
  obtain ⟨h1, ws, h2, h3⟩ := R.own i b bs e0
  refine ⟨_, h1, .inl ⟨rfl, ws, .inl (.inl h2)⟩, G, loc, ρ, R, he.mono ρ _ _ (fun d ρ1 q1 v H1 R1 g1 d1 => ?_) q⟩
  obtain ⟨c, cs, e1, q1⟩ := q1.get
  obtain ⟨k1, us, k2, k3⟩ := R1.own i c cs e1
  obtain ⟨R2, g2⟩ := R1.wr e1 (k3.append (.cons d1 .nil))
  exact ⟨loc i, us, v, rfl, rfl, k2, by rw [k3.length]; exact q1.1, q1.2 _ _ R2 (g1.trans g2) .non⟩
theorem em_pop (hv : PE X (.Name x p) (tVar i))
    (hbase : attributeBase (.Name x p) "pop" X.env (eval (.Name x p) X.env) = eval (.Name x p) X.env := by rfl) (hline : (apos.endLine == cpos.line) = true := by rfl) :
    EM X (.Call (.Attribute (.Name x p) "pop" apos) [] [] cpos) (mPop i) := by
  refine ⟨fun ρ k k' w q => q.mono fun b bs ⟨d, h, q⟩ => ⟨d, h, w _ _ q⟩, pe_weak (pe_bm0 PySem.F.plainAttrs_list PySem.F.slot_list_pop PySem.F.type_list_pop mt_pop hv hbase hline) ?_⟩
  rintro σ H Q ⟨G, loc, ρ, R, q⟩
  obtain ⟨b, bs, e0, d, hd, q⟩ := q.get
  obtain ⟨h1, ws, h2, h3⟩ := R.own i b bs e0
  obtain ⟨v, hv, dv⟩ := h3.get hd
  obtain ⟨R2, g2⟩ := R.wr e0 h3.dropLast
  exact ⟨_, h1, .inl ⟨rfl, ws, .inl (.inl h2)⟩, loc i, ws, v, rfl, rfl, h2, by rw [h3.length]; exact hv, q _ _ R2 g2 (dv.g g2)⟩
theorem em_popAt (hv : PE X (.Name x p) (tVar i)) (he : EM X e m)
    (hbase : attributeBase (.Name x p) "pop" X.env (eval (.Name x p) X.env) = eval (.Name x p) X.env := by rfl)
    (hfew : ((backTo cpos (starEach [e] X.env)).all (fun x => !x.1) && (backToKw cpos (keywordEach [] X.env)).all (fun x => x.1.isSome)
      && decide ([e].length + ([] : List Keyword).length + (if ([] : List Keyword).isEmpty then 0 else 1) < 30)) = true := by rfl)
    (hline : (apos.endLine == cpos.line) = true := by rfl) (hs : starEach [e] X.env = (false, eval e X.env) :: starEach [] X.env := by rfl) (hplain : (backTo cpos (starEach [] X.env)).any (·.1) = false := by rfl) :
    EM X (.Call (.Attribute (.Name x p) "pop" apos) [e] [] cpos) (mPopAt i m) := by
  refine ⟨fun ρ k k' w q => q.mono fun _ _ q => he.mono ρ _ _ (fun d ρ1 q1 => q1.mono fun b bs q2 => by
      cases d <;> first | exact q2.elim | (obtain ⟨a1, a2, n, d, a3, a4, a5⟩ := q2; exact ⟨a1, a2, n, d, a3, a4, w _ _ a5⟩)) q, pe_weak (pe_bm PySem.F.plainAttrs_list PySem.F.slot_list_pop PySem.F.type_list_pop mt_popAt hv (pa_cons he.run pa_nil hs) hbase hfew hline hs hplain) ?_⟩
  · rintro σ H Q ⟨G, loc, ρ, R, q⟩
    obtain ⟨b, bs, e0, q⟩ := q.get
    obtain ⟨h1, ws, h2, h3⟩ := R.own i b bs e0
    refine ⟨_, h1, .inl ⟨rfl, ws, .inl (.inl h2)⟩, G, loc, ρ, R, he.mono ρ _ _ (fun d ρ1 q1 v H1 R1 g1 d1 => ?_) q⟩
    obtain ⟨c, cs, e1, q1⟩ := q1.get
    cases d <;> first | exact q1.elim | skip
    cases d1
    obtain ⟨a1, a2, n, d, a3, a4, a5⟩ := q1
    obtain ⟨k1, us, k2, k3⟩ := R1.own i c cs e1
    obtain ⟨y, hy, dy⟩ := k3.get a4
    obtain ⟨R2, g2⟩ := R1.wr e1 (k3.eraseIdx n)
    exact ⟨loc i, us, _, n, y, rfl, rfl, k2, a1, a2, by rw [k3.length]; exact a3, hy, a5 _ _ R2 (g1.trans g2) (dy.g g2)⟩
end
end DL

namespace DL
open PySem L2

/-! ### what is walked -/
def Gives (K : PySem.W.Frag) (F : AS) (H : Hp) (J : It) (ds : List D) : Prop := ∀ (i : Nat) (F' : AS) (H' : Hp), Grow F F' H H' → (∀ c, F' c → ∃ o, H' c = some o) →
  (∀ d, ds[i]? = some d → J.go i H' ∧ ∀ x H2, J.yld i H' x H2 → (∀ b o, H' b = some o → H2 b = some o) ∧ Dx K H2 F' x d) ∧ (ds.length ≤ i → J.stop i H')
def TIof (K : PySem.W.Frag) (m : M (List D)) : TI := fun σ H R => ∃ G loc ρ, Rep K G ρ loc σ H ∧ m ρ fun ds ρ' =>
  ∀ J H', Rep K G ρ' loc σ H' → Grow (Fb G.fb ρ loc) (Fb G.fb ρ' loc) H H' → Gives K (Fb G.fb ρ' loc) H' J ds → R J H'
structure IM (X : Cx) (tg e : Expr) (m : M (List D)) : Prop where
  mono : Mono m
  run : PI X tg e (TIof X.K m)
theorem pi_weak {X : Cx} {tg e : Expr} {t t' : TI} (h : PI X tg e t) (w : ∀ σ H Q, t' σ H Q → t σ H Q) : PI X tg e t' := ⟨fun pins s σ H Q I q => h.run pins s σ H Q I (w _ _ _ q)⟩
def mOrI (m m' : M (List D)) : M (List D) := fun ρ k => m ρ k ∨ m' ρ k
theorem IM.or {X : Cx} {tg e : Expr} {m m' : M (List D)} (h : IM X tg e m) (h' : IM X tg e m') : IM X tg e (mOrI m m') := by
  refine ⟨fun ρ k k' w q => q.imp (h.mono ρ k k' w) (h'.mono ρ k k' w), ⟨fun pins s σ H Q I q => ?_⟩⟩
  obtain ⟨G, loc, ρ, R, q⟩ := q
  rcases q with q | q
  · exact h.run.run pins s σ H Q I ⟨G, loc, ρ, R, q⟩
  · exact h'.run.run pins s σ H Q I ⟨G, loc, ρ, R, q⟩
def mItL (m : M D) : M (List D) := fun ρ k => m ρ fun d ρ1 => match d with
  | .list ds => k ds ρ1
  | _ => False
def mItT (m : M D) : M (List D) := fun ρ k => m ρ fun d ρ1 => match d with
  | .tuple ds => k ds ρ1
  | _ => False
def signsD (z : Str) : List D := z.cps.toList.map fun c => .str ⟨#[c]⟩
def mItS (m : M D) : M (List D) := fun ρ k => m ρ fun d ρ1 => match d with
  | .str z => k (signsD z) ρ1
  | _ => False
def rngD (lo : Int) (n : Nat) : List D := (List.range n).map fun i => .int (lo + (i : Nat))
def mRng1 (m : M (List D)) : M (List D) := fun ρ k => m ρ fun ds ρ1 => match ds with
  | [.int j] => -(2 ^ 62) ≤ j ∧ j < 2 ^ 62 ∧ k (rngD 0 j.toNat) ρ1
  | _ => False
def mRng2 (m : M (List D)) : M (List D) := fun ρ k => m ρ fun ds ρ1 => match ds with
  | [.int i, .int j] => (-(2 ^ 62) ≤ i ∧ i < 2 ^ 62 ∧ -(2 ^ 62) ≤ j ∧ j < 2 ^ 62) ∧ k (rngD i (j - i).toNat) ρ1
  | _ => False
def zipD (xs ys : List D) : List D := (xs.zip ys).map fun p => .tuple [p.1, p.2]
def mZip (m : M (List D)) : M (List D) := fun ρ k => m ρ fun ds ρ1 => match ds with
  | [.list xs, .list ys] => k (zipD xs ys) ρ1
  | [.tuple xs, .tuple ys] => k (zipD xs ys) ρ1
  | _ => False
def enumD (xs : List D) : List D := xs.zipIdx.map fun p => .tuple [.int (p.2 : Nat), p.1]
def mEnum (m : M (List D)) : M (List D) := fun ρ k => m ρ fun ds ρ1 => match ds with
  | [.list xs] => k (enumD xs) ρ1
  | _ => False
section
variable {X : Cx} {tg e : Expr} {m : M D} {ms : M (List D)} {p pos tpos : Pos}
theorem gives_list {K : PySem.W.Frag} {F : AS} {H : Hp} {a : Addr} {xs : List V} {ds : List D} (n : ¬ F a) (e : H a = some (.lst xs)) (d : DxAll K H F xs ds) : Gives K F H (Itl K a) ds := by
  intro i F' H' g hf
  obtain ⟨e', n'⟩ := g a _ e n
  have d' := d.g g
  refine ⟨fun y hy => ?_, fun hl => ⟨xs, .inl (.inl e'), by rw [d.length]; exact hl⟩⟩
  obtain ⟨v, h1, h2⟩ := d'.get hy
  refine ⟨⟨xs, v, .inl (.inl e'), h1⟩, fun x H2 hx => ?_⟩
  obtain ⟨rfl, hx⟩ := hx
  have q := hx xs (.inl (.inl e'))
  rw [h1] at q
  cases q
  exact ⟨fun _ _ z => z, h2⟩
theorem gives_tup {K : PySem.W.Frag} {F : AS} {H : Hp} {v : V} {ds : List D} (h : Dx K H F v (.tuple ds)) : ∃ a xs, v = .ref a ∧ SqT K H a xs ∧ Gives K F H (Itt K a) ds := by
  obtain ⟨a, xs, rfl, e, d⟩ := h.sqt
  refine ⟨a, xs, rfl, e, fun i F' H' g hf => ?_⟩
  have h' := h.g g
  have key : ∃ xs', SqT K H' a xs' ∧ DxAll K H' F' xs' ds := by
    obtain ⟨a', xs', z, e', d'⟩ := h'.sqt
    cases z
    exact ⟨xs', e', d'⟩
  obtain ⟨xs', e', d'⟩ := key
  refine ⟨fun y hy => ?_, fun hl => ⟨xs', e', by rw [d'.length]; exact hl⟩⟩
  obtain ⟨v, h1, h2⟩ := d'.get hy
  refine ⟨⟨xs', v, e', h1⟩, fun x H2 hx => ?_⟩
  obtain ⟨rfl, hx⟩ := hx
  have q := hx xs' e'
  rw [h1] at q
  cases q
  exact ⟨fun _ _ z => z, h2⟩
theorem im_list (he : EM X e m) : IM X tg e (mItL m) := by
  refine ⟨fun ρ k k' w q => he.mono ρ _ _ (fun d ρ1 q1 => by cases d <;> first | exact q1.elim | exact w _ _ q1) q, pi_weak (pi_list he.run) ?_⟩
  rintro σ H Q ⟨G, loc, ρ, R, q⟩
  refine ⟨G, loc, ρ, R, he.mono ρ _ _ (fun d ρ1 q1 v H1 R1 g1 d1 => ?_) q⟩
  cases d <;> first | exact (show False from q1).elim | skip
  obtain ⟨a, xs, rfl, e1, n1, da⟩ := d1.sql
  exact ⟨a, rfl, ⟨xs, .inl (.inl e1)⟩, q1 _ _ R1 g1 (gives_list n1 e1 da)⟩
theorem im_tup (he : EM X e m) : IM X tg e (mItT m) := by
  refine ⟨fun ρ k k' w q => he.mono ρ _ _ (fun d ρ1 q1 => by cases d <;> first | exact q1.elim | exact w _ _ q1) q, pi_weak (pi_tup he.run) ?_⟩
  rintro σ H Q ⟨G, loc, ρ, R, q⟩
  refine ⟨G, loc, ρ, R, he.mono ρ _ _ (fun d ρ1 q1 v H1 R1 g1 d1 => ?_) q⟩
  cases d <;> first | exact (show False from q1).elim | skip
  obtain ⟨a, xs, rfl, e1, gv⟩ := gives_tup d1
  exact ⟨a, rfl, ⟨xs, e1⟩, q1 _ _ R1 g1 gv⟩
theorem im_str (he : EM X e m) : IM X tg e (mItS m) := by
  refine ⟨fun ρ k k' w q => he.mono ρ _ _ (fun d ρ1 q1 => by cases d <;> first | exact q1.elim | exact w _ _ q1) q, pi_weak (pi_str he.run) ?_⟩
  rintro σ H Q ⟨G, loc, ρ, R, q⟩
  refine ⟨G, loc, ρ, R, he.mono ρ _ _ (fun d ρ1 q1 v H1 R1 g1 d1 => ?_) q⟩
  cases d <;> first | exact (show False from q1).elim | skip
  rename_i z
  cases d1
  refine ⟨z, rfl, q1 _ _ R1 g1 fun i F' H' g hf => ⟨fun y hy => ?_, fun hl => ?_⟩⟩
  · unfold signsD at hy
    rw [List.getElem?_map] at hy
    cases hc : z.cps.toList[i]? with
    | none => rw [hc] at hy; cases hy
    | some c =>
      rw [hc] at hy
      cases hy
      have hlt : i < z.cps.size := by simpa using (List.getElem?_eq_some_iff.mp hc).1
      refine ⟨hlt, fun x H2 hx => ?_⟩
      obtain ⟨rfl, c', e1, rfl⟩ := hx
      rw [← Array.getElem?_toList, hc] at e1
      cases e1
      exact ⟨fun _ _ z => z, .str _⟩
  · unfold signsD at hl
    show z.cps.size ≤ i
    simpa using hl
theorem gives_rng {K : PySem.W.Frag} {F : AS} {H : Hp} (lo : Int) (n : Nat) : Gives K F H (Itr lo n) (rngD lo n) := by
  intro i F' H' g hf
  unfold rngD
  refine ⟨fun y hy => ?_, fun hl => ?_⟩
  · rw [List.getElem?_map] at hy
    cases hc : (List.range n)[i]? with
    | none => rw [hc] at hy; cases hy
    | some c =>
      rw [hc] at hy
      cases hy
      obtain ⟨h1, h2⟩ := List.getElem?_eq_some_iff.mp hc
      rw [List.getElem_range] at h2
      subst h2
      refine ⟨show i < n by simpa using h1, fun x H2 hx => ?_⟩
      obtain ⟨rfl, rfl⟩ := hx
      exact ⟨fun _ _ z => z, .int _⟩
  · show n ≤ i
    simpa using hl
theorem im_range1 {a : Expr} (ha : AM X [a] ms) (hm : X.mg "range" = none) (hg : Gl X "range" := by rfl) (hs : starEach [a] X.env = [(false, eval a X.env)] := by rfl) : IM X tg (.Call (.Name "range" p) [a] [] pos) (mRng1 ms) := by
  refine ⟨fun ρ k k' w q => ha.mono ρ _ _ (fun ds ρ1 q1 => ?_) q, pi_weak (pi_range1 hg hm ha.run hs) ?_⟩
  · split at q1
    · exact ⟨q1.1, q1.2.1, w _ _ q1.2.2⟩
    · exact q1.elim
  · rintro σ H Q ⟨G, loc, ρ, R, q⟩
    refine ⟨G, loc, ρ, R, ha.mono ρ _ _ (fun ds ρ1 q1 vs H1 R1 g1 d1 => ?_) q⟩
    split at q1
    · obtain ⟨v, rfl, dv⟩ := dx_one d1
      cases dv
      exact ⟨_, rfl, q1.1, q1.2.1, q1.2.2 _ _ R1 g1 (gives_rng _ _)⟩
    · exact q1.elim
theorem im_range2 {a b : Expr} (ha : AM X [a, b] ms) (hm : X.mg "range" = none) (hg : Gl X "range" := by rfl) (hs : starEach [a, b] X.env = [(false, eval a X.env), (false, eval b X.env)] := by rfl) (hs2 : starEach [b] X.env = [(false, eval b X.env)] := by rfl) :
    IM X tg (.Call (.Name "range" p) [a, b] [] pos) (mRng2 ms) := by
  refine ⟨fun ρ k k' w q => ha.mono ρ _ _ (fun ds ρ1 q1 => ?_) q, pi_weak (pi_range2 hg hm ha.run hs hs2) ?_⟩
  · split at q1
    · exact ⟨q1.1, w _ _ q1.2⟩
    · exact q1.elim
  · rintro σ H Q ⟨G, loc, ρ, R, q⟩
    refine ⟨G, loc, ρ, R, ha.mono ρ _ _ (fun ds ρ1 q1 vs H1 R1 g1 d1 => ?_) q⟩
    split at q1
    · obtain ⟨v, u, rfl, dv, du⟩ := dx_two d1
      cases dv
      cases du
      exact ⟨_, _, rfl, q1.1, q1.2 _ _ R1 g1 (gives_rng _ _)⟩
    · exact q1.elim
theorem dx_new2 {K : PySem.W.Frag} {F : AS} {H : Hp} {T : Addr} {x y : V} {a b : D} (hf : ∀ c, F c → ∃ o, H c = some o) (hT : H T = none) (hx : Dx K H F x a) (hy : Dx K H F y b) :
    (∀ c o, H c = some o → upd H T (.tup [x, y]) c = some o) ∧ Dx K (upd H T (.tup [x, y])) F (.ref T) (.tuple [a, b]) := by
  refine ⟨upd_more hT, .tup (fun z => ?_) upd_same (.cons (hx.g (more_grow (upd_more hT))) (.cons (hy.g (more_grow (upd_more hT))) .nil))⟩
  obtain ⟨o, q⟩ := hf T z
  rw [hT] at q; cases q
theorem zip_get : ∀ {xs ys : List D} {i : Nat} {d : D}, (zipD xs ys)[i]? = some d → ∃ a b, xs[i]? = some a ∧ ys[i]? = some b ∧ d = .tuple [a, b] := by
  intro xs ys i d h
  unfold zipD at h
  rw [List.getElem?_map] at h
  cases q : (xs.zip ys)[i]? with
  | none => rw [q] at h; cases h
  | some p =>
    rw [q] at h
    cases h
    obtain ⟨h1, h2⟩ := List.getElem?_zip_eq_some.mp q
    exact ⟨_, _, h1, h2, rfl⟩
theorem zip_end {xs ys : List D} {i : Nat} (h : (zipD xs ys).length ≤ i) : xs.length ≤ i ∨ ys.length ≤ i := by
  unfold zipD at h
  rw [List.length_map, List.length_zip] at h
  omega
theorem gives_zip {K : PySem.W.Frag} {F : AS} {H : Hp} {a b : Addr} {xs ys : List V} {ds es : List D} (n : ¬ F a) (e : H a = some (.lst xs)) (d : DxAll K H F xs ds) (n2 : ¬ F b) (e2 : H b = some (.lst ys)) (d2 : DxAll K H F ys es) : Gives K F H (Itz K a b) (zipD ds es) := by
  intro i F' H' g hf
  obtain ⟨e', n'⟩ := g a _ e n
  obtain ⟨e2', n2'⟩ := g b _ e2 n2
  refine ⟨fun y hy => ?_, fun hl => ⟨xs, ys, .inl (.inl e'), .inl (.inl e2'), ?_⟩⟩
  · obtain ⟨p, q, h1, h2, rfl⟩ := zip_get hy
    obtain ⟨v, k1, k2⟩ := (d.g g).get h1
    obtain ⟨u, l1, l2⟩ := (d2.g g).get h2
    refine ⟨⟨xs, ys, v, u, .inl (.inl e'), .inl (.inl e2'), k1, l1⟩, fun x H2 hx => ?_⟩
    obtain ⟨T, v', u', rfl, hT, rfl, hx, hy⟩ := hx
    have q1 := hx xs (.inl (.inl e'))
    have q2 := hy ys (.inl (.inl e2'))
    rw [k1] at q1; cases q1
    rw [l1] at q2; cases q2
    exact dx_new2 hf hT k2 l2
  · rw [d.length, d2.length]; exact zip_end hl
theorem sqt_at {K : PySem.W.Frag} {F : AS} {H : Hp} {a : Addr} {ds : List D} (h : Dx K H F (.ref a) (.tuple ds)) : ∃ xs, SqT K H a xs ∧ DxAll K H F xs ds := by
  obtain ⟨a', xs', z, e', d'⟩ := h.sqt
  cases z
  exact ⟨xs', e', d'⟩
theorem gives_zipT {K : PySem.W.Frag} {F : AS} {H : Hp} {a b : Addr} {ds es : List D} (d : Dx K H F (.ref a) (.tuple ds)) (d2 : Dx K H F (.ref b) (.tuple es)) : Gives K F H (RZ.ItzT K a b) (zipD ds es) := by
  intro i F' H' g hf
  obtain ⟨xs, e', da⟩ := sqt_at (d.g g)
  obtain ⟨ys, e2', db⟩ := sqt_at (d2.g g)
  refine ⟨fun y hy => ?_, fun hl => ⟨xs, ys, e', e2', ?_⟩⟩
  · obtain ⟨p, q, h1, h2, rfl⟩ := zip_get hy
    obtain ⟨v, k1, k2⟩ := da.get h1
    obtain ⟨u, l1, l2⟩ := db.get h2
    refine ⟨⟨xs, ys, v, u, e', e2', k1, l1⟩, fun x H2 hx => ?_⟩
    obtain ⟨T, v', u', rfl, hT, rfl, hx, hy⟩ := hx
    have q1 := hx xs e'
    have q2 := hy ys e2'
    rw [k1] at q1; cases q1
    rw [l1] at q2; cases q2
    exact dx_new2 hf hT k2 l2
  · rw [da.length, db.length]; exact zip_end hl
theorem im_zip {a b : Expr} {elts : List Expr} {kk : Nat} (ha : AM X [a, b] ms) (hm : X.mg "zip" = none) (hg : Gl X "zip" := by rfl)
    (hs : starEach [a, b] X.env = (false, eval a X.env) :: starEach [b] X.env := by rfl) (hpl : (backTo pos (starEach [b] X.env)).any (·.1) = false := by rfl) :
    IM X (.Tuple elts kk tpos) (.Call (.Name "zip" p) [a, b] [] pos) (mZip ms) := by
  refine ⟨fun ρ k k' w q => ha.mono ρ _ _ (fun ds ρ1 q1 => ?_) q, pi_weak (RZ.pi_zipA hg hm ha.run hs hpl) ?_⟩
  · split at q1
    · exact w _ _ q1
    · exact w _ _ q1
    · exact q1.elim
  · rintro σ H Q ⟨G, loc, ρ, R, q⟩
    refine ⟨G, loc, ρ, R, ha.mono ρ _ _ (fun ds ρ1 q1 vs H1 R1 g1 d1 => ?_) q⟩
    split at q1
    · obtain ⟨v, u, rfl, dv, du⟩ := dx_two d1
      obtain ⟨p1, xs, rfl, e1, n1, da⟩ := dv.sql
      obtain ⟨p2, ys, rfl, e2, n2, db⟩ := du.sql
      exact ⟨p1, p2, xs, ys, rfl, .inl ⟨.inl (.inl e1), .inl (.inl e2), q1 _ _ R1 g1 (gives_zip n1 e1 da n2 e2 db)⟩⟩
    · obtain ⟨v, u, rfl, dv, du⟩ := dx_two d1
      obtain ⟨p1, xs, rfl, e1, _⟩ := dv.sqt
      obtain ⟨p2, ys, rfl, e2, _⟩ := du.sqt
      exact ⟨p1, p2, xs, ys, rfl, .inr ⟨e1, e2, q1 _ _ R1 g1 (gives_zipT dv du)⟩⟩
    · exact q1.elim
theorem gives_enum {K : PySem.W.Frag} {F : AS} {H : Hp} {a : Addr} {xs : List V} {ds : List D} (n : ¬ F a) (e : H a = some (.lst xs)) (d : DxAll K H F xs ds) : Gives K F H (Ite K a) (enumD ds) := by
  intro i F' H' g hf
  obtain ⟨e', n'⟩ := g a _ e n
  refine ⟨fun y hy => ?_, fun hl => ⟨xs, .inl (.inl e'), ?_⟩⟩
  · unfold enumD at hy
    rw [List.getElem?_map, List.getElem?_zipIdx] at hy
    cases hc : ds[i]? with
    | none => rw [hc] at hy; cases hy
    | some c =>
      rw [hc] at hy
      cases hy
      obtain ⟨v, k1, k2⟩ := (d.g g).get hc
      refine ⟨⟨xs, v, .inl (.inl e'), k1⟩, fun x H2 hx => ?_⟩
      obtain ⟨T, v', rfl, hT, rfl, hx⟩ := hx
      have q1 := hx xs (.inl (.inl e'))
      rw [k1] at q1; cases q1
      have := dx_new2 hf hT (.int (i : Nat)) k2
      simpa using this
  · unfold enumD at hl
    rw [d.length]
    simpa using hl
theorem im_enum {a : Expr} {elts : List Expr} {kk : Nat} (ha : AM X [a] ms) (hm : X.mg "enumerate" = none) (hg : Gl X "enumerate" := by rfl) (hs : starEach [a] X.env = [(false, eval a X.env)] := by rfl) :
    IM X (.Tuple elts kk tpos) (.Call (.Name "enumerate" p) [a] [] pos) (mEnum ms) := by
  refine ⟨fun ρ k k' w q => ha.mono ρ _ _ (fun ds ρ1 q1 => ?_) q, pi_weak (pi_enum hg hm ha.run hs) ?_⟩
  · split at q1
    · exact w _ _ q1
    · exact q1.elim
  · rintro σ H Q ⟨G, loc, ρ, R, q⟩
    refine ⟨G, loc, ρ, R, ha.mono ρ _ _ (fun ds ρ1 q1 vs H1 R1 g1 d1 => ?_) q⟩
    split at q1
    · obtain ⟨v, rfl, dv⟩ := dx_one d1
      obtain ⟨p1, xs, rfl, e1, n1, d1⟩ := dv.sql
      exact ⟨p1, xs, rfl, .inl (.inl e1), q1 _ _ R1 g1 (gives_enum n1 e1 d1)⟩
    · exact q1.elim
end

/-! ### for, while -/
/-- what is wanted behind a loop's body -/
def loopK (k : SK) (nx : List Slot → Prop) : SK := { nx := nx, rt := k.rt, bk := k.nx, ct := nx }
def forLoop (g : GMn) (body : SMon) (k : SK) : List D → List Slot → Prop
  | [], ρ => k.nx ρ
  | d :: ds, ρ => g d ρ fun ρ1 => body (loopK k (forLoop g body k ds)) ρ1
def sFor (mi : M (List D)) (g : GMn) (body : SMon) : SMon := fun k ρ => mi ρ fun ds ρ1 => forLoop g body k ds ρ1
def whLoop (c : M Bool) (body : SMon) (k : SK) : Nat → List Slot → Prop
  | 0, _ => False
  | n + 1, ρ => c ρ fun b ρ1 => if b = true then body (loopK k (whLoop c body k n)) ρ1 else k.nx ρ1
def sWhile (c : M Bool) (body : SMon) : SMon := fun k ρ => ∃ n, whLoop c body k n ρ
theorem mono_forLoop {g : GMn} {body : SMon} (hg : ∀ d ρ (k k' : List Slot → Prop), (∀ ρ', k ρ' → k' ρ') → g d ρ k → g d ρ k') (hb : SMono body) {k k' : SK} (l : SK.le k k') : ∀ (ds : List D) (ρ : List Slot), forLoop g body k ds ρ → forLoop g body k' ds ρ
  | [], ρ, q => l.nx ρ q
  | d :: ds, ρ, q => hg d ρ _ _ (fun ρ1 q1 => hb (loopK k (forLoop g body k ds)) (loopK k' (forLoop g body k' ds)) ρ1 ⟨fun ρ2 q2 => mono_forLoop hg hb l ds ρ2 q2, l.rt, l.nx, fun ρ2 q2 => mono_forLoop hg hb l ds ρ2 q2⟩ q1) q
theorem mono_whLoop {c : M Bool} {body : SMon} (hc : Mono c) (hb : SMono body) {k k' : SK} (l : SK.le k k') : ∀ (n : Nat) (ρ : List Slot), whLoop c body k n ρ → whLoop c body k' n ρ
  | 0, _, q => q.elim
  | n + 1, ρ, q => hc ρ _ _ (fun b ρ1 q1 => by
    cases b with
    | true => rw [if_pos rfl] at q1 ⊢; exact hb (loopK k (whLoop c body k n)) (loopK k' (whLoop c body k' n)) ρ1 ⟨fun ρ2 q2 => mono_whLoop hc hb l n ρ2 q2, l.rt, l.nx, fun ρ2 q2 => mono_whLoop hc hb l n ρ2 q2⟩ q1
    | false => rw [if_neg Bool.false_ne_true] at q1 ⊢; exact l.nx _ q1) q
section
variable {X : Cx} {tg iter : Expr} {body : List Stmt} {mi : M (List D)} {g : GMn} {mb : SMon} {pos : Pos}
theorem sm_for (vs : List Nat) (hp : PassesOwn (model X.prog X.w) X.A X.env X.xe) (hc : X.calm = true) (hi : IM X tg iter mi) (hg : GM X vs tg g) (hb : BM X body mb) (hs : ∀ x, foldedSetIterable iter X.env x = pure x := by intro _; rfl) :
    SM X (.For tg iter body [] pos) (sFor mi g mb) := by
  refine ⟨fun k k' ρ l q => hi.mono ρ _ _ (fun ds ρ1 q1 => mono_forLoop hg.mono hb.mono l ds ρ1 q1) q, ps_weak (ps_for hp hc hi.run hg.run hb.run hs) ?_⟩
  rintro E σ H ⟨G, loc, ρ, k, R, q, l1, l2, l3, l4⟩
  refine ⟨G, loc, ρ, R, hi.mono ρ _ _ (fun ds ρ1 q1 J H1 R1 g1 gv => ?_) q⟩
  refine ⟨fun i m σ2 H2 => ∃ loc2 ρ2, m = ds.length - i ∧ Rep X.K G ρ2 loc2 σ2 H2 ∧ Grow (Fb G.fb ρ1 loc) (Fb G.fb ρ2 loc2) H1 H2 ∧ forLoop g mb k (ds.drop i) ρ2, ⟨_, loc, ρ1, rfl, R1, Grow.refl, by simpa using q1⟩, ?_⟩
  rintro i m σ2 H2 ⟨loc2, ρ2, hm, R2, g2, q2⟩
  obtain ⟨gv1, gv2⟩ := gv i _ H2 g2 R2.fbE
  cases hd : ds[i]? with
  | none =>
    have hl : ds.length ≤ i := List.getElem?_eq_none_iff.mp hd
    rw [List.drop_eq_nil_of_le hl] at q2
    exact .inl ⟨gv2 hl, l1 _ _ _ _ R2 (g1.trans g2) q2⟩
  | some d =>
    obtain ⟨hl, hd'⟩ := List.getElem?_eq_some_iff.mp hd
    have e : ds.drop i = d :: ds.drop (i + 1) := by rw [← hd']; exact List.drop_eq_getElem_cons hl
    rw [e] at q2
    obtain ⟨go, yl⟩ := gv1 d hd
    refine .inr ⟨go, fun σ3 H3 => ∃ loc3 ρ3, Rep X.K G ρ3 loc3 σ3 H3 ∧ Grow (Fb G.fb ρ1 loc) (Fb G.fb ρ3 loc3) H1 H3 ∧ forLoop g mb k (ds.drop (i + 1)) ρ3, fun σ3 H3 ⟨loc3, ρ3, R3, g3, q3⟩ => ⟨ds.length - (i + 1), by omega, loc3, ρ3, rfl, R3, g3, q3⟩, fun x H3 y3 => ?_⟩
    obtain ⟨m3, d3⟩ := yl x H3 y3
    refine ⟨G, loc2, ρ2, d, R2.more m3, d3, hg.mono _ _ _ _ (fun ρ4 q4 σ4 H4 R4 g4 _ => ?_) q2⟩
    have g5 := g2.trans ((more_grow m3).trans g4)
    have ln : Lands X.K G loc2 ρ4 H4 (forLoop g mb k (ds.drop (i + 1))) (fun σ3 H3 => ∃ loc3 ρ3, Rep X.K G ρ3 loc3 σ3 H3 ∧ Grow (Fb G.fb ρ1 loc) (Fb G.fb ρ3 loc3) H1 H3 ∧ forLoop g mb k (ds.drop (i + 1)) ρ3) :=
      fun ρ6 loc6 σ6 H6 R6 g6 q6 => ⟨loc6, ρ6, R6, g5.trans g6, q6⟩
    exact ⟨G, loc2, ρ4, _, R4, q4, ln, l2.on (g1.trans g5), l1.on (g1.trans g5), ln⟩
theorem sm_while {c : Expr} {mc : M Bool} (hp : PassesOwn (model X.prog X.w) X.A X.env X.xe) (hc : TM X c mc) (hb : BM X body mb) : SM X (.While c body [] pos) (sWhile mc mb) := by
  refine ⟨fun k k' ρ l ⟨n, q⟩ => ⟨n, mono_whLoop hc.mono hb.mono l n ρ q⟩, ps_weak (ps_while hp hc.run hb.run) ?_⟩
  rintro E σ H ⟨G, loc, ρ, k, R, ⟨n, q⟩, l1, l2, l3, l4⟩
  refine ⟨fun m σ2 H2 => ∃ loc2 ρ2, Rep X.K G ρ2 loc2 σ2 H2 ∧ Grow (Fb G.fb ρ loc) (Fb G.fb ρ2 loc2) H H2 ∧ whLoop mc mb k m ρ2, ⟨n, loc, ρ, R, Grow.refl, q⟩, ?_⟩
  rintro m σ2 H2 ⟨loc2, ρ2, R2, g2, q2⟩
  cases m with
  | zero => exact q2.elim
  | succ m =>
    refine ⟨G, loc2, ρ2, R2, hc.mono _ _ _ (fun b ρ3 q3 H3 R3 g3 => ?_) q2⟩
    cases b with
    | false =>
      rw [if_neg Bool.false_ne_true] at q3 ⊢
      exact l1 _ _ _ _ R3 (g2.trans g3) q3
    | true =>
      rw [if_pos rfl] at q3 ⊢
      refine ⟨fun σ4 H4 => ∃ loc4 ρ4, Rep X.K G ρ4 loc4 σ4 H4 ∧ Grow (Fb G.fb ρ loc) (Fb G.fb ρ4 loc4) H H4 ∧ whLoop mc mb k m ρ4, fun σ4 H4 z => ⟨m, Nat.lt_succ_self m, z⟩, ?_⟩
      have ln : Lands X.K G loc2 ρ3 H3 (whLoop mc mb k m) (fun σ4 H4 => ∃ loc4 ρ4, Rep X.K G ρ4 loc4 σ4 H4 ∧ Grow (Fb G.fb ρ loc) (Fb G.fb ρ4 loc4) H H4 ∧ whLoop mc mb k m ρ4) :=
        fun ρ6 loc6 σ6 H6 R6 g6 q6 => ⟨loc6, ρ6, R6, (g2.trans g3).trans g6, q6⟩
      exact ⟨G, loc2, ρ3, _, R3, q3, ln, l2.on (g2.trans g3), l1.on (g2.trans g3), ln⟩
end
end DL

namespace DL
open PySem L2

/-! ### list comprehensions -/
def wipeS (ρ : List Slot) : List Nat → List Slot
  | [] => ρ
  | v :: vs => (wipeS ρ vs).set v .non
theorem wipeS_len (ρ : List Slot) : ∀ vs : List Nat, (wipeS ρ vs).length = ρ.length
  | [] => rfl
  | v :: vs => by unfold wipeS; rw [List.length_set, wipeS_len ρ vs]
theorem wipeS_get {ρ : List Slot} {i : Nat} {s : Slot} : ∀ {vs : List Nat}, (wipeS ρ vs)[i]? = some s → s ≠ .non → ρ[i]? = some s ∧ i ∉ vs
  | [], h, _ => ⟨h, by simp⟩
  | v :: vs, h, n => by
    unfold wipeS at h
    rcases set_get h with ⟨_, q, _⟩ | ⟨hv, q⟩
    · exact (n q).elim
    · obtain ⟨a, b⟩ := wipeS_get q n
      exact ⟨a, fun z => by
        rcases List.mem_cons.mp z with z | z
        · exact hv z
        · exact b z⟩
theorem wipe_in {σ : L2.St} {i : Nat} : ∀ {vs : List Nat}, i ∈ vs → i < σ.length → (wipe σ vs)[i]? = some none
  | v :: vs, h, hl => by
    unfold wipe
    by_cases hv : v = i
    · subst hv
      exact List.getElem?_set_self (by rw [wipe_length]; exact hl)
    · rw [List.getElem?_set_ne hv]
      rcases List.mem_cons.mp h with e | e
      · exact (hv e.symm).elim
      · exact wipe_in e hl
theorem wipe_wipe (σ : L2.St) (vs : List Nat) : wipe (wipe σ vs) vs = wipe σ vs := by
  refine List.ext_getElem? fun i => ?_
  by_cases hi : i ∈ vs
  · by_cases hl : i < σ.length
    · rw [wipe_in hi hl, wipe_in hi (by rw [wipe_length]; exact hl)]
    · rw [List.getElem?_eq_none (by rw [wipe_length, wipe_length]; omega), List.getElem?_eq_none (by rw [wipe_length]; omega)]
  · rw [wipe_out hi]
section
variable {K : PySem.W.Frag} {G : Fr} {ρ : List Slot} {loc : Nat → Addr} {σ σ2 : L2.St} {H : Hp}
theorem Fb_wipe {fb : AS} {vs : List Nat} (a : Addr) (h : Fb fb (wipeS ρ vs) loc a) : Fb fb ρ loc a := by
  rcases h with h | z | ⟨j, b, ds, e, l⟩
  · exact .inl h
  · exact .inr (.inl (Rw.sub (fun j v cs fs q => (wipeS_get q (fun z => nomatch z)).1) z))
  · exact .inr (.inr ⟨j, b, ds, (wipeS_get e (fun z => nomatch z)).1, l⟩)
theorem Rep.wipe {vs : List Nat} (R : Rep K G ρ loc σ2 H) (h : L2.wipe σ2 vs = L2.wipe σ vs) : Rep K G (wipeS ρ vs) loc σ H := by
  have sub : ∀ a, Fb G.fb (wipeS ρ vs) loc a → Fb G.fb ρ loc a := fun a => Fb_wipe a
  have hl : σ.length = σ2.length := by rw [← wipe_length σ vs, ← h, wipe_length]
  have at' : ∀ i, i ∉ vs → σ[i]? = σ2[i]? := fun i hi => by rw [← wipe_out (σ := σ) hi, ← h, wipe_out hi]
  refine ⟨by rw [wipeS_len, hl]; exact R.len, fun j d q => ?_, fun j b es q => ?_, fun j l b c es fs q q' z => ?_, fun j es q => ?_, fun j es q => ?_, R.ext, R.fbS, R.bwS, R.raw.step (fun j v cs fs q => ?_) (fun j b es q => .inl ⟨b, es, (wipeS_get q (fun z => nomatch z)).1, rfl⟩) (fun b o e n => ⟨e, fun z => n (sub b z)⟩) (fun _ _ _ e => e) fun _ _ a b => ⟨a, b⟩⟩
  · obtain ⟨q1, q2⟩ := wipeS_get q (fun z => nomatch z)
    obtain ⟨v, a, b⟩ := R.dat j d q1
    exact ⟨v, by rw [at' j q2]; exact a, b.weak sub⟩
  · obtain ⟨q1, q2⟩ := wipeS_get q (fun z => nomatch z)
    obtain ⟨a, ws, c, d⟩ := R.own j b es q1
    exact ⟨by rw [at' j q2]; exact a, ws, c, d.weak sub⟩
  · exact R.apart j l b c es fs (wipeS_get q (fun z => nomatch z)).1 (wipeS_get q' (fun z => nomatch z)).1 z
  · exact R.brw j es (wipeS_get q (fun z => nomatch z)).1
  · exact R.new j es (wipeS_get q (fun z => nomatch z)).1
  · obtain ⟨q1, q2⟩ := wipeS_get q (fun z => nomatch z)
    exact ⟨q1, at' j q2⟩
/-- the list at p, that nothing leads to, is written -/
theorem Rep.wrP {p : Addr} {o : HO} (R : Rep K (G.plus p) ρ loc σ H) (h0 : G.H0 p = none) (np : ¬ G.fb p) (bs : ∀ b, G.bw b → G.fb b) : Rep K (G.plus p) ρ loc σ (upd H p o) ∧ Grow (Fb (G.plus p).fb ρ loc) (Fb (G.plus p).fb ρ loc) H (upd H p o) := by
  have g : Grow (Fb (G.plus p).fb ρ loc) (Fb (G.plus p).fb ρ loc) H (upd H p o) := fun b u e n => ⟨by rw [upd_ne fun z => n (.inl (.inr z))]; exact e, n⟩
  refine ⟨⟨R.len, fun i d e => ?_, fun i b ds e => ?_, R.apart, R.brw, R.new, fun b u e n => ?_, fun b e => ?_, R.bwS, R.raw.step (fun _ _ _ _ e => ⟨e, rfl⟩) (fun j b ds e => .inl ⟨b, ds, e, rfl⟩) g (fun a u z e => by rw [upd_ne fun y => (R.raw.here z).2.2 (.inr y)]; exact e) fun _ _ a b => ⟨a, b⟩⟩, g⟩
  · obtain ⟨v, h1, h2⟩ := R.dat i d e
    exact ⟨v, h1, h2.g g⟩
  · obtain ⟨h1, vs, h2, h3⟩ := R.own i b ds e
    refine ⟨h1, vs, ?_, h3.g g⟩
    rw [upd_ne fun z => ?_]; exact h2
    cases b with
    | false => exact (R.new i ds e).2 (.inr z)
    | true => exact np (z ▸ bs _ (R.brw i ds e).2)
  · rw [upd_ne fun z => by rw [z] at e; rw [show (G.plus p).H0 p = none from h0] at e; cases e]
    exact R.ext b u e n
  · by_cases hb : b = p
    · rw [hb]; exact ⟨_, upd_same⟩
    · obtain ⟨u, q⟩ := R.fbS b e
      exact ⟨u, by rw [upd_ne hb]; exact q⟩
end
/-- the tests of a clause -/
structure TsM (X : Cx) (ifs : List Expr) (m : M Bool) : Prop where
  mono : Mono m
  run : PTs X ifs (TTof X.K m)
theorem tsm_nil {X : Cx} : TsM X [] (mPure true) := ⟨mono_pure, ⟨fun pins s σ H Q I q => pts_nil.run pins s σ H Q I (by
  obtain ⟨G, loc, ρ, R, q⟩ := q
  exact q H R Grow.refl)⟩⟩
theorem tsm_one {X : Cx} {c : Expr} {m : M Bool} (h : TM X c m) : TsM X [c] m := ⟨h.mono, pts_one h.run⟩
def lcLoop (g : GMn) (tt : M Bool) (te : M D) (vs : List Nat) (k : List D → List Slot → Prop) : List D → List D → List Slot → Prop
  | [], acc, ρ => k acc (wipeS ρ vs)
  | d :: ds, acc, ρ => g d ρ fun ρ1 => tt ρ1 fun b ρ2 => if b = true then te ρ2 fun e ρ3 => acc.length < sizeLine ∧ lcLoop g tt te vs k ds (acc ++ [e]) (wipeS ρ3 vs) else lcLoop g tt te vs k ds acc (wipeS ρ2 vs)
def mLc (mi : M (List D)) (g : GMn) (tt : M Bool) (te : M D) (vs : List Nat) : M (List D) := fun ρ k => mi ρ fun ds ρ1 => lcLoop g tt te vs k ds [] (wipeS ρ1 vs)
theorem mono_lcLoop {g : GMn} {tt : M Bool} {te : M D} {vs : List Nat} (hg : ∀ d ρ (k k' : List Slot → Prop), (∀ ρ', k ρ' → k' ρ') → g d ρ k → g d ρ k') (ht : Mono tt) (he : Mono te) {k k' : List D → List Slot → Prop} (w : ∀ a ρ, k a ρ → k' a ρ) :
    ∀ (ds acc : List D) (ρ : List Slot), lcLoop g tt te vs k ds acc ρ → lcLoop g tt te vs k' ds acc ρ
  | [], acc, ρ, q => w _ _ q
  | d :: ds, acc, ρ, q => hg d ρ _ _ (fun ρ1 q1 => ht ρ1 _ _ (fun b ρ2 q2 => by
    cases b with
    | true => rw [if_pos rfl] at q2 ⊢; exact he ρ2 _ _ (fun e ρ3 q3 => ⟨q3.1, mono_lcLoop hg ht he w ds _ _ q3.2⟩) q2
    | false => rw [if_neg Bool.false_ne_true] at q2 ⊢; exact mono_lcLoop hg ht he w ds _ _ q2) q1) q
theorem mono_lc {mi : M (List D)} {g : GMn} {tt : M Bool} {te : M D} {vs : List Nat} (hi : Mono mi) (hg : ∀ d ρ (k k' : List Slot → Prop), (∀ ρ', k ρ' → k' ρ') → g d ρ k → g d ρ k') (ht : Mono tt) (he : Mono te) : Mono (mLc mi g tt te vs) :=
  fun ρ k k' w q => hi ρ _ _ (fun ds ρ1 q1 => mono_lcLoop hg ht he w ds _ _ q1) q
/-- what the layer asks of a comprehension, by the slots -/
theorem lc_meets {K : PySem.W.Frag} {mi : M (List D)} {g : GMn} {tt : M Bool} {te : M D} {vs : List Nat} (hi : Mono mi) (hg : ∀ d ρ (k k' : List Slot → Prop), (∀ ρ', k ρ' → k' ρ') → g d ρ k → g d ρ k') (ht : Mono tt) (he : Mono te)
    {σ : L2.St} {H : Hp} {Q : VK} (h : TNof K (mLc mi g tt te vs) σ H Q) : tLc (TIof K mi) (TGof K vs g) (TTof K tt) (TEof K te) vs σ H Q := by
  obtain ⟨G, loc, ρ, R, q⟩ := h
  refine ⟨G, loc, ρ, R, hi ρ _ _ (fun ds ρ1 q1 J H1 R1 g1 gv D hD => ?_) q⟩
  obtain ⟨h0, np, _, RD, gD, _⟩ := new_list (xs := []) R1 (.nil : DxAll K H1 (Fb G.fb ρ1 loc) [] []) hD
  have bs := R.bwS
  refine ⟨fun i m H2 => ∃ ρ2 acc ws, m = ds.length - i ∧ Rep K (G.plus D) ρ2 loc (wipe σ vs) H2 ∧ H2 D = some (.lst ws) ∧ DxAll K H2 (Fb (G.plus D).fb ρ2 loc) ws acc ∧ Grow (Fb G.fb ρ1 loc) (Fb (G.plus D).fb ρ2 loc) H1 H2 ∧
    lcLoop g tt te vs (fun ds ρ' => ∀ p vs H', G.H0 p = none → ¬ G.fb p → H' p = some (.lst vs) → Rep K (G.plus p) ρ' loc σ H' → Grow (Fb G.fb ρ loc) (Fb (G.plus p).fb ρ' loc) H H' → DxAll K H' (Fb (G.plus p).fb ρ' loc) vs ds → Q (.ref p) H') (ds.drop i) acc ρ2,
    ⟨_, wipeS ρ1 vs, [], [], rfl, RD.wipe (wipe_wipe σ vs).symm, upd_same, .nil, gD.weak fun b z => Fb_wipe b z, by simpa using q1⟩, ?_⟩
  rintro i m H2 ⟨ρ2, acc, ws, hm, R2, e2, d2, g2, q2⟩
  obtain ⟨gv1, gv2⟩ := gv i _ H2 g2 R2.fbE
  cases hd : ds[i]? with
  | none =>
    have hl : ds.length ≤ i := List.getElem?_eq_none_iff.mp hd
    rw [List.drop_eq_nil_of_le hl] at q2
    refine .inl ⟨gv2 hl, q2 D ws H2 h0 np e2 (R2.wipe (wipe_wipe σ vs)) ((g1.trans g2).weak fun b z => Fb_wipe b z) (d2.weak fun b z => Fb_wipe b z)⟩
  | some d =>
    obtain ⟨hl, hd'⟩ := List.getElem?_eq_some_iff.mp hd
    have e : ds.drop i = d :: ds.drop (i + 1) := by rw [← hd']; exact List.drop_eq_getElem_cons hl
    rw [e] at q2
    obtain ⟨go, yl⟩ := gv1 d hd
    refine .inr ⟨go, fun H3 => ∃ ρ3 acc ws, Rep K (G.plus D) ρ3 loc (wipe σ vs) H3 ∧ H3 D = some (.lst ws) ∧ DxAll K H3 (Fb (G.plus D).fb ρ3 loc) ws acc ∧ Grow (Fb G.fb ρ1 loc) (Fb (G.plus D).fb ρ3 loc) H1 H3 ∧
      lcLoop g tt te vs (fun ds ρ' => ∀ p vs H', G.H0 p = none → ¬ G.fb p → H' p = some (.lst vs) → Rep K (G.plus p) ρ' loc σ H' → Grow (Fb G.fb ρ loc) (Fb (G.plus p).fb ρ' loc) H H' → DxAll K H' (Fb (G.plus p).fb ρ' loc) vs ds → Q (.ref p) H') (ds.drop (i + 1)) acc ρ3,
      fun H3 ⟨ρ3, acc, ws, a1, a2, a3, a4, a5⟩ => ⟨_, by omega, ρ3, acc, ws, rfl, a1, a2, a3, a4, a5⟩, fun x H3 y3 => ?_⟩
    obtain ⟨m3, d3⟩ := yl x H3 y3
    have R3 := (R2.more m3).pin (m3 _ _ e2)
    refine ⟨G.pin D (.lst ws), loc, ρ2, d, R3, d3, hg _ _ _ _ (fun ρ4 q4 σ4 H4 R4 g4 w4 => ⟨w4.trans (wipe_wipe σ vs), ?_⟩) q2⟩
    refine ⟨G.pin D (.lst ws), loc, ρ4, R4, ht _ _ _ (fun b ρ5 q5 H5 R5 g5 => ?_) q4⟩
    have w4' : L2.wipe σ4 vs = L2.wipe (L2.wipe σ vs) vs := w4
    have g25 : Grow (Fb (G.plus D).fb ρ2 loc) (Fb (G.plus D).fb ρ5 loc) H2 H5 := (more_grow m3).trans (g4.trans g5)
    cases b with
    | false =>
      rw [if_neg Bool.false_ne_true] at q5
      show if false = true then _ else _
      rw [if_neg Bool.false_ne_true]
      obtain ⟨R6, e6⟩ := R5.unpin h0 fun z => np (bs _ z)
      exact ⟨wipeS ρ5 vs, acc, ws, R6.wipe w4', e6, (d2.g g25).weak fun b z => Fb_wipe b z, (g2.trans g25).weak fun b z => Fb_wipe b z, q5⟩
    | true =>
      rw [if_pos rfl] at q5
      show if true = true then _ else _
      rw [if_pos rfl]
      refine ⟨G.pin D (.lst ws), loc, ρ5, R5, he _ _ _ (fun y ρ6 q6 v H6 R6 g6 d6 => ?_) q5⟩
      have g26 : Grow (Fb (G.plus D).fb ρ2 loc) (Fb (G.plus D).fb ρ6 loc) H2 H6 := g25.trans g6
      obtain ⟨R7, e7⟩ := R6.unpin h0 fun z => np (bs _ z)
      obtain ⟨R8, g8⟩ := R7.wrP (o := .lst (ws ++ [v])) h0 np bs
      refine ⟨ws, e7, by rw [d2.length]; exact q6.1, wipeS ρ6 vs, acc ++ [y], ws ++ [v], R8.wipe w4', upd_same, ?_, ((g2.trans g26).trans g8).weak fun b z => Fb_wipe b z, q6.2⟩
      exact (((d2.g g26).append (.cons d6 .nil)).g g8).weak fun b z => Fb_wipe b z
section
variable {X : Cx} {elt tg iter : Expr} {ifs : List Expr} {scope : Scope} {pos spos : Pos} {mi : M (List D)} {g : GMn} {tt : M Bool} {te : M D}
theorem nm_lc (own : List (Str × Nat)) (hc : X.calm = true) (hN : X.N.Nodup) (hi : IM X tg iter mi) (ok : blkC X.N X.env.scope scope own = true)
    (hg : ∀ (s : Shared) (H : Hp) (C : Addr) (cl : List (Str × Addr)) (fp : List Addr), GM (X.blk s H scope (compEnvC scope cl C X.env) fp) (own.map (·.2)) tg g)
    (ht : ∀ (s : Shared) (H : Hp) (C : Addr) (cl : List (Str × Addr)) (fp : List Addr), TsM (X.blk s H scope (compEnvC scope cl C X.env) fp) ifs tt)
    (he : ∀ (s : Shared) (H : Hp) (C : Addr) (cl : List (Str × Addr)) (fp : List Addr), EM (X.blk s H scope (compEnvC scope cl C X.env) fp) elt te) (hs : ∀ x, foldedSetIterable iter X.env x = pure x := by intro _; rfl) :
    NM X (.ListComp elt [⟨tg, iter, ifs, 0⟩] scope pos) (mLc mi g tt te (own.map (·.2))) := by
  have z1 := (hg X.s_0 X.H_0 0 [] []).mono
  have z2 := (ht X.s_0 X.H_0 0 [] []).mono
  have z3 := (he X.s_0 X.H_0 0 [] []).mono
  exact ⟨mono_lc hi.mono z1 z2 z3, pe_weak (pe_lc (wi := TIof X.K mi) (g := TGof X.K (own.map (·.2)) g) (tt := TTof X.K tt) (te := TEof X.K te) hc hN hi.run (blkOk_by ok) (fun s H C cl fp => (hg s H C cl fp).run) (fun s H C cl fp => (ht s H C cl fp).run) (fun s H C cl fp => (he s H C cl fp).run) hs) fun σ H Q h => lc_meets hi.mono z1 z2 z3 h⟩
theorem sm_setLc (own : List (Str × Nat)) {i : Nat} {y : Str} {py : Pos} (hc : X.calm = true) (hN : X.N.Nodup) (hy : X.N[i]? = some y) (hyl : X.env.scope.names.lookup y = some .local)
    (hsw : swapsWith (.ListComp elt [⟨tg, iter, ifs, 0⟩] scope pos) (some (.Name y py)) spos.line X.env = pure true) (hi : IM X tg iter mi) (ok : blkC X.N X.env.scope scope own = true)
    (hg : ∀ (s : Shared) (H : Hp) (C : Addr) (cl : List (Str × Addr)) (fp : List Addr), GM (X.blk s H scope (compEnvC scope cl C X.env) fp) (own.map (·.2)) tg g)
    (ht : ∀ (s : Shared) (H : Hp) (C : Addr) (cl : List (Str × Addr)) (fp : List Addr), TsM (X.blk s H scope (compEnvC scope cl C X.env) fp) ifs tt)
    (he : ∀ (s : Shared) (H : Hp) (C : Addr) (cl : List (Str × Addr)) (fp : List Addr), EM (X.blk s H scope (compEnvC scope cl C X.env) fp) elt te) (hs : ∀ x, foldedSetIterable iter X.env x = pure x := by intro _; rfl) :
    SM X (.Assign [.Name y py] (.ListComp elt [⟨tg, iter, ifs, 0⟩] scope pos) spos) (sSetN i (mLc mi g tt te (own.map (·.2)))) := by
  have z1 := (hg X.s_0 X.H_0 0 [] []).mono
  have z2 := (ht X.s_0 X.H_0 0 [] []).mono
  have z3 := (he X.s_0 X.H_0 0 [] []).mono
  have mm := mono_lc (vs := own.map (·.2)) hi.mono z1 z2 z3
  refine ⟨fun k k' ρ l q => mm ρ _ _ (fun _ ρ1 q1 => l.nx _ q1) q, ps_weak (ps_setLc (wi := TIof X.K mi) (g := TGof X.K (own.map (·.2)) g) (tt := TTof X.K tt) (te := TEof X.K te) hc hN hy hyl hsw hi.run (blkOk_by ok) (fun s H C cl fp => (hg s H C cl fp).run) (fun s H C cl fp => (ht s H C cl fp).run) (fun s H C cl fp => (he s H C cl fp).run) hs) ?_⟩
  rintro E σ H ⟨G, loc, ρ, k, R, q, l1, l2, l3, l4⟩
  refine lc_meets hi.mono z1 z2 z3 ⟨G, loc, ρ, R, mm ρ _ _ (fun ds ρ1 q1 p vs H1 h0 n e1 R1 g1 d1 => l1 _ _ _ _ (R1.putN R.bwS h0 n i e1 d1) (g1.weak fun b z => Fb_putN b z) q1) q⟩
end
end DL

namespace DL
open PySem L2

/-! ### methods of a text -/
def strsOf : List D → Option (List Str)
  | [] => some []
  | .str s :: ds => (strsOf ds).map (s :: ·)
  | _ => none
theorem strsOf_eq : ∀ {xs : List D} {bs : List Str}, strsOf xs = some bs → xs = bs.map PyData.str
  | [], bs, h => by cases h; rfl
  | d :: ds, bs, h => by
    cases d <;> first | (cases h; done) | skip
    rename_i b
    unfold strsOf at h
    cases q : strsOf ds with
    | none => rw [q] at h; cases h
    | some cs =>
      rw [q] at h
      cases h
      rw [strsOf_eq q]; rfl
theorem strsOf_map (bs : List Str) : strsOf (bs.map PyData.str) = some bs := by
  induction bs with
  | nil => rfl
  | cons b bs ih => show (strsOf (bs.map PyData.str)).map _ = _; rw [ih]; rfl
def mMeth (p : Str → PC1) (m : M D) (ms : M (List D)) : M D := fun ρ k => m ρ fun d ρ1 => match d with
  | .str z => ms ρ1 fun ds ρ2 => p z ds fun r => k r ρ2
  | _ => False
theorem mono_meth {p : Str → PC1} {m : M D} {ms : M (List D)} (mp : ∀ z ds, Pm1 (p z ds)) (a : Mono m) (b : Mono ms) : Mono (mMeth p m ms) := fun ρ k k' w q => a ρ _ _ (fun d ρ1 q1 => by
  cases d <;> first | exact q1.elim | exact b ρ1 _ _ (fun ds ρ2 q2 => mp _ _ _ _ (fun r q3 => w _ _ q3) q2) q1) q
def PrimM (K : PySem.W.Frag) (r : V → List V → Hp → VK → Prop) (p : Str → PC1) : Prop := ∀ (F : AS) (H : Hp) (z : Str) (vs : List V) (ds : List D) (Q : VK), (∀ c, F c → ∃ o, H c = some o) → DxAll K H F vs ds → p z ds (Kd K F H Q) → r (.str z) vs H Q
def joinD (z : Str) : PC1
  | [.list xs], k => ∃ ys, strsOf xs = some ys ∧ (ys.map (·.length)).sum + ys.length * z.length ≤ 16777216 ∧ k (.str (Txt.join z ys))
  | _, _ => False
def indexD (z : Str) : PC1
  | [.str b], k => ∃ i rest, Builtin.Str.occurrences z b 0 z.length 1 = i :: rest ∧ k (.int (i : Nat))
  | _, _ => False
def startsD (z : Str) : PC1
  | [.str b], k => k (.bool (Txt.startswith z b))
  | _, _ => False
def isdigitD (z : Str) : PC1
  | [], k => k (.bool (Txt.isdigit z))
  | _, _ => False
theorem pm_join (z : Str) (ds : List D) : Pm1 (joinD z ds) := fun k k' w q => by
  unfold joinD at q ⊢
  split at q
  · obtain ⟨ys, a, b, c⟩ := q; exact ⟨ys, a, b, w _ c⟩
  · exact q.elim
theorem pm_index (z : Str) (ds : List D) : Pm1 (indexD z ds) := fun k k' w q => by
  unfold indexD at q ⊢
  split at q
  · obtain ⟨ys, a, b, c⟩ := q; exact ⟨ys, a, b, w _ c⟩
  · exact q.elim
theorem pm_starts (z : Str) (ds : List D) : Pm1 (startsD z ds) := fun k k' w q => by
  unfold startsD at q ⊢
  split at q
  · exact w _ q
  · exact q.elim
theorem pm_isdigit (z : Str) (ds : List D) : Pm1 (isdigitD z ds) := fun k k' w q => by
  unfold isdigitD at q ⊢
  split at q
  · exact w _ q
  · exact q.elim
section
variable {K : PySem.W.Frag}
theorem prim_join : PrimM K (fun x xs H Q => ∃ a p, ∃ ys : List Str, x = .str a ∧ xs = [.ref p] ∧ (SqL K H p (ys.map V.str) ∨ SqT K H p (ys.map V.str)) ∧ (ys.map (·.length)).sum + ys.length * a.length ≤ 16777216 ∧ Q (.str (Txt.join a ys)) H) joinD := by
  intro F H z vs ds Q hF hd h
  unfold joinD at h
  split at h
  · obtain ⟨ys, e, l, q⟩ := h
    obtain ⟨v, rfl, dv⟩ := dx_one hd
    obtain ⟨p, xs, rfl, e1, n1, d1⟩ := dv.sql
    rw [strsOf_eq e] at d1
    rw [d1.strs] at e1
    exact ⟨z, p, ys, rfl, rfl, .inl (.inl (.inl e1)), l, q.now (.str _)⟩
  · exact h.elim
theorem prim_index : PrimM K (fun x xs H Q => ∃ a b i rest, x = .str a ∧ xs = [.str b] ∧ Builtin.Str.occurrences a b 0 a.length 1 = i :: rest ∧ Q (.int (i : Nat)) H) indexD := by
  intro F H z vs ds Q hF hd h
  unfold indexD at h
  split at h
  · obtain ⟨i, rest, e, q⟩ := h
    obtain ⟨v, rfl, dv⟩ := dx_one hd
    cases dv
    exact ⟨z, _, i, rest, rfl, rfl, e, q.now (.int _)⟩
  · exact h.elim
theorem prim_starts : PrimM K (fun x xs H Q => ∃ a b, x = .str a ∧ xs = [.str b] ∧ Q (.bl (Txt.startswith a b)) H) startsD := by
  intro F H z vs ds Q hF hd h
  unfold startsD at h
  split at h
  · obtain ⟨v, rfl, dv⟩ := dx_one hd
    cases dv
    exact ⟨z, _, rfl, rfl, h.now (.bl _)⟩
  · exact h.elim
theorem prim_isdigit : PrimM K (fun x xs H Q => ∃ a, x = .str a ∧ xs = [] ∧ True ∧ Q (.bl (Txt.isdigit a)) H) isdigitD := by
  intro F H z vs ds Q hF hd h
  unfold isdigitD at h
  split at h
  · cases hd
    exact ⟨z, rfl, rfl, trivial, h.now (.bl _)⟩
  · exact h.elim
end
section
variable {X : Cx} {o e : Expr} {es : List Expr} {m : M D} {ms : M (List D)} {name : Str} {id : String} {r : V → List V → Hp → VK → Prop} {p : Str → PC1} {apos cpos : Pos}
theorem em_meth (slot : PySem.Slot "str" name id) (hty : typeOf (.builtin id) = pure (.type "method_descriptor")) (hm : MtR X id r) (hp : PrimM X.K r p) (mp : ∀ z ds, Pm1 (p z ds)) (ho : EM X o m) (ha : AM X (e :: es) ms)
    (hbase : attributeBase o name X.env (eval o X.env) = eval o X.env := by rfl)
    (hfew : ((backTo cpos (starEach (e :: es) X.env)).all (fun x => !x.1) && (backToKw cpos (keywordEach [] X.env)).all (fun x => x.1.isSome)
      && decide ((e :: es).length + ([] : List Keyword).length + (if ([] : List Keyword).isEmpty then 0 else 1) < 30)) = true := by rfl)
    (hline : (apos.endLine == cpos.line) = true := by rfl) (hs : starEach (e :: es) X.env = (false, eval e X.env) :: starEach es X.env := by rfl) (hplain : (backTo cpos (starEach es X.env)).any (·.1) = false := by rfl) :
    EM X (.Call (.Attribute o name apos) (e :: es) [] cpos) (mMeth p m ms) := by
  refine ⟨mono_meth mp ho.mono ha.mono, pe_weak (pe_bm PySem.F.plainAttrs_str slot hty hm ho.run ha.run hbase hfew hline hs hplain) ?_⟩
  rintro σ H Q ⟨G, loc, ρ, R, q⟩
  refine ⟨G, loc, ρ, R, ho.mono ρ _ _ (fun d ρ1 q1 v H1 R1 g1 d1 => ?_) q⟩
  cases d <;> first | exact (show False from q1).elim | skip
  cases d1
  refine ⟨rfl, G, loc, ρ1, R1, ha.mono ρ1 _ _ (fun ds ρ2 q2 vs H2 R2 g2 d2 => ?_) q1⟩
  exact hp (Fb G.fb ρ2 loc) H2 _ vs ds Q R2.fbE d2 (mp _ _ _ _ (fun r q3 w H3 m3 d3 => q3 w H3 (R2.more m3) ((g1.trans g2).trans (more_grow m3)) d3) q2)
theorem em_meth0 (slot : PySem.Slot "str" name id) (hty : typeOf (.builtin id) = pure (.type "method_descriptor")) (hm : MtR X id r) (hp : PrimM X.K r p) (mp : ∀ z ds, Pm1 (p z ds)) (ho : EM X o m)
    (hbase : attributeBase o name X.env (eval o X.env) = eval o X.env := by rfl) (hline : (apos.endLine == cpos.line) = true := by rfl) :
    EM X (.Call (.Attribute o name apos) [] [] cpos) (mMeth p m mNil) := by
  refine ⟨mono_meth mp ho.mono mono_pure, pe_weak (pe_bm0 PySem.F.plainAttrs_str slot hty hm ho.run hbase hline) ?_⟩
  rintro σ H Q ⟨G, loc, ρ, R, q⟩
  refine ⟨G, loc, ρ, R, ho.mono ρ _ _ (fun d ρ1 q1 v H1 R1 g1 d1 => ?_) q⟩
  cases d <;> first | exact (show False from q1).elim | skip
  cases d1
  refine ⟨rfl, ?_⟩
  exact hp (Fb G.fb ρ1 loc) H1 _ [] [] Q R1.fbE .nil (mp _ _ _ _ (fun r q3 w H3 m3 d3 => q3 w H3 (R1.more m3) (g1.trans (more_grow m3)) d3) (show p _ [] _ from q1))
theorem em_join (ho : EM X o m) (ha : AM X [e] ms)
    (hbase : attributeBase o "join" X.env (eval o X.env) = eval o X.env := by rfl)
    (hfew : ((backTo cpos (starEach [e] X.env)).all (fun x => !x.1) && (backToKw cpos (keywordEach [] X.env)).all (fun x => x.1.isSome)
      && decide ([e].length + ([] : List Keyword).length + (if ([] : List Keyword).isEmpty then 0 else 1) < 30)) = true := by rfl)
    (hline : (apos.endLine == cpos.line) = true := by rfl) (hs : starEach [e] X.env = (false, eval e X.env) :: starEach [] X.env := by rfl) (hplain : (backTo cpos (starEach [] X.env)).any (·.1) = false := by rfl) :
    EM X (.Call (.Attribute o "join" apos) [e] [] cpos) (mMeth joinD m ms) := em_meth PySem.F.slot_str_join PySem.F.type_str_join mt_join prim_join pm_join ho ha hbase hfew hline hs hplain
theorem em_index (ho : EM X o m) (ha : AM X [e] ms)
    (hbase : attributeBase o "index" X.env (eval o X.env) = eval o X.env := by rfl)
    (hfew : ((backTo cpos (starEach [e] X.env)).all (fun x => !x.1) && (backToKw cpos (keywordEach [] X.env)).all (fun x => x.1.isSome)
      && decide ([e].length + ([] : List Keyword).length + (if ([] : List Keyword).isEmpty then 0 else 1) < 30)) = true := by rfl)
    (hline : (apos.endLine == cpos.line) = true := by rfl) (hs : starEach [e] X.env = (false, eval e X.env) :: starEach [] X.env := by rfl) (hplain : (backTo cpos (starEach [] X.env)).any (·.1) = false := by rfl) :
    EM X (.Call (.Attribute o "index" apos) [e] [] cpos) (mMeth indexD m ms) := em_meth PySem.F.slot_str_index PySem.F.type_str_index mt_sindex prim_index pm_index ho ha hbase hfew hline hs hplain
end

/-! ### divmod -/
def divmodD : PC1
  | [.int i, .int j], k => CDiv i j ∧ k (.tuple [.int (i / j), .int (i % j)])
  | _, _ => False
theorem pm_divmod (ds : List D) : Pm1 (divmodD ds) := fun k k' w q => by
  unfold divmodD at q ⊢
  split at q
  · exact ⟨q.1, w _ q.2⟩
  · exact q.elim
theorem prim_divmod {K : PySem.W.Frag} : PrimC K (fun xs H Q => ∃ i j, xs = [.int i, .int j] ∧ CDiv i j ∧ ∀ p, H p = none → Q (.ref p) (upd H p (.tup [.int (i / j), .int (i % j)]))) divmodD := by
  intro F H vs ds Q hF hd h
  unfold divmodD at h
  split at h
  · obtain ⟨v, u, rfl, dv, du⟩ := dx_two hd
    cases dv
    cases du
    exact ⟨_, _, rfl, h.1, new_tup hF (.cons (.int _) (.cons (.int _) .nil)) h.2⟩
  · exact h.elim
section
variable {X : Cx} {p pos : Pos} {e e2 : Expr} {m : M (List D)}
theorem em_divmod (hm : X.mg "divmod" = none) (ha : AM X [e, e2] m) (hg : Gl X "divmod" := by rfl) (he : starEach [e, e2] X.env = (false, eval e X.env) :: starEach [e2] X.env := by rfl) (hpl : (backTo pos (starEach [e2] X.env)).any (·.1) = false := by rfl) : EM X (.Call (.Name "divmod" p) [e, e2] [] pos) (mCall divmodD m) :=
  em_callB call_divmod prim_divmod pm_divmod hg hm (by decide +kernel) ha (he := he) (hpl := hpl)
end

/-! ### a script: its length, its numbers, its slices -/
def scrI (d : D) : Option (List Int) := match d with
  | .dict (_ :: r) => r.mapM fun p => match p.2 with | .int n => some n | _ => none
  | _ => none
def mLenS (i : Nat) : M D := fun ρ k => ∃ ns, ρ[i]? = some (.dat (.dict (scrD ns))) ∧ k (.int (ns.length : Nat)) ρ
def mIxS (i : Nat) (m : M D) : M D := fun ρ k => ∃ ns, ρ[i]? = some (.dat (.dict (scrD ns))) ∧ m ρ fun d ρ1 => match d with
  | .int j => ∃ n, atI ns j = some n ∧ k (.int n) ρ1
  | _ => False
def mSlS (i : Nat) (l h : M (Option Int)) : M D := fun ρ k => ∃ ns, ρ[i]? = some (.dat (.dict (scrD ns))) ∧ l ρ fun lo ρ1 => h ρ1 fun hi ρ2 => k (.list ((cutL ns lo hi).map PyData.int)) ρ2
section
variable {X : Cx} {x : Str} {i : Nat} {p p2 pos : Pos} {b : Expr} {mb : M D} {lo hi : Option Expr} {l h : M (Option Int)}
theorem em_lenS (hv : PE X (.Name x p2) (tVar i)) (hm : X.mg "len" = none) (hg : Gl X "len" := by rfl) (he : starEach [.Name x p2] X.env = (false, eval (.Name x p2) X.env) :: starEach [] X.env := by rfl) (hpl : (backTo pos (starEach [] X.env)).any (·.1) = false := by rfl) :
    EM X (.Call (.Name "len" p) [.Name x p2] [] pos) (mLenS i) := by
  refine ⟨fun ρ k k' w ⟨ns, e, q⟩ => ⟨ns, e, w _ _ q⟩, pe_weak (pe_callB call_len hg hm PySem.boot_len (pa_cons hv pa_nil he) (he := he) (hpl := hpl)) ?_⟩
  rintro σ H Q ⟨G, loc, ρ, R, ns, e, q⟩
  obtain ⟨v, h1, h2⟩ := R.dat i _ e
  obtain ⟨a, rfl, sq, _⟩ := h2.scrA
  exact ⟨_, h1, _, _, rfl, .inl ⟨_, sq, rfl⟩, by rw [List.length_map]; exact q _ H R Grow.refl (.int _)⟩
theorem em_ixS (hv : PE X (.Name x p) (tVar i)) (hb : EM X b mb) (hs : PlainIx b) : EM X (.Subscript (.Name x p) b pos) (mIxS i mb) := by
  refine ⟨fun ρ k k' w ⟨ns, e, q⟩ => ⟨ns, e, hb.mono ρ _ _ (fun d ρ1 q1 => by cases d <;> first | exact q1.elim | exact q1.imp fun n z => ⟨z.1, w _ _ z.2⟩) q⟩, pe_weak (pe_ix ix_list hv hb.run hs) ?_⟩
  rintro σ H Q ⟨G, loc, ρ, R, ns, e, q⟩
  obtain ⟨v, h1, h2⟩ := R.dat i _ e
  refine ⟨v, h1, G, loc, ρ, R, hb.mono ρ _ _ (fun d ρ1 q1 u H1 R1 g1 d1 => ?_) q⟩
  cases d <;> first | exact (show False from q1).elim | skip
  cases d1
  obtain ⟨n, e2, q2⟩ := q1
  obtain ⟨a, rfl, sq, _⟩ := (h2.g g1).scrA
  refine ⟨a, _, _, .int n, rfl, rfl, sq, ?_, q2 _ H1 R1 g1 (.int n)⟩
  unfold atI at e2 ⊢
  rw [List.length_map]
  cases q : ixN ns.length _ with
  | none => rw [q] at e2; cases e2
  | some j =>
    rw [q] at e2
    show (ns.map V.int)[j]? = some (.int n)
    rw [List.getElem?_map, show ns[j]? = some n from e2]; rfl
theorem em_slS (hv : PE X (.Name x p) (tVar i)) (hl : OM X lo l) (hh : OM X hi h) : EM X (.Subscript (.Name x p) (.Slice lo hi none p2) pos) (mSlS i l h) := by
  refine ⟨fun ρ k k' w ⟨ns, e, q⟩ => ⟨ns, e, hl.mono ρ _ _ (fun a ρ1 q1 => hh.mono ρ1 _ _ (fun b ρ2 q2 => w _ _ q2) q1) q⟩, pe_weak (pe_slice sl_list hv hl.run hh.run) ?_⟩
  rintro σ H Q ⟨G, loc, ρ, R, ns, e, q⟩
  obtain ⟨v, h1, h2⟩ := R.dat i _ e
  refine ⟨v, h1, G, loc, ρ, R, hl.mono ρ _ _ (fun lo ρ1 q1 H1 R1 g1 => ?_) q⟩
  refine ⟨G, loc, ρ1, R1, hh.mono ρ1 _ _ (fun hi ρ2 q2 H2 R2 g2 => ?_) q1⟩
  obtain ⟨a, rfl, sq, _⟩ := (h2.g (g1.trans g2)).scrA
  refine ⟨a, _, rfl, sq, ?_⟩
  have d0 := dx_cut (DxAll.of_ints (K := X.K) (H := H2) (F := Fb G.fb ρ2 loc) ns) lo hi
  have e0 : cutL (ns.map PyData.int) lo hi = (cutL ns lo hi).map PyData.int := by unfold cutL; rw [List.length_map, ← List.map_drop, ← List.map_take]
  rw [e0] at d0
  exact new_lst R2.fbE d0 fun w H3 m3 d3 => q2 w H3 (R2.more m3) ((g1.trans g2).trans (more_grow m3)) d3
end
end DL

namespace DL
open PySem PySem.Spec PyProof.Rows L2

/-! ### int(t, 36) -/
namespace B36
open PySem.NumText PySem.Calls
def IsB (c : Nat) : Prop := (48 ≤ c ∧ c ≤ 57) ∨ (97 ≤ c ∧ c ≤ 122)
def bv (c : Nat) : Nat := if c ≤ 57 then c - 48 else c - 87
def num (l : List Nat) : Nat := l.foldl (fun a c => a * 36 + bv c) 0
theorem bv_lt {c : Nat} (h : IsB c) : bv c < 36 := by
  unfold IsB at h
  unfold bv
  split <;> omega
theorem digit_b {c : Nat} (h : IsB c) : digit? c = some (bv c) := by
  unfold IsB at h
  unfold digit? bv
  rcases h with h | h
  · rw [if_pos (Hx.bb h.1 h.2), if_pos h.2]
  · rw [if_neg (Hx.bn (show ¬ (48 ≤ c ∧ c ≤ 57) by omega)), if_pos (Hx.bb (show 97 ≤ c from h.1) (show c ≤ 122 by omega)), if_neg (show ¬ c ≤ 57 by omega)]
theorem rng {c : Nat} (h : IsB c) : 48 ≤ c ∧ c ≤ 122 ∧ c ≠ 95 := by
  unfold IsB at h
  exact ⟨by omega, by omega, by omega⟩
theorem step_b {ds : Array Nat} {b : Bool} {c : Nat} (h : IsB c) : PySem.NumText.step 36 (ds, b) c = some (ds.push (bv c), true) := by
  have hr := rng h
  unfold PySem.NumText.step
  rw [if_neg (by rw [beq_iff_eq]; exact hr.2.2), digit_b h]
  exact if_pos (bv_lt h)
theorem foldl_b : ∀ (cs : List Nat) (ds : Array Nat), (∀ c ∈ cs, IsB c) → cs.foldlM (PySem.NumText.step 36) (ds, true) = some (cs.foldl (fun acc c => acc.push (bv c)) ds, true)
  | [], _, _ => rfl
  | c :: cs, ds, h => by
    rw [List.foldlM_cons, step_b (h c (List.mem_cons_self ..))]
    show cs.foldlM (PySem.NumText.step 36) (ds.push (bv c), true) = _
    exact foldl_b cs (ds.push (bv c)) fun d hd => h d (List.mem_cons_of_mem _ hd)
theorem digits_b {cs : List Nat} (h : ∀ c ∈ cs, IsB c) (hne : cs ≠ []) : digits? 36 cs = some (cs.foldl (fun acc c => acc.push (bv c)) #[]) := by
  cases cs with
  | nil => exact absurd rfl hne
  | cons c cs =>
    unfold digits?
    rw [List.foldlM_cons, step_b (h c (List.mem_cons_self ..))]
    show (cs.foldlM (PySem.NumText.step 36) ((#[] : Array Nat).push (bv c), true)).bind _ = _
    rw [foldl_b cs _ fun d hd => h d (List.mem_cons_of_mem _ hd)]
    rfl
theorem push_b : ∀ (cs : List Nat) (ds : Array Nat), (cs.foldl (fun acc c => acc.push (bv c)) ds).foldl (fun acc d => acc * 36 + d) 0 = cs.foldl (fun a c => a * 36 + bv c) (ds.foldl (fun acc d => acc * 36 + d) 0)
  | [], _ => rfl
  | c :: cs, ds => by
    rw [List.foldl_cons, push_b cs (ds.push (bv c)), List.foldl_cons]
    congr 1
    simp
theorem dropB {cs : List Nat} (h : ∀ c ∈ cs, IsB c) : cs.dropWhile blank = cs := by
  cases cs with
  | nil => rfl
  | cons c cs => exact dropWhile_of (by have := rng (h c (List.mem_cons_self ..)); omega)
theorem signB {cs : List Nat} (h : ∀ c ∈ cs, IsB c) : sign cs = (false, cs) := by
  cases cs with
  | nil => rfl
  | cons c cs =>
    have := rng (h c (List.mem_cons_self ..))
    exact sign_of (by omega) (by omega)
theorem basedB {cs : List Nat} : based 36 cs = (36, false, cs) := by
  unfold based
  split
  · rename_i p e
    have hp : p ≠ 36 := by
      have e : (match (generalizing := false) cs with | 48 :: c :: _ => (if (c == 120 || c == 88) = true then some 16 else if (c == 111 || c == 79) = true then some 8 else if (c == 98 || c == 66) = true then some 2 else none) | _ => none) = some p := e
      repeat' split at e
      all_goals first | (cases e; done) | (cases e; decide)
    rw [if_neg (by rw [Bool.or_eq_true, beq_iff_eq, beq_iff_eq]; omega)]
  · rfl
theorem read_b {cs : List Nat} (h : ∀ c ∈ cs, IsB c) (hne : cs ≠ []) : (int_private% "readNumeral") 0 36 cs = (int_private% "Numeral.value") ((num cs : Nat) : Int) := by
  have hr : ∀ c ∈ cs.reverse, IsB c := fun c hc => h c (List.mem_reverse.mp hc)
  refine (readNumeral_eq 0 36 cs).trans ?_
  rw [dropB h, signB h]
  show judge 0 false (based 36 cs).1 (based 36 cs).2.1 (digits? (based 36 cs).1 (((based 36 cs).2.2.reverse.dropWhile blank).reverse)) = _
  rw [basedB]
  show judge 0 false 36 false (digits? 36 ((cs.reverse.dropWhile blank).reverse)) = _
  rw [dropB hr, List.reverse_reverse, digits_b h hne]
  show (int_private% "Numeral.value") (((cs.foldl (fun acc c => acc.push (bv c)) (#[] : Array Nat)).foldl (fun acc d => acc * 36 + d) 0 : Nat) : Int) = _
  have z : (#[] : Array Nat).foldl (fun acc d => acc * 36 + d) 0 = 0 := by first | rfl | simp
  rw [push_b, z] <;> rfl
theorem seen_b {x : Str} (h : ∀ c ∈ x.cps.toList, IsB c) : numTextOf x = x.cps.toList ∧ numSeenOf x = x.cps.toList := by
  have e1 : numTextOf x = x.cps.toList := by
    refine if_pos ?_
    rw [← Array.all_toList, List.all_eq_true]
    intro c hc
    have := rng (h c hc)
    exact decide_eq_true (by omega)
  refine ⟨e1, ?_⟩
  show (numTextOf x).takeWhile _ = _
  rw [e1]
  refine takeWhile_all fun c hc => ?_
  have := rng (h c hc)
  exact bne_iff_ne.mpr (by omega)
set_option maxHeartbeats 4000000 in
theorem gives_b {x : PySem.Str} {u t : Tok} (hl : x.length ≤ 640) (h : ∀ c ∈ x.cps.toList, IsB c) (hne : x.cps.toList ≠ []) :
    PySem.Gives (Builtin.«int.__new__» ⟨[.type "int", .str x u, .int 36 t], []⟩) (.int ((num x.cps.toList : Nat) : Int)) :=
  .of_wp fun M A E s Q hQ => by
    obtain ⟨hp, g, d, tk, os⟩ := s
    have f1 := F.conv_sub_int
    have f2 := F.madeHere_int
    have f6 : typeOf (.str x u) = pure (.type "str") := rfl
    obtain ⟨e1, e2⟩ := seen_b h
    have hs : (numSeenOf x).length ≤ 640 := by
      rw [e2, Array.length_toList]
      exact hl
    have hr : (int_private% "readNumeral") 0 36 (numSeenOf x) = (int_private% "Numeral.value") ((num x.cps.toList : Nat) : Int) := by
      rw [e2]
      exact read_b h hne
    have ha : ((numSeenOf x).length == (numTextOf x).length) = true := by
      rw [e1, e2]
      exact beq_self_eq_true _
    have hk := Hx.Hid.mk (And.intro hs (And.intro hr ha))
    clear hs hr ha e1 e2 hl hne h
    repeat (any_goals (first
      | assumption
      | ((with_reducible show wpAny _ _ ((int_private% "intFromText") _ _ _) _ _ _); refine Hx.wp_textB hk.out.1 hk.out.2.1 hk.out.2.2 ?_)
      | wp_step))
    all_goals first | exact ⟨_, rfl, hQ⟩ | skip
theorem call_b {prog : Program} {w : World} {A : Around} {E : Value → Shared → Prop} {s : Shared} {Q : Value → Shared → Prop} {x : PySem.Str} {u t : Tok} (hl : x.length ≤ 640) (h : ∀ c ∈ x.cps.toList, IsB c) (hne : x.cps.toList ≠ [])
    (hQ : Q (.int ((num x.cps.toList : Nat) : Int) s.toks) { s with toks := s.toks + 1 }) : wpAny (model prog w) A (call (.type "int") [.str x u, .int 36 t]) Q E s :=
  callType_new F.called_int F.newNe_int (Hx.typeCall_int_2 _ _) (Hx.newCall_int_2 _ _) (fun obj => F.initArgs_range_2 obj _ _) F.entry_int_new (gives_b hl h hne).meets (show (Made.int ((num x.cps.toList : Nat) : Int)).post _ s from ⟨rfl, hQ⟩)
end B36
def rInt36 : List V → Hp → VK → Prop := fun xs H Q => ∃ z : Str, xs = [.str z, .int 36] ∧ z.cps.toList ≠ [] ∧ z.length ≤ 640 ∧ (∀ c ∈ z.cps.toList, B36.IsB c) ∧ Q (.int ((B36.num z.cps.toList : Nat) : Int)) H
theorem call_int36 {X : Cx} : CallR X (.type "int") rInt36 := by
  intro pins s σ H xs us Q I r h
  obtain ⟨l, rfl, hne, hl, hx, q⟩ := h
  obtain ⟨u, w', rfl, r1, r2⟩ := r.two
  obtain ⟨t1, rfl⟩ := r1
  obtain ⟨t2, rfl⟩ := r2
  exact B36.call_b hl hx hne ⟨.int ((B36.num l.cps.toList : Nat) : Int), H, I.tok _, ⟨_, rfl⟩, q⟩
def int36D : PC1
  | [.str z, .int 36], k => z.cps.toList ≠ [] ∧ z.length ≤ 640 ∧ (∀ c ∈ z.cps.toList, B36.IsB c) ∧ k (.int ((B36.num z.cps.toList : Nat) : Int))
  | _, _ => False
theorem pm_int36 (ds : List D) : Pm1 (int36D ds) := fun k k' w q => by
  unfold int36D at q ⊢
  split at q
  · exact ⟨q.1, q.2.1, q.2.2.1, w _ q.2.2.2⟩
  · exact q.elim
theorem prim_int36 {K : PySem.W.Frag} : PrimC K rInt36 int36D := by
  intro F H vs ds Q hF hd h
  unfold int36D at h
  split at h
  · obtain ⟨v, u, rfl, dv, du⟩ := dx_two hd
    cases dv
    cases du
    exact ⟨_, rfl, h.1, h.2.1, h.2.2.1, h.2.2.2.now (.int _)⟩
  · exact h.elim
section
variable {X : Cx} {p pos : Pos} {e e2 : Expr} {m : M (List D)}
theorem em_int36 (hm : X.mg "int" = none) (ha : AM X [e, e2] m) (hg : Gl X "int" := by rfl) (he : starEach [e, e2] X.env = (false, eval e X.env) :: starEach [e2] X.env := by rfl) (hpl : (backTo pos (starEach [e2] X.env)).any (·.1) = false := by rfl) : EM X (.Call (.Name "int" p) [e, e2] [] pos) (mCall int36D m) :=
  em_callTy call_int36 prim_int36 pm_int36 hg hm PyProof.Rows.boot_int ha (he := he) (hpl := hpl)
end

/-! ### text[::-1] -/
def revS (z : Str) : Str := ⟨z.cps.toList.reverse.toArray⟩
def tRevS (te : TE) : TE := fun σ H Q => te σ H fun x H1 => ∃ z, x = .str z ∧ z.length ≤ sizeLine ∧ Q (.str (revS z)) H1
theorem pe_revS {X : Cx} {e : Expr} {te : TE} {k : Nat} {p1 p2 p3 pos : Pos} (he : PE X e te) : PE X (.Subscript e (.Slice none none (some (.UnaryOp .USub (.Constant (.int 1) k p1) p2)) p3) pos) (tRevS te) := by
  refine ⟨fun pins s σ H Q I h => ?_⟩
  refine Subscript_ (thn (he.run pins s σ H _ I h) fun v s1 ⟨x, H1, I1, r1, q1⟩ => ?_)
  obtain ⟨z, ex, hz, q⟩ := q1
  subst ex
  obtain ⟨t, rfl⟩ := r1
  have hst : PO X (some (.UnaryOp .USub (.Constant (.int 1) k p1) p2)) (tPart (tUn (rU fun i => .int (-i)) (tC (.int 1)))) := po_some (pe_un un_neg pe_int)
  refine wpAny_Slice (thn (po_none.run pins s1 σ H1 (fun o H2 => o = none ∧ H2 = H1) I1 ⟨rfl, rfl⟩) fun vl s2 ⟨l, H2, I2, pl, el, e2⟩ => ?_)
  subst el e2
  refine thn (po_none.run pins s2 σ H2 (fun o H3 => o = none ∧ H3 = H2) I2 ⟨rfl, rfl⟩) fun vu s3 ⟨u, H3, I3, pu, eu, e3⟩ => ?_
  subst eu e3
  refine thn (hst.run pins s3 σ H3 (fun o H4 => o = some (-1) ∧ H4 = H3) I3 ⟨1, rfl, -1, rfl, rfl, rfl⟩) fun vs s4 ⟨o, H4, I4, ps, eo, e4⟩ => ?_
  subst eo e4
  obtain ⟨l', rfl, el⟩ := IsPart.raw pl
  obtain ⟨u', rfl, eu⟩ := IsPart.raw pu
  obtain ⟨s', rfl, es⟩ := IsPart.raw ps
  have I5 : Inv X pins σ H4 { s4 with heap := s4.heap.push { cls := .type "slice", data := .fields #[partValue l', partValue u', partValue s'] } } := I4.kept (t' := s4.toks) fun b ob q => Heap.get?_push_of_some _ q
  show wpAny (model X.prog X.w) X.A (subscriptTail e (.Slice none none (some (.UnaryOp .USub (.Constant (.int 1) k p1) p2)) p3) (.str z t) (.ref s4.heap.objs.size)) (EP X pins σ Q) X.xe _
  refine tail_any (ops := [.str z t, .ref s4.heap.objs.size]) (typeIs_str _ _ _) F.slot_str_getitem.lookup ?_ (by with_unfolding_all rfl)
  refine wpAny_getItem_str_slice (l := l') (u := u') (st := s') ⟨_, Heap.get?_push_size _ rfl, rfl, rfl⟩ (by rw [es]; rfl) ?_
  have hpick : slicePicked z l' u' s' = (List.range z.cps.size).reverse := by
    unfold slicePicked
    rw [el, eu, es]
    show sliceRange ((z.cps.size : Int) - 1) (-1) (-1) = _
    rw [PySem.W.krv_sliceRange, PySem.W.krv_range]
  have hfm : ((slicePicked z l' u' s').filterMap (z.cps[·]?)) = z.cps.toList.reverse := by
    rw [hpick, List.filterMap_reverse, PySem.W.krv_all]
  unfold sliceMade
  rw [es, if_neg (by intro h; cases (Bool.and_eq_true_iff.mp h).1), hfm]
  exact ⟨by show z.cps.toList.reverse.toArray.size ≤ sizeLine; simpa [Str.length] using hz, .str (revS z), H4, I5.tok _, ⟨_, rfl⟩, q⟩
def mRevS (m : M D) : M D := fun ρ k => m ρ fun d ρ1 => match d with
  | .str z => z.length ≤ sizeLine ∧ k (.str (revS z)) ρ1
  | _ => False
theorem em_revS {X : Cx} {e : Expr} {m : M D} {k : Nat} {p1 p2 p3 pos : Pos} (he : EM X e m) : EM X (.Subscript e (.Slice none none (some (.UnaryOp .USub (.Constant (.int 1) k p1) p2)) p3) pos) (mRevS m) := by
  refine ⟨fun ρ k k' w q => he.mono ρ _ _ (fun d ρ1 q1 => by cases d <;> first | exact q1.elim | exact ⟨q1.1, w _ _ q1.2⟩) q, pe_weak (pe_revS he.run) ?_⟩
  rintro σ H Q ⟨G, loc, ρ, R, q⟩
  refine ⟨G, loc, ρ, R, he.mono ρ _ _ (fun d ρ1 q1 v H1 R1 g1 d1 => ?_) q⟩
  cases d <;> first | exact (show False from q1).elim | skip
  cases d1
  exact ⟨_, rfl, q1.1, q1.2 _ H1 R1 g1 (.str _)⟩
end DL

namespace DL
open PySem PySem.Spec PyProof.Rows L2

/-! ### enumerate(text, start=k) -/
def Ites (z : Str) (k0 : Int) : It :=
  ⟨fun i _ => i < z.cps.size, fun i H v H' => ∃ T c, v = .ref T ∧ H T = none ∧ z.cps[i]? = some c ∧ H' = upd H T (.tup [.int (k0 + (i : Nat)), .str ⟨#[c]⟩]), fun i _ => z.cps.size ≤ i⟩
theorem turn_enumS {P : Program} {w : World} {K : PySem.W.Frag} {elts : List Expr} {kk : Nat} {tpos : Pos} (e it : Addr) (z : Str) (t : Tok) (k0 : Int) (hei : e ≠ it) :
    Turn P w K (.Tuple elts kk tpos) (Ites z k0) [e, it] e (fun i h => i ≤ z.cps.size ∧ (∃ old, IsEnum h e it (k0 + (i : Nat)) old) ∧ h.IsStrIter it (strIterType z) z t i) where
  mem := by simp
  obj := fun i h st b hb => by
    obtain ⟨_, ⟨old, he⟩, ⟨o, ho, hc, hd⟩⟩ := st
    have e' : b = e ∨ b = it := by simpa using hb
    rcases e' with q | q
    · rw [q]; exact ⟨_, he, fun v q => nomatch q⟩
    · rw [q]; exact ⟨o, ho, fun v q => by rw [hd] at q; cases q⟩
  keep := fun i h h' st k => let ⟨hl, ⟨old, he⟩, hi⟩ := st; ⟨hl, ⟨old, k e (by simp) _ he⟩, let ⟨o, ho, r⟩ := hi; ⟨o, k it (by simp) o ho, r⟩⟩
  item := by
    intro X hP hw hK hc i pins s σ H E I hf st hg
    subst hP hw hK
    obtain ⟨hl, st⟩ := st
    have GN := GoesN.enumFrom (prog := X.prog) (w := X.w) (A := X.A) (elts := elts) (x1 := kk) (pos := tpos) k0 (Draws.text (prog := X.prog) (w := X.w) (A := X.A.in1) (I.ok.hd hc) it z t) e hei (by simpa using hei) (by simp)
    have hel : e < s.heap.objs.size := by obtain ⟨old, he⟩ := st.1; exact Heap.lt_size he
    have hil : it < s.heap.objs.size := by obtain ⟨o, ho, _⟩ := st.2; exact Heap.lt_size ho
    refine GN.goes i s (fun u s2 => ∃ x H', L2.Inv X pins σ H' s2 ∧ RelV x u ∧ (Ites z k0).yld i H x H' ∧ (i + 1 ≤ z.cps.size ∧ (∃ old, IsEnum s2.heap e it (k0 + ((i + 1 : Nat) : Int)) old) ∧ s2.heap.IsStrIter it (strIterType z) z t (i + 1)) ∧ ∀ b ∈ [e, it], H' b = none) E hg st fun v h' tk hY st' hk _ => ?_
    obtain ⟨T, t1, x, rfl, hT, ⟨c, t2, hcx, rfl⟩, hTt⟩ := hY
    have hnew : H T = none := I.hok.fresh hT
    have new : ObjOk X.prog X.w (upd H T (.tup [.int (k0 + (i : Nat)), .str ⟨#[c]⟩])) h' T (.tup [.int (k0 + (i : Nat)), .str ⟨#[c]⟩]) :=
      ⟨by show 2 ≤ sizeLine; decide, [.int (k0 + (i : Nat)) t1, .str ⟨#[c]⟩ t2], .cons ⟨_, rfl⟩ (.cons ⟨_, rfl⟩ .nil), hTt⟩
    have I1 := I.turnedNew (t' := tk) (ch := [e, it]) hk hf hT new
    refine ⟨.ref T, _, I1, rfl, ⟨T, c, rfl, hnew, hcx, rfl⟩, ⟨hg, st'⟩, fun b hb => ?_⟩
    have hb' : b < s.heap.objs.size := by
      have e' : b = e ∨ b = it := by simpa using hb
      rcases e' with q | q
      · rw [q]; exact hel
      · rw [q]; exact hil
    rw [upd_ne (Nat.ne_of_lt (Nat.lt_of_lt_of_le hb' hT))]
    exact (hf b hb).1
  done := by
    intro X hP hw hK hc i pins s σ H E I hf st hg
    subst hP hw hK
    obtain ⟨hl, st⟩ := st
    have hi : i = z.cps.size := Nat.le_antisymm hl hg
    subst hi
    have GN := GoesN.enumFrom (prog := X.prog) (w := X.w) (A := X.A) (elts := elts) (x1 := kk) (pos := tpos) k0 (Draws.text (prog := X.prog) (w := X.w) (A := X.A.in1) (I.ok.hd hc) it z t) e hei (by simpa using hei) (by simp)
    exact GN.stops s (fun s1 => L2.Inv X pins σ H s1) E st fun h' tk hk _ => I.turnedL (t' := tk) (ch := [e, it]) hk hf
  self := fun A i s Q E st h => let ⟨_, ⟨_, he⟩, _⟩ := st; wpAny_pyIter_enum he h
theorem callWith_typeKw {M : Model} {A : Around} {E : Value → Shared → Prop} {s : Shared} {pos : Pos} {T : String} {first : List Value} {args : List (Bool × Sem Value)} {keywords : List (Option Str × Sem Value)} {Q : Value → Shared → Prop}
    (hplain : args.any (·.1) = false) (hkw : keywords.any (·.1.isNone) = false)
    (h : wpAny M A (evalArgs (.type T) true args keywords) (fun a s₁ => wpAny M A (call (.type T) (first ++ a.pos) a.kw) Q E s₁) E s) :
    wpAny M A (callWith pos (.type T) first args keywords) Q E s := by
  unfold callWith
  refine wpAny_bind (wpAny_holding (wpAny_mono h (fun a s₁ h₁ => wpAny_bind (wpAny_standAt ?_)) fun _ _ x => x))
  simp only [hplain, hkw, Bool.or_false]
  refine wpAny_bind (wpAny_pure ?_)
  exact wpAny_bind (wpAny_mono h₁ (fun r s₂ hr => wpAny_bind (wpAny_holding (wpAny_point (wpAny_pure hr)))) fun _ _ x => x)
def iEnumS (ta tk : TA) : TI := fun σ H R => ta σ H fun xs H1 => tk σ H1 fun ys H2 => ∃ z k, xs = [.str z] ∧ ys = [.int k] ∧ -(2 ^ 63) ≤ k ∧ k < 2 ^ 63 ∧ R (Ites z k) H2
theorem pi_enumS {X : Cx} {e ek : Expr} {ta tk : TA} {p pos kpos tpos : Pos} {elts : List Expr} {kk : Nat} (hg : Gl X "enumerate") (hm : X.mg "enumerate" = none) (ha : PA X [e] ta) (hk : PK X [⟨some "start", ek, kpos⟩] tk)
    (he : starEach [e] X.env = (false, eval e X.env) :: starEach [] X.env := by rfl)
    (hpl : (backTo pos (starEach [e] X.env)).any (·.1) = false := by rfl) (hall : (backToKw pos (keywordEach [⟨some "start", ek, kpos⟩] X.env)).all (·.1.isSome) = true := by rfl) (hnone : (backToKw pos (keywordEach [⟨some "start", ek, kpos⟩] X.env)).any (·.1.isNone) = false := by rfl)
    (hks : (backToKw pos (keywordEach [⟨some "start", ek, kpos⟩] X.env)).filterMap (·.1) = [Str.ofString "start"] := by rfl) :
    PI X (.Tuple elts kk tpos) (.Call (.Name "enumerate" p) [e] [⟨some "start", ek, kpos⟩] pos) (iEnumS ta tk) := by
  refine ⟨fun pins s σ H R I h => ?_⟩
  refine wpAny_Call_Name_kw (ld_blt I hg hm boot_enumerate (callWith_typeKw hpl hnone ?_))
  have hA : wpAny (model X.prog X.w) X.A (spliced (backTo pos (starEach [e] X.env))) (fun us s1 => wpAny (model X.prog X.w) X.A (evalAll ((backToKw pos (keywordEach [⟨some "start", ek, kpos⟩] X.env)).map (·.2)))
      (fun ws s2 => wpAny (model X.prog X.w) X.A (call (.type "enumerate") us (((backToKw pos (keywordEach [⟨some "start", ek, kpos⟩] X.env)).filterMap (·.1)).zip ws)) (fun v s3 => wpAny (model X.prog X.w) X.A (pyIter v) (PIE X pins σ (.Tuple elts kk tpos) R) X.xe s3) X.xe s2) X.xe s1) X.xe s := by
    refine thn (ha.run pos pins s σ H _ I h) fun us s1 ⟨vs, H1, I1, r1, q1⟩ => ?_
    · refine thn (hk.run pos pins s1 σ H1 _ I1 q1) fun ws s2 ⟨zs, H2, I2, r2, z, k, e1, e2, k0, k1, q2⟩ => ?_
      · subst e1 e2
        obtain ⟨u, rfl, ru⟩ := r1.one
        obtain ⟨u', rfl, ru'⟩ := r2.one
        obtain ⟨t, rfl⟩ := ru
        obtain ⟨t', rfl⟩ := ru'
        rw [hks]
        refine enum_begins_start (begins_text z t) trivial k0 k1 fun h' hen hit hsz hkeep => wpAny_pyIter_enum hen ?_
        have I3 : L2.Inv X pins σ H2 { s2 with heap := h' } := I2.kept (t' := s2.toks) hkeep
        refine ⟨s2.heap.objs.size + 1, [s2.heap.objs.size + 1, s2.heap.objs.size], _, _, H2, rfl, I3, turn_enumS (s2.heap.objs.size + 1) s2.heap.objs.size z t k (Nat.succ_ne_self _), ⟨Nat.zero_le _, ⟨.none, by simpa using hen⟩, ⟨_, hit, rfl, rfl⟩⟩, fun b hb => ?_, q2⟩
        have e' : b = s2.heap.objs.size + 1 ∨ b = s2.heap.objs.size := by simpa using hb
        have hle : s2.heap.objs.size ≤ b := by
          rcases e' with z | z
          · rw [z]; exact Nat.le_add_right _ _
          · rw [z]; exact Nat.le_refl _
        exact I2.fpOk hle (I2.hok.fresh hle)
  rw [he] at hA ⊢
  exact evalArgs_kwB hall hA
theorem gives_enumS {K : PySem.W.Frag} {F : AS} {H : Hp} (z : Str) (k : Int) : Gives K F H (Ites z k) (z.cps.toList.zipIdx.map fun p => PyData.tuple [.int (k + (p.2 : Nat)), .str ⟨#[p.1]⟩]) := by
  intro i F' H' g hf
  refine ⟨fun y hy => ?_, fun hl => ?_⟩
  · rw [List.getElem?_map, List.getElem?_zipIdx] at hy
    cases hc : z.cps.toList[i]? with
    | none => rw [hc] at hy; cases hy
    | some c =>
      rw [hc] at hy
      cases hy
      have hlt : i < z.cps.size := by simpa using (List.getElem?_eq_some_iff.mp hc).1
      refine ⟨hlt, fun x H2 hx => ?_⟩
      obtain ⟨T, c', rfl, hT, e1, rfl⟩ := hx
      rw [← Array.getElem?_toList, hc] at e1
      cases e1
      have := dx_new2 (K := K) hf hT (.int (k + (i : Nat))) (.str ⟨#[c]⟩)
      simpa using this
  · show z.cps.size ≤ i
    simpa using hl
def mEnumS (m : M (List D)) (mk : M D) : M (List D) := fun ρ k => m ρ fun ds ρ1 => mk ρ1 fun e ρ2 => match ds, e with
  | [.str z], .int n => -(2 ^ 63) ≤ n ∧ n < 2 ^ 63 ∧ k (z.cps.toList.zipIdx.map fun p => PyData.tuple [.int (n + (p.2 : Nat)), .str ⟨#[p.1]⟩]) ρ2
  | _, _ => False
theorem im_enumS {X : Cx} {e ek : Expr} {ms : M (List D)} {mk : M D} {p pos kpos tpos : Pos} {elts : List Expr} {kk : Nat} (ha : AM X [e] ms) (hk : EM X ek mk) (hm : X.mg "enumerate" = none) (hg : Gl X "enumerate" := by rfl)
    (he : starEach [e] X.env = (false, eval e X.env) :: starEach [] X.env := by rfl)
    (hpl : (backTo pos (starEach [e] X.env)).any (·.1) = false := by rfl) (hall : (backToKw pos (keywordEach [⟨some "start", ek, kpos⟩] X.env)).all (·.1.isSome) = true := by rfl) (hnone : (backToKw pos (keywordEach [⟨some "start", ek, kpos⟩] X.env)).any (·.1.isNone) = false := by rfl)
    (hks : (backToKw pos (keywordEach [⟨some "start", ek, kpos⟩] X.env)).filterMap (·.1) = [Str.ofString "start"] := by rfl) :
    IM X (.Tuple elts kk tpos) (.Call (.Name "enumerate" p) [e] [⟨some "start", ek, kpos⟩] pos) (mEnumS ms mk) := by
  refine ⟨fun ρ k k' w q => ha.mono ρ _ _ (fun ds ρ1 q1 => hk.mono ρ1 _ _ (fun e ρ2 q2 => ?_) q1) q, pi_weak (pi_enumS hg hm ha.run (pk_cons hk.run pk_nil) he hpl hall hnone hks) ?_⟩
  · split at q2
    · exact ⟨q2.1, q2.2.1, w _ _ q2.2.2⟩
    · exact q2.elim
  · rintro σ H Q ⟨G, loc, ρ, R, q⟩
    refine ⟨G, loc, ρ, R, ha.mono ρ _ _ (fun ds ρ1 q1 vs H1 R1 g1 d1 => ?_) q⟩
    refine ⟨G, loc, ρ1, R1, hk.mono ρ1 _ _ (fun e ρ2 q2 v H2 R2 g2 d2 => ?_) q1⟩
    split at q2
    · obtain ⟨u, rfl, du⟩ := dx_one d1
      cases du
      cases d2
      exact ⟨_, _, rfl, rfl, q2.1, q2.2.1, q2.2.2 _ _ R2 (g1.trans g2) (gives_enumS _ _)⟩
    · exact q2.elim

/-! ### {text: int for .. in ..} -/
def putS (acc : List (Str × Int)) (x : Str) (n : Int) : List (Str × Int) := if (acc.any fun kv => decide (kv.1 = x)) = true then acc.map (fun kv => if kv.1 = x then (kv.1, n) else kv) else acc ++ [(x, n)]
theorem dsiV_put (acc : List (Str × Int)) (x : Str) (n : Int) : dsiV (putS acc x n) = putK (dsiV acc) (Sum.inr x) (.int n) := by
  have ha : ((dsiV acc).any fun kv => decide (kv.1 = (Sum.inr x : Key))) = acc.any fun kv => decide (kv.1 = x) := by
    unfold dsiV
    rw [List.any_map]
    congr 1
    funext kv
    show decide ((Sum.inr kv.1 : Key) = Sum.inr x) = decide (kv.1 = x)
    exact decide_eq_decide.mpr ⟨fun z => Sum.inr.inj z, fun z => by rw [z]⟩
  unfold putS putK
  rw [ha]
  split
  · unfold dsiV
    rw [List.map_map, List.map_map]
    congr 1
    funext kv
    show (Sum.inr (if kv.1 = x then (kv.1, n) else kv).1, V.int (if kv.1 = x then (kv.1, n) else kv).2) = if (Sum.inr kv.1 : Key) = Sum.inr x then ((Sum.inr kv.1 : Key), V.int n) else (Sum.inr kv.1, V.int kv.2)
    by_cases h : kv.1 = x
    · rw [if_pos h, if_pos (by rw [h])]
    · rw [if_neg h, if_neg fun z => h (Sum.inr.inj z)]
  · unfold dsiV
    rw [List.map_append]; rfl
def dcLoop (g : GMn) (tk tv : M D) (vs : List Nat) (k : List (Str × Int) → List Slot → Prop) : List D → List (Str × Int) → List Slot → Prop
  | [], acc, ρ => k acc (wipeS ρ vs)
  | d :: ds, acc, ρ => g d ρ fun ρ1 => tk ρ1 fun x ρ2 => tv ρ2 fun y ρ3 => match x, y with
    | .str s, .int n => acc.length < sizeLine ∧ dcLoop g tk tv vs k ds (putS acc s n) (wipeS ρ3 vs)
    | _, _ => False
def mDc (mi : M (List D)) (g : GMn) (tk tv : M D) (vs : List Nat) : M D := fun ρ k => mi ρ fun ds ρ1 => dcLoop g tk tv vs (fun l ρ2 => k (.dict (dsiD l)) ρ2) ds [] (wipeS ρ1 vs)
theorem mono_dcLoop {g : GMn} {tk tv : M D} {vs : List Nat} (hg : ∀ d ρ (k k' : List Slot → Prop), (∀ ρ', k ρ' → k' ρ') → g d ρ k → g d ρ k') (hk : Mono tk) (hv : Mono tv) {k k' : List (Str × Int) → List Slot → Prop} (w : ∀ a ρ, k a ρ → k' a ρ) :
    ∀ (ds : List D) (acc : List (Str × Int)) (ρ : List Slot), dcLoop g tk tv vs k ds acc ρ → dcLoop g tk tv vs k' ds acc ρ
  | [], acc, ρ, q => w _ _ q
  | d :: ds, acc, ρ, q => hg d ρ _ _ (fun ρ1 q1 => hk ρ1 _ _ (fun x ρ2 q2 => hv ρ2 _ _ (fun y ρ3 q3 => by
    split at q3
    · exact ⟨q3.1, mono_dcLoop hg hk hv w ds _ _ q3.2⟩
    · exact q3.elim) q2) q1) q
theorem dsiV_len (l : List (Str × Int)) : (dsiV l).length = l.length := by unfold dsiV; rw [List.length_map]
/-- a new object is at hand -/
theorem Rep.plusNew {K : PySem.W.Frag} {G : Fr} {ρ : List Slot} {loc : Nat → Addr} {σ : L2.St} {H : Hp} {o : HO} (R : Rep K G ρ loc σ H) {p : Addr} (hp : H p = none) :
    G.H0 p = none ∧ ¬ G.fb p ∧ Rep K (G.plus p) ρ loc σ (upd H p o) ∧ Grow (Fb G.fb ρ loc) (Fb (G.plus p).fb ρ loc) H (upd H p o) := by
  have g : Grow (Fb G.fb ρ loc) (Fb (G.plus p).fb ρ loc) H (upd H p o) := fun b o e n => ⟨upd_more hp b o e, fun z => by
    rcases z with (z | z) | z
    · exact n (.inl z)
    · rw [z, hp] at e; cases e
    · exact n (.inr z)⟩
  refine ⟨R.h0 hp, fun z => R.notFb hp (.inl z), ⟨R.len, fun i d e => ?_, fun i b ds e => ?_, R.apart, R.brw, fun i ds e => ?_, fun b o e n => upd_more hp b o (R.ext b o e n), fun b e => ?_, fun b e => .inl (R.bwS b e), R.raw.plus (upd_more hp) hp g⟩, g⟩
  · obtain ⟨v, h1, h2⟩ := R.dat i d e
    exact ⟨v, h1, h2.g g⟩
  · obtain ⟨h1, vs, h2, h3⟩ := R.own i b ds e
    exact ⟨h1, vs, upd_more hp _ _ h2, h3.g g⟩
  · obtain ⟨h1, h2⟩ := R.new i ds e
    refine ⟨h1, fun z => ?_⟩
    rcases z with z | z
    · exact h2 z
    · obtain ⟨_, vs, q, _⟩ := R.own i false ds e
      rw [z, hp] at q; cases q
  · rcases e with e | e
    · obtain ⟨o, q⟩ := R.fbS b e
      exact ⟨o, upd_more hp _ _ q⟩
    · rw [e]; exact ⟨_, upd_same⟩
theorem dc_meets {K : PySem.W.Frag} {mi : M (List D)} {g : GMn} {tk tv : M D} {vs : List Nat} (hi : Mono mi) (hg : ∀ d ρ (k k' : List Slot → Prop), (∀ ρ', k ρ' → k' ρ') → g d ρ k → g d ρ k') (hk : Mono tk) (hv : Mono tv)
    {σ : L2.St} {H : Hp} {Q : VK} (h : TEof K (mDc mi g tk tv vs) σ H Q) : tDc (TIof K mi) (TGof K vs g) tYes (TEof K tk) (TEof K tv) vs σ H Q := by
  obtain ⟨G, loc, ρ, R, q⟩ := h
  refine ⟨G, loc, ρ, R, hi ρ _ _ (fun ds ρ1 q1 J H1 R1 g1 gv D hD => ?_) q⟩
  obtain ⟨h0, np, RD, gD⟩ := R1.plusNew (o := .dK []) hD
  have bs := R.bwS
  refine ⟨fun i m H2 => ∃ ρ2 acc, m = ds.length - i ∧ Rep K (G.plus D) ρ2 loc (wipe σ vs) H2 ∧ H2 D = some (.dK (dsiV acc)) ∧ Grow (Fb G.fb ρ1 loc) (Fb (G.plus D).fb ρ2 loc) H1 H2 ∧
    dcLoop g tk tv vs (fun l ρ' => ∀ v H', Rep K G ρ' loc σ H' → Grow (Fb G.fb ρ loc) (Fb G.fb ρ' loc) H H' → Dx K H' (Fb G.fb ρ' loc) v (.dict (dsiD l)) → Q v H') (ds.drop i) acc ρ2,
    ⟨_, wipeS ρ1 vs, [], rfl, RD.wipe (wipe_wipe σ vs).symm, upd_same, gD.weak fun b z => Fb_wipe b z, by simpa using q1⟩, ?_⟩
  rintro i m H2 ⟨ρ2, acc, hm, R2, e2, g2, q2⟩
  obtain ⟨gv1, gv2⟩ := gv i _ H2 g2 R2.fbE
  cases hd : ds[i]? with
  | none =>
    have hl : ds.length ≤ i := List.getElem?_eq_none_iff.mp hd
    rw [List.drop_eq_nil_of_le hl] at q2
    have R3 := R2.wipe (σ := σ) (wipe_wipe σ vs)
    obtain ⟨R4, n4⟩ := R3.unplus bs np
    exact .inl ⟨gv2 hl, q2 _ H2 R4 (((g1.trans g2).weak fun b z => Fb_wipe b z).weak Fb.plus_sub) (.dsi acc rfl n4 e2)⟩
  | some d =>
    obtain ⟨hl, hd'⟩ := List.getElem?_eq_some_iff.mp hd
    have e : ds.drop i = d :: ds.drop (i + 1) := by rw [← hd']; exact List.drop_eq_getElem_cons hl
    rw [e] at q2
    obtain ⟨go, yl⟩ := gv1 d hd
    refine .inr ⟨go, fun H3 => ∃ ρ3 acc, Rep K (G.plus D) ρ3 loc (wipe σ vs) H3 ∧ H3 D = some (.dK (dsiV acc)) ∧ Grow (Fb G.fb ρ1 loc) (Fb (G.plus D).fb ρ3 loc) H1 H3 ∧
      dcLoop g tk tv vs (fun l ρ' => ∀ v H', Rep K G ρ' loc σ H' → Grow (Fb G.fb ρ loc) (Fb G.fb ρ' loc) H H' → Dx K H' (Fb G.fb ρ' loc) v (.dict (dsiD l)) → Q v H') (ds.drop (i + 1)) acc ρ3,
      fun H3 ⟨ρ3, acc, a1, a2, a4, a5⟩ => ⟨_, by omega, ρ3, acc, rfl, a1, a2, a4, a5⟩, fun x H3 y3 => ?_⟩
    obtain ⟨m3, d3⟩ := yl x H3 y3
    have R3 := (R2.more m3).pin (m3 _ _ e2)
    refine ⟨G.pin D (.dK (dsiV acc)), loc, ρ2, d, R3, d3, hg _ _ _ _ (fun ρ4 q4 σ4 H4 R4 g4 w4 => ⟨w4.trans (wipe_wipe σ vs), ?_⟩) q2⟩
    unfold tYes
    simp only [if_true]
    have w4' : L2.wipe σ4 vs = L2.wipe (L2.wipe σ vs) vs := w4
    refine ⟨G.pin D (.dK (dsiV acc)), loc, ρ4, R4, hk _ _ _ (fun x ρ5 q5 v5 H5 R5 g5 d5 => ?_) q4⟩
    refine ⟨G.pin D (.dK (dsiV acc)), loc, ρ5, R5, hv _ _ _ (fun y ρ6 q6 v6 H6 R6 g6 d6 => ?_) q5⟩
    have g26 : Grow (Fb (G.plus D).fb ρ2 loc) (Fb (G.plus D).fb ρ6 loc) H2 H6 := (more_grow m3).trans (g4.trans (g5.trans g6))
    obtain ⟨R7, e7⟩ := R6.unpin h0 fun z => np (bs _ z)
    split at q6
    · cases d5
      cases d6
      rename_i s n
      obtain ⟨R8, g8⟩ := R7.wrP (o := .dK (dsiV (putS acc s n))) h0 np bs
      refine ⟨dsiV acc, Sum.inr s, rfl, e7, by rw [dsiV_len]; exact q6.1, ?_⟩
      rw [← dsiV_put]
      exact ⟨wipeS ρ6 vs, putS acc s n, R8.wipe w4', upd_same, ((g2.trans g26).trans g8).weak fun b z => Fb_wipe b z, q6.2⟩
    · exact q6.elim
section
variable {X : Cx} {kx vx tg iter : Expr} {scope : Scope} {pos spos : Pos} {mi : M (List D)} {g : GMn} {tk tv : M D}
theorem mono_dc {vs : List Nat} (hi : Mono mi) (hg : ∀ d ρ (k k' : List Slot → Prop), (∀ ρ', k ρ' → k' ρ') → g d ρ k → g d ρ k') (hk : Mono tk) (hv : Mono tv) : Mono (mDc mi g tk tv vs) :=
  fun ρ k k' w q => hi ρ _ _ (fun ds ρ1 q1 => mono_dcLoop hg hk hv (fun _ _ z => w _ _ z) ds _ _ q1) q
theorem em_dc (own : List (Str × Nat)) (hc : X.calm = true) (hN : X.N.Nodup) (hi : IM X tg iter mi) (ok : blkC X.N X.env.scope scope own = true)
    (hg : ∀ (s : Shared) (H : Hp) (C : Addr) (cl : List (Str × Addr)) (fp : List Addr), GM (X.blk s H scope (compEnvC scope cl C X.env) fp) (own.map (·.2)) tg g)
    (hk : ∀ (s : Shared) (H : Hp) (C : Addr) (cl : List (Str × Addr)) (fp : List Addr), EM (X.blk s H scope (compEnvC scope cl C X.env) fp) kx tk)
    (he : ∀ (s : Shared) (H : Hp) (C : Addr) (cl : List (Str × Addr)) (fp : List Addr), EM (X.blk s H scope (compEnvC scope cl C X.env) fp) vx tv) (hs : ∀ x, foldedSetIterable iter X.env x = pure x := by intro _; rfl) :
    EM X (.DictComp kx vx [⟨tg, iter, [], 0⟩] scope pos) (mDc mi g tk tv (own.map (·.2))) := by
  have z1 := (hg X.s_0 X.H_0 0 [] []).mono
  have z2 := (hk X.s_0 X.H_0 0 [] []).mono
  have z3 := (he X.s_0 X.H_0 0 [] []).mono
  exact ⟨mono_dc hi.mono z1 z2 z3, pe_weak (pe_dc (wi := TIof X.K mi) (g := TGof X.K (own.map (·.2)) g) (tt := tYes) (tk := TEof X.K tk) (tv := TEof X.K tv) hc hN hi.run (blkOk_by ok) (fun s H C cl fp => (hg s H C cl fp).run) (fun _ _ _ _ _ => pts_nil) (fun s H C cl fp => (hk s H C cl fp).run) (fun s H C cl fp => (he s H C cl fp).run) hs)
    fun σ H Q h => dc_meets hi.mono z1 z2 z3 h⟩
theorem sm_setDc (own : List (Str × Nat)) {i : Nat} {y : Str} {py : Pos} (hc : X.calm = true) (hN : X.N.Nodup) (hy : X.N[i]? = some y) (hyl : X.env.scope.names.lookup y = some .local)
    (hsw : swapsWith (.DictComp kx vx [⟨tg, iter, [], 0⟩] scope pos) (some (.Name y py)) spos.line X.env = pure true) (hi : IM X tg iter mi) (ok : blkC X.N X.env.scope scope own = true)
    (hg : ∀ (s : Shared) (H : Hp) (C : Addr) (cl : List (Str × Addr)) (fp : List Addr), GM (X.blk s H scope (compEnvC scope cl C X.env) fp) (own.map (·.2)) tg g)
    (hk : ∀ (s : Shared) (H : Hp) (C : Addr) (cl : List (Str × Addr)) (fp : List Addr), EM (X.blk s H scope (compEnvC scope cl C X.env) fp) kx tk)
    (he : ∀ (s : Shared) (H : Hp) (C : Addr) (cl : List (Str × Addr)) (fp : List Addr), EM (X.blk s H scope (compEnvC scope cl C X.env) fp) vx tv) (hs : ∀ x, foldedSetIterable iter X.env x = pure x := by intro _; rfl) :
    SM X (.Assign [.Name y py] (.DictComp kx vx [⟨tg, iter, [], 0⟩] scope pos) spos) (sSet i (mDc mi g tk tv (own.map (·.2)))) := by
  have z1 := (hg X.s_0 X.H_0 0 [] []).mono
  have z2 := (hk X.s_0 X.H_0 0 [] []).mono
  have z3 := (he X.s_0 X.H_0 0 [] []).mono
  have mm := mono_dc (vs := own.map (·.2)) hi.mono z1 z2 z3
  refine ⟨fun k k' ρ l q => mm ρ _ _ (fun _ ρ1 q1 => l.nx _ q1) q, ⟨fun pins s σ H D I h => ?_⟩⟩
  rw [exec_Assign_Name_used _ _ _ _ hsw]
  refine wpAny_bind (wpAny_standAt (wpAny_bind ?_))
  show wpAny _ X.A (do let _ ← comprehension (.DictComp kx vx [⟨tg, iter, [], 0⟩] scope pos) scope X.env (firstIterPos [⟨tg, iter, [], 0⟩] pos) newDict false (eval iter X.env) (some (assign (.Name y py) X.env))) _ _ s
  have h2 : tDc (TIof X.K mi) (TGof X.K (own.map (·.2)) g) tYes (TEof X.K tk) (TEof X.K tv) (own.map (·.2)) σ H (fun x H1 => gName i x σ H1 D.nx) := by
    obtain ⟨G, loc, ρ, k, R, q, l1, l2, l3, l4⟩ := h
    exact dc_meets hi.mono z1 z2 z3 ⟨G, loc, ρ, R, mm ρ _ _ (fun d ρ1 q1 v H1 R1 g1 d1 => l1 _ _ _ _ (R1.put i d1) (g1.trans put_grow) q1) q⟩
  refine wpAny_bind (thn (dc_core (Qf := fun _ s' => SP X pins D .next s') hc hN I hi.run (blkOk_by ok) (fun s H C cl fp => (hg s H C cl fp).run) (fun _ _ _ _ _ => pts_nil) (fun s H C cl fp => (hk s H C cl fp).run) (fun s H C cl fp => (he s H C cl fp).run) hs h2 fun L C s' m H' I' q hn f => ?_) fun _ s' hq => wpAny_pure (wpAny_pure hq))
  show wpAny _ _ (assign (.Name y py) X.env (.ref L)) _ _ _
  refine wpAny_assign_Name (store_ok2 (v := V.ref L) I' hN hy (.inl hyl) rfl (fun s2 I2 ⟨a, sb, ha⟩ => ?_) (.inr hyl))
  obtain ⟨f0, f1, f2, f3, f4, f5⟩ := f
  have haC : C ≠ a := by
    rcases ha with z | z
    · rw [z]; exact f1
    · exact fun e => f4 y a z e.symm
  refine ⟨m, hn.sameBut sb haC, fun h3 sb3 => ?_⟩
  exact ⟨_, H', I2.turned (t' := s2.toks) (fun b o hb e => (sb3.2 b hb).trans e) f0 f1 f3 f4 f5, q⟩
end
def dgetD : P2
  | .dict l, .str x, k => ∃ l' n, l = dsiD l' ∧ (l'.find? fun kv => decide (kv.1 = x)) = some (x, n) ∧ k (.int n)
  | _, _, _ => False
theorem pm_dget (a b : D) : Pm1 (dgetD a b) := fun k k' w q => by
  unfold dgetD at q ⊢
  split at q
  · obtain ⟨l', n, e, f, q⟩ := q; exact ⟨l', n, e, f, w _ q⟩
  · exact q.elim
theorem dsiV_val (l : List (Str × Int)) (x : Str) (n : Int) (h : (l.find? fun kv => decide (kv.1 = x)) = some (x, n)) : valV (dsiV l) (Sum.inr x : Key) = some (.int n) := by
  unfold valV dsiV
  rw [List.find?_map]
  have : ((fun kv : Key × V => decide (kv.1 = (Sum.inr x : Key))) ∘ fun p : Str × Int => ((Sum.inr p.1 : Key), V.int p.2)) = fun kv => decide (kv.1 = x) := by
    funext kv
    show decide ((Sum.inr kv.1 : Key) = Sum.inr x) = decide (kv.1 = x)
    exact decide_eq_decide.mpr ⟨fun z => Sum.inr.inj z, fun z => by rw [z]⟩
  rw [this, h]; rfl
theorem em_dget {X : Cx} {o i : Expr} {mo mi : M D} {pos : Pos} (hu : X.A.units + 1 < cLine) (ho : EM X o mo) (hi : EM X i mi) (hs : NoSl i) : EM X (.Subscript o i pos) (mBin dgetD mo mi) := by
  refine ⟨mono_bin pm_dget ho.mono hi.mono, pe_weak (pe_dget hu ho.run hi.run hs) ?_⟩
  rintro σ H Q ⟨G, loc, ρ, R, q⟩
  refine ⟨G, loc, ρ, R, ho.mono ρ _ _ (fun a ρ1 q1 v H1 R1 g1 d1 => ?_) q⟩
  refine ⟨G, loc, ρ1, R1, hi.mono ρ1 _ _ (fun b ρ2 q2 u H2 R2 g2 d2 => ?_) q1⟩
  unfold dgetD at q2
  split at q2
  · obtain ⟨l', n, rfl, f, q3⟩ := q2
    obtain ⟨p, rfl, e1, _⟩ := (d1.g g2).dsiA
    cases d2
    exact ⟨p, .int n, rfl, .inl ⟨_, Sum.inr _, .inl e1, rfl, (dsiV_val l' _ n f).symm⟩, q3 _ H2 R2 (g1.trans g2) (.int n)⟩
  · exact q2.elim
end DL

namespace DL
open PySem L2

/-! ### an owned list's item; a def given a new list; a global -/
def mIxO (i : Nat) (m : M D) : M D := fun ρ k => withOwn ρ i fun _ _ => m ρ fun e ρ1 => withOwn ρ1 i fun _ bs => match e with
  | .int j => ∃ d, atI bs j = some d ∧ k d ρ1
  | _ => False
def mFnBn (n : Nat) (F : FB) (mN ms : M (List D)) : M D := fun ρ k => mN ρ fun bs ρ1 => ms ρ1 fun ds ρ2 => ds.length = n ∧ F bs ds fun _ d _ => k d ρ2
section
variable {K : PySem.W.Frag} {G : Fr} {ρ : List Slot} {loc : Nat → Addr} {σ : L2.St} {H H' : Hp}
/-- all but the list at p, that nothing leads to, is kept -/
theorem Rep.offP {p : Addr} (R : Rep K (G.plus p) ρ loc σ H) (h0 : G.H0 p = none) (np : ¬ G.fb p) (bs : ∀ b, G.bw b → G.fb b) (kp : ∀ c o, c ≠ p → H c = some o → H' c = some o) (e : ∃ o, H' p = some o) :
    Rep K (G.plus p) ρ loc σ H' ∧ Grow (Fb (G.plus p).fb ρ loc) (Fb (G.plus p).fb ρ loc) H H' := by
  have g : Grow (Fb (G.plus p).fb ρ loc) (Fb (G.plus p).fb ρ loc) H H' := fun b u e n => ⟨kp b u (fun z => n (.inl (.inr z))) e, n⟩
  refine ⟨⟨R.len, fun i d e => ?_, fun i b ds e => ?_, R.apart, R.brw, R.new, fun b u e n => ?_, fun b e' => ?_, R.bwS, R.raw.step (fun _ _ _ _ e => ⟨e, rfl⟩) (fun j b ds e => .inl ⟨b, ds, e, rfl⟩) g (fun a u z e => kp a u (fun y => (R.raw.here z).2.2 (.inr y)) e) fun _ _ a b => ⟨a, b⟩⟩, g⟩
  · obtain ⟨v, h1, h2⟩ := R.dat i d e
    exact ⟨v, h1, h2.g g⟩
  · obtain ⟨h1, vs, h2, h3⟩ := R.own i b ds e
    refine ⟨h1, vs, kp _ _ (fun z => ?_) h2, h3.g g⟩
    cases b with
    | false => exact (R.new i ds e).2 (.inr z)
    | true => exact np (z ▸ bs _ (R.brw i ds e).2)
  · refine kp b u (fun z => ?_) (R.ext b u e n)
    rw [z] at e
    rw [show (G.plus p).H0 p = none from h0] at e; cases e
  · by_cases hb : b = p
    · rw [hb]; exact e
    · obtain ⟨u, q⟩ := R.fbS b e'
      exact ⟨u, kp b u hb q⟩
end
section
variable {X : Cx} {i : Nat} {x : Str} {p pos : Pos} {b : Expr} {mb : M D}
theorem em_ixO (hv : PE X (.Name x p) (tVar i)) (hb : EM X b mb) (hs : PlainIx b) : EM X (.Subscript (.Name x p) b pos) (mIxO i mb) := by
  refine ⟨fun ρ k k' w q => q.mono fun _ _ q => hb.mono ρ _ _ (fun e ρ1 q1 => q1.mono fun _ bs q2 => by
    cases e <;> first | exact q2.elim | exact q2.imp fun d z => ⟨z.1, w _ _ z.2⟩) q, pe_weak (pe_ix ix_list hv hb.run hs) ?_⟩
  rintro σ H Q ⟨G, loc, ρ, R, q⟩
  obtain ⟨c, cs, e0, q⟩ := q.get
  refine ⟨_, (R.own i c cs e0).1, G, loc, ρ, R, hb.mono ρ _ _ (fun e ρ1 q1 u H1 R1 g1 d1 => ?_) q⟩
  obtain ⟨c', bs, e1, q1⟩ := q1.get
  cases e <;> first | exact (show False from q1).elim | skip
  cases d1
  obtain ⟨d, e2, q2⟩ := q1
  obtain ⟨h1, ws, h2, h3⟩ := R1.own i c' bs e1
  obtain ⟨v, e3, d3⟩ := dx_atI h3 e2
  exact ⟨loc i, ws, _, v, rfl, rfl, .inl (.inl h2), e3, q2 v H1 R1 g1 d3⟩
/-- a global name's text, int .. -/
theorem em_gl {v : V} {u : Value} {d : D} (hm : X.mg x = some u) (r : RelV v u) (c : ∀ H F, Dx X.K H F v d) (hg : Gl X x := by rfl) (hd : (x == ("__debug__" : Str)) = false := by decide) : EM X (.Name x pos) (mPure d) := em_c (pe_glob hg hm r hd) c
theorem em_glS {z : Str} {t : Tok} (hm : X.mg x = some (.str z t)) (hg : Gl X x := by rfl) (hd : (x == ("__debug__" : Str)) = false := by decide) : EM X (.Name x pos) (mPure (.str z)) := em_gl (v := .str z) hm ⟨t, rfl⟩ (fun _ _ => .str z) hg hd
theorem em_glI {z : Int} {t : Tok} (hm : X.mg x = some (.int z t)) (hg : Gl X x := by rfl) (hd : (x == ("__debug__" : Str)) = false := by decide) : EM X (.Name x pos) (mPure (.int z)) := em_gl (v := .int z) hm ⟨t, rfl⟩ (fun _ _ => .int z) hg hd
end
section
variable {X : Cx} {k n : Nat} {f : Addr} {fd : FuncData} {ps : List Str} {x : Str} {p pos : Pos} {e : Expr} {es : List Expr} {m mN : M (List D)} {FF : FB}
theorem em_fnBn (hn : NM X e mN) (G : FnG X.prog X.w X.K X.mg X.base CX0 k f fd ps (spB X.K n FF)) (mF : PmB FF) (hr : Rm k X.A) (hg : Gl X x) (hm : X.mg x = some (.ref f)) (hk : PySem.W.keepIn X.K (.ref f) = true) (hb : Binds X.K fd ps [])
    (ha : AM X es m) (hdb : (x == ("__debug__" : Str)) = false := by decide) (he : starEach (e :: es) X.env = (false, eval e X.env) :: starEach es X.env := by rfl) (hpl : (backTo pos (starEach es X.env)).any (·.1) = false := by rfl) :
    EM X (.Call (.Name x p) (e :: es) [] pos) (mFnBn n FF mN m) := by
  refine ⟨fun ρ k k' w q => hn.mono ρ _ _ (fun bs ρ1 q1 => ha.mono ρ1 _ _ (fun ds ρ2 q2 => ⟨q2.1, mF bs ds _ _ (fun _ d _ q3 => w _ _ q3) q2.2⟩) q1) q, pe_weak (pe_callG G hr hg hm hk hb .nil pass0 (pa_cons hn.run ha.run he) hdb he hpl) ?_⟩
  rintro σ H Q ⟨G', loc, ρ, R, q⟩
  refine ⟨G', loc, ρ, R, hn.mono ρ _ _ (fun bs ρ1 q1 a ws H1 h0 np e1 R1 g1 d1 => ?_) q⟩
  refine ⟨G'.pin a (.lst ws), loc, ρ1, R1.pin e1, ha.mono ρ1 _ _ (fun ds ρ2 q2 vs H2 R2 g2 d2 => ?_) q1⟩
  have nb : ¬ G'.bw a := fun z => np (R.bwS a z)
  obtain ⟨R3, e3⟩ := R2.unpin h0 nb
  refine ⟨Fb (G'.plus a).fb ρ2 loc, a, vs, ds, bs, ws, by rw [List.append_nil], .inl (.inr rfl), R3.fbE, e3, d1.g g2, d2, q2.1, mF bs ds _ _ (fun c d bs' q3 v H3 m3 hw d3 _ => ?_) q2.2⟩
  obtain ⟨us, w1, _⟩ := hw
  obtain ⟨R4, g4⟩ := R3.offP h0 np R.bwS m3 ⟨_, w1⟩
  obtain ⟨R5, n5⟩ := R4.unplus R.bwS np
  exact q3 v H3 R5 (((g1.trans g2).trans g4).weak Fb.plus_sub) (d3.weak Fb.plus_sub)
end
end DL

namespace DL
open PySem L2

/-! ### a def and what it means, as one -/
structure OkS (P : Program) (w : World) (K : PySem.W.Frag) (mg : Str → Option Value) (base : Heap) (k : Nat) (f : Addr) (fd : FuncData) (ps : List Str) (n : Nat) (F : FS) : Prop where
  ok : FnG P w K mg base CX0 k f fd ps (sp0 K n F)
  pm : PmS F
structure OkB (P : Program) (w : World) (K : PySem.W.Frag) (mg : Str → Option Value) (base : Heap) (k : Nat) (f : Addr) (fd : FuncData) (ps : List Str) (n : Nat) (F : FB) : Prop where
  ok : FnG P w K mg base CX0 k f fd ps (spB K n F)
  pm : PmB F
section
variable {P : Program} {w : World} {K : PySem.W.Frag} {mg : Str → Option Value} {base : Heap} {x qual : Str} {st : Stmt} {f : Addr} {fd : FuncData} {N ps : List Str} {k n : Nat} {m : SMon}
theorem room0 (h : k ≤ 300) (env : Env) : Rm k (({ guards := some [] } : Around).deeper env) := ⟨⟨rfl, by show 0 + 1 + 3 * k + 5 < 1000; omega, by show 1 + 3 + 16 * k + 200 < 9900; omega⟩, rfl⟩
theorem okS_of (hk : k ≤ 300) (F : Fun K x qual st f fd) (S : FnScope N ps (defScope st))
    (body : ∀ (cdv : Value) (A : Around) (outer : List Env) (s : Shared) (H : Hp) (E : XK), Rm k (A.deeper (PyProof.Rows.envOfC qual (defScope st) s.heap.objs.size f cdv)) → BM (cxOf CX0 P w K mg base N qual (defScope st) f cdv A outer s H E).nox (defBody st) m) :
    OkS P w K mg base (k + 1) f fd ps ps.length (fnS m (N.length - ps.length)) :=
  ⟨fn0 F S body, pm_fnS (body .none { guards := some [] } [] {} (fun _ => none) (fun _ _ _ => False) (room0 hk _)).mono _⟩
theorem okB_of (hk : k ≤ 300) (F : Fun K x qual st f fd) (S : FnScope N ps (defScope st)) (hn : ps.length = n + 1) (hN : ps.length ≤ N.length)
    (body : ∀ (cdv : Value) (A : Around) (outer : List Env) (s : Shared) (H : Hp) (E : XK), Rm k (A.deeper (PyProof.Rows.envOfC qual (defScope st) s.heap.objs.size f cdv)) → BM (cxOf CX0 P w K mg base N qual (defScope st) f cdv A outer s H E).nox (defBody st) m) :
    OkB P w K mg base (k + 1) f fd ps n (fnB m (N.length - (n + 1))) :=
  ⟨fnb F S hn hN body, pm_fnB (body .none { guards := some [] } [] {} (fun _ => none) (fun _ _ _ => False) (room0 hk _)).mono _⟩
theorem okS_never : OkS P w K mg base k f fd ps n (fun _ _ => False) := by
  have no : ∀ vs H Q E, ¬ sp0 K n (fun _ _ => False) vs H Q E := fun vs H Q E ⟨_, _, _, _, _, h⟩ => h
  exact ⟨⟨fun vs H Q E h => (no vs H Q E h).elim, fun A outer s H args us vs Q E _ _ _ _ h => (no vs H Q E h).elim⟩, fun _ _ _ _ h => h⟩
theorem okB_never : OkB P w K mg base k f fd ps n (fun _ _ _ => False) := by
  have no : ∀ vs H Q E, ¬ spB K n (fun _ _ _ => False) vs H Q E := fun vs H Q E ⟨_, _, _, _, _, _, _, _, _, _, _, _, _, h⟩ => h
  exact ⟨⟨fun vs H Q E h => (no vs H Q E h).elim, fun A outer s H args us vs Q E _ _ _ _ h => (no vs H Q E h).elim⟩, fun _ _ _ _ _ h => h⟩
end
def fdivWD : P2
  | .int i, .int j, k => CDivW i j ∧ k (.int (i / j))
  | _, _, _ => False
theorem pm_fdivW (a b : D) : Pm1 (fdivWD a b) := fun k k' w q => by
  unfold fdivWD at q ⊢
  split at q
  · exact ⟨q.1, w _ q.2⟩
  · exact q.elim
theorem prim_fdivW {K : PySem.W.Frag} : Prim2 K (rI CDivW fun i j => .int (i / j)) fdivWD := by
  intro F H x y a b Q hF hx hy h
  unfold fdivWD at h
  split at h
  · cases hx; cases hy
    exact ⟨_, _, rfl, rfl, h.1, h.2.now (.int _)⟩
  · exact h.elim

/-! ### a, b = e1, e2 where a name is a cell's -/
theorem Rep.skip {K : PySem.W.Frag} {G : Fr} {ρ : List Slot} {loc : Nat → Addr} {σ : L2.St} {H : Hp} (R : Rep K G ρ loc σ H) {p : Addr} {o : HO} (hp : H p = none) : Rep K G ρ loc σ (upd H p o) := R.more (upd_more hp)
theorem PutsOk.g {K : PySem.W.Frag} {H H' : Hp} {F : AS} {G G' : Fr} {vs : List V} {us : List Put} (h : PutsOk K H F G G' vs us) (m : ∀ b o, H b = some o → H' b = some o) : PutsOk K H' F G G' vs us := by
  induction h with
  | nil => exact .nil
  | d dx _ ih => exact .d (dx.g (more_grow m)) ih
  | n h0 np hp dx _ ih => exact .n h0 np (m _ _ hp) (dx.g (more_grow m)) ih
section
variable {X : Cx} {es : List Expr} {ms : M (List Put)} {pos : Pos}
theorem sm_parT_of {tg : Expr} {g : TG} {is : List Nat} {k2 : Nat} {p2 : Pos} (ha : APM X es ms) (hg : PG X tg g) (hs : swapsWithSole [tg] (.Tuple es k2 p2) pos.line X.env = pure false) (hw : swappedStores [tg] (.Tuple es k2 p2) X.env = pure none) (h1 : (assignEach [tg] X.env).map (·.2) = [assign tg X.env])
    (hz : is.length ≤ sizeLine) (hgq : ∀ a vs σ H Q, H a = some (.tup vs) → vs.length = is.length → Q (putAll is vs σ) H → g (.ref a) σ H Q) : SM X (.Assign [tg] (.Tuple es k2 p2) pos) (sPar is ms) := by
  refine ⟨fun k k' ρ l q => ha.mono ρ _ _ (fun _ ρ1 q1 => ⟨q1.1, l.nx _ q1.2⟩) q, ps_weak (ps_asg (pe_tup ha.run) hg hs hw h1) ?_⟩
  rintro E σ H ⟨G, loc, ρ, k, R, q, l1, l2, l3, l4⟩
  refine ⟨G, loc, ρ, R, ha.mono ρ _ _ (fun us ρ1 q1 vs H1 G1 R1 g1 p1 => ?_) q⟩
  have hl : vs.length = is.length := p1.len.trans q1.1
  refine ⟨by rw [hl]; exact hz, fun p hp => hgq p vs σ _ _ upd_same hl ?_⟩
  have m := upd_more (o := .tup vs) hp
  obtain ⟨loc', R', s'⟩ := (p1.g m).rep is q1.1 R.bwS (R1.more m) fun b z => z
  exact l1 _ _ _ _ R' ((g1.trans (more_grow m)).weak s') q1.2
theorem sm_parT2 {i j : Nat} {x y : Str} {a b : Expr} {px py pt : Pos} {kt k2 : Nat} {p2 : Pos} (hc : X.calm = true) (hN : X.N.Nodup) (hi : X.N[i]? = some x) (hj : X.N[j]? = some y) (hij : i ≠ j) (hx : Loc X.env.scope x) (hy : Loc X.env.scope y) (ha : APM X [a, b] ms)
    (hfx : X.fn x = true ∨ X.env.scope.names.lookup x = some .local := by first | exact .inl rfl | exact .inr rfl) (hfy : X.fn y = true ∨ X.env.scope.names.lookup y = some .local := by first | exact .inl rfl | exact .inr rfl)
    (hs : swapsWithSole [.Tuple [.Name x px, .Name y py] kt pt] (.Tuple [a, b] k2 p2) pos.line X.env = pure false := by rfl) (hw : swappedStores [.Tuple [.Name x px, .Name y py] kt pt] (.Tuple [a, b] k2 p2) X.env = pure none := by rfl) :
    SM X (.Assign [.Tuple [.Name x px, .Name y py] kt pt] (.Tuple [a, b] k2 p2) pos) (sPar [i, j] ms) := by
  refine sm_parT_of ha (pg_tup (n := 2) hc (pgs_cons (pg_name (i := i) hN hi hx hfx) (pgs_cons (pg_name (i := j) hN hj hy hfy) pgs_nil))) hs hw rfl (by show 2 ≤ sizeLine; decide) fun q vs σ H Q e l h => ?_
  obtain ⟨v, w, rfl⟩ := two_of l
  exact ⟨q, _, rfl, .inl (.inl e), rfl, v, [w], rfl, w, [], rfl, rfl, by rw [putAll2 hij]; exact h⟩
theorem sm_parT3 {i j l : Nat} {x y z : Str} {a b c : Expr} {px py pz pt : Pos} {kt k2 : Nat} {p2 : Pos} (hc : X.calm = true) (hN : X.N.Nodup) (hi : X.N[i]? = some x) (hj : X.N[j]? = some y) (hl : X.N[l]? = some z) (hij : i ≠ j) (hil : i ≠ l) (hjl : j ≠ l) (hx : Loc X.env.scope x) (hy : Loc X.env.scope y) (hz : Loc X.env.scope z) (ha : APM X [a, b, c] ms)
    (hfx : X.fn x = true ∨ X.env.scope.names.lookup x = some .local := by first | exact .inl rfl | exact .inr rfl) (hfy : X.fn y = true ∨ X.env.scope.names.lookup y = some .local := by first | exact .inl rfl | exact .inr rfl) (hfz : X.fn z = true ∨ X.env.scope.names.lookup z = some .local := by first | exact .inl rfl | exact .inr rfl)
    (hs : swapsWithSole [.Tuple [.Name x px, .Name y py, .Name z pz] kt pt] (.Tuple [a, b, c] k2 p2) pos.line X.env = pure false := by rfl) (hw : swappedStores [.Tuple [.Name x px, .Name y py, .Name z pz] kt pt] (.Tuple [a, b, c] k2 p2) X.env = pure none := by rfl) :
    SM X (.Assign [.Tuple [.Name x px, .Name y py, .Name z pz] kt pt] (.Tuple [a, b, c] k2 p2) pos) (sPar [i, j, l] ms) := by
  refine sm_parT_of ha (pg_tup (n := 3) hc (pgs_cons (pg_name (i := i) hN hi hx hfx) (pgs_cons (pg_name (i := j) hN hj hy hfy) (pgs_cons (pg_name (i := l) hN hl hz hfz) pgs_nil)))) hs hw rfl (by show 3 ≤ sizeLine; decide) fun q vs σ H Q e l' h => ?_
  obtain ⟨v, w, u, rfl⟩ := three_of l'
  exact ⟨q, _, rfl, .inl (.inl e), rfl, v, [w, u], rfl, w, [u], rfl, u, [], rfl, rfl, by rw [putAll3 hij hil hjl]; exact h⟩
end
end DL

namespace DL
open PySem L2

/-! ### rules of reckoning with meanings -/
section
variable {k : D → Prop} {i j : Int} {x y : Str} {xs ys : List D} {a b : D} {p q : Bool}
theorem addD_ii : addD (.int i) (.int j) k = k (.int (i + j)) := rfl
theorem addD_ss : addD (.str x) (.str y) k = (x.length + y.length ≤ sizeLine ∧ k (.str (x ++ y))) := rfl
theorem addD_ll : addD (.list xs) (.list ys) k = (xs.length + ys.length ≤ sizeLine ∧ k (.list (xs ++ ys))) := rfl
theorem addD_tt : addD (.tuple xs) (.tuple ys) k = ((xs ≠ [] ∧ xs.length + ys.length ≤ sizeLine) ∧ k (.tuple (xs ++ ys))) := rfl
theorem subD_ii : subD (.int i) (.int j) k = k (.int (i - j)) := rfl
theorem mulD_ii : mulD (.int i) (.int j) k = (CMul i j ∧ k (.int (i * j))) := rfl
theorem mulD_si : mulD (.str x) (.int j) k = ((j < 16777217 ∧ -16777217 < j ∧ x.length * j.toNat ≤ sizeLine) ∧ k (.str (repS x j.toNat))) := rfl
theorem fdivD_ii : fdivD (.int i) (.int j) k = (CDiv i j ∧ k (.int (i / j))) := rfl
theorem fdivWD_ii : fdivWD (.int i) (.int j) k = (CDivW i j ∧ k (.int (i / j))) := rfl
theorem modD_ii : modD (.int i) (.int j) k = (0 < j ∧ k (.int (i % j))) := rfl
theorem powD_ii : powD (.int i) (.int j) k = (CPow i j ∧ k (.int (i ^ j.toNat))) := rfl
theorem divmodD_ii : divmodD [.int i, .int j] k = (CDiv i j ∧ k (.tuple [.int (i / j), .int (i % j)])) := rfl
theorem absD_i : absD [.int i] k = k (.int (if i < 0 then -i else i)) := rfl
theorem maxD_ii : maxD [.int i, .int j] k = k (.int (if j > i then j else i)) := rfl
theorem minD_ii : minD [.int i, .int j] k = k (.int (if j < i then j else i)) := rfl
theorem lenD_l : lenD [.list xs] k = k (.int xs.length) := rfl
theorem lenD_t : lenD [.tuple xs] k = k (.int xs.length) := rfl
theorem lenD_s : lenD [.str x] k = (x.length ≤ sizeLine ∧ k (.int x.length)) := rfl
theorem intD_b : intD [.bool p] k = k (.int (if p then 1 else 0)) := rfl
theorem intD_i : intD [.int i] k = k (.int i) := rfl
theorem strD_i : strD [.int i] k = (i.natAbs.log2 < 1920 ∧ k (.str (toString i))) := rfl
theorem tupleD_l : tupleD [.list xs] k = k (.tuple xs) := rfl
theorem tupleD_t : tupleD [.tuple xs] k = k (.tuple xs) := rfl
theorem ltD_ii : ltD (.int i) (.int j) k = k (.bool (decide (i < j))) := rfl
theorem leD_ii : leD (.int i) (.int j) k = k (.bool (decide (i ≤ j))) := rfl
theorem gtD_ii : gtD (.int i) (.int j) k = k (.bool (decide (j < i))) := rfl
theorem geD_ii : geD (.int i) (.int j) k = k (.bool (decide (j ≤ i))) := rfl
theorem isD_nn : isD .none .none k = k (.bool true) := rfl
theorem isD_sn : isD (.str x) .none k = k (.bool false) := rfl
theorem isD_in : isD (.int i) .none k = k (.bool false) := rfl
theorem isD_bn : isD (.bool p) .none k = k (.bool false) := rfl
theorem isD_ln : isD (.list xs) .none k = k (.bool false) := rfl
theorem isD_tn : isD (.tuple xs) .none k = k (.bool false) := rfl
theorem isD_bb : isD (.bool p) (.bool q) k = k (.bool (decide (p = q))) := rfl
theorem isnD_nn : isnD .none .none k = k (.bool false) := rfl
theorem isnD_sn : isnD (.str x) .none k = k (.bool true) := rfl
theorem isnD_in : isnD (.int i) .none k = k (.bool true) := rfl
theorem isnD_bn : isnD (.bool p) .none k = k (.bool true) := rfl
theorem isnD_ln : isnD (.list xs) .none k = k (.bool true) := rfl
theorem isnD_tn : isnD (.tuple xs) .none k = k (.bool true) := rfl
theorem isnD_bb : isnD (.bool p) (.bool q) k = k (.bool (!decide (p = q))) := rfl
theorem ixD_li : ixD (.list xs) (.int i) k = ∃ d, atI xs i = some d ∧ k d := rfl
theorem ixD_ti : ixD (.tuple xs) (.int i) k = ∃ d, atI xs i = some d ∧ k d := rfl
theorem ixD_si : ixD (.str x) (.int i) k = (x.length ≤ sizeLine ∧ ∃ c, atI x.cps.toList i = some c ∧ k (.str ⟨#[c]⟩)) := rfl
theorem eqD_ii : eqD (.int i) (.int j) k = k (.bool (decide (i = j))) := by
  unfold eqD
  have e : PyData.eqv (.int i) (.int j) = decide (i = j) := rfl
  rw [e]
  exact propext ⟨fun h => h.2, fun h => ⟨⟨rfl, rfl⟩, h⟩⟩
theorem neD_ii : neD (.int i) (.int j) k = k (.bool (!decide (i = j))) := by
  unfold neD
  have e : PyData.eqv (.int i) (.int j) = decide (i = j) := rfl
  rw [e]
  exact propext ⟨fun h => h.2, fun h => ⟨⟨rfl, rfl⟩, h⟩⟩
theorem shaped_s : SeqAt.shaped (.str x) = PyData.strOk x := by
  unfold SeqAt.shaped PyData.depth PyData.canLay0
  simp
theorem eqD_ss : eqD (.str x) (.str y) k = ((PyData.strOk x = true ∧ PyData.strOk y = true) ∧ k (.bool (x == y))) := by
  unfold eqD
  rw [shaped_s, shaped_s]; rfl
theorem neD_ss : neD (.str x) (.str y) k = ((PyData.strOk x = true ∧ PyData.strOk y = true) ∧ k (.bool (!(x == y)))) := by
  unfold neD
  rw [shaped_s, shaped_s]; rfl
theorem eqD_bb : eqD (.bool p) (.bool q) k = k (.bool (p == q)) := by
  unfold eqD
  exact propext ⟨fun h => h.2, fun h => ⟨⟨rfl, rfl⟩, h⟩⟩
theorem neD_bb : neD (.bool p) (.bool q) k = k (.bool (!(p == q))) := by
  unfold neD
  exact propext ⟨fun h => h.2, fun h => ⟨⟨rfl, rfl⟩, h⟩⟩
theorem at0 {α : Type} {x : α} {xs : List α} : atI (x :: xs) 0 = some x := by
  unfold atI ixN
  rw [if_pos (by decide), if_pos (by rw [List.length_cons]; omega)]; rfl
theorem at1 {α : Type} {x y : α} {xs : List α} : atI (x :: y :: xs) 1 = some y := by
  unfold atI ixN
  rw [if_pos (by decide), if_pos (by rw [List.length_cons, List.length_cons]; omega)]; rfl
theorem at2 {α : Type} {x y z : α} {xs : List α} : atI (x :: y :: z :: xs) 2 = some z := by
  unfold atI ixN
  rw [if_pos (by decide), if_pos (by rw [List.length_cons, List.length_cons, List.length_cons]; omega)]; rfl
theorem atI_of {α : Type} {xs : List α} {i : Int} {x : α} (h0 : 0 ≤ i) (h : xs[i.toNat]? = some x) : atI xs i = some x := by
  have hl := (List.getElem?_eq_some_iff.mp h).1
  unfold atI ixN
  rw [if_pos h0, if_pos (by omega)]; exact h
theorem atI_ex {α : Type} {xs : List α} {i : Int} (h0 : 0 ≤ i) (h : i < xs.length) : ∃ x, atI xs i = some x ∧ x ∈ xs := by
  have hl : i.toNat < xs.length := by omega
  exact ⟨xs[i.toNat], atI_of h0 (List.getElem?_eq_getElem hl), List.getElem_mem hl⟩
theorem ixN_of {n : Nat} {i : Int} (h0 : 0 ≤ i) (h : i < n) : ixN n i = some i.toNat := by
  unfold ixN
  rw [if_pos h0, if_pos h]
theorem bool_ite {α : Sort _} {u v : α} : (if true = true then u else v) = u := if_pos rfl
theorem bool_ite' {α : Sort _} {u v : α} : (if false = true then u else v) = v := if_neg Bool.false_ne_true
end

/-! ### owned lists, by what stands there -/
theorem withOwn_iff {ρ : List Slot} {j : Nat} {f : Bool → List D → Prop} : withOwn ρ j f ↔ ∃ b bs, ρ[j]? = some (.own b bs) ∧ f b bs := by
  refine ⟨fun h => h.get, fun ⟨b, bs, e, h⟩ => ?_⟩
  unfold withOwn
  rw [e]; exact h
section
variable {c : Bool} {xs : List D}
theorem ex_ownT : (∃ (b : Bool) (bs : List D), Slot.own c xs = Slot.own b bs) = True := propext ⟨fun _ => trivial, fun _ => ⟨c, xs, rfl⟩⟩
theorem ex_ownP {P : Bool → List D → Prop} : (∃ (b : Bool) (bs : List D), Slot.own c xs = Slot.own b bs ∧ P b bs) = P c xs := propext ⟨fun ⟨b, bs, e, h⟩ => by cases e; exact h, fun h => ⟨c, xs, rfl, h⟩⟩
theorem ex_own1 {P : List D → Prop} : (∃ bs : List D, Slot.own c xs = Slot.own c bs ∧ P bs) = P xs := propext ⟨fun ⟨bs, e, h⟩ => by cases e; exact h, fun h => ⟨xs, rfl, h⟩⟩
theorem ex_some {α : Type} {x : α} {P : α → Prop} : (∃ d, some x = some d ∧ P d) = P x := propext ⟨fun ⟨d, e, h⟩ => by cases e; exact h, fun h => ⟨x, rfl, h⟩⟩
end

/-! ### loops by an invariant -/
theorem for_inv {g : GMn} {body : SMon} {k : SK} (I : Nat → List Slot → Prop) : ∀ (ds : List D) (n : Nat) (ρ : List Slot), I n ρ →
    (∀ (j : Nat) (d : D) (ρ : List Slot), ds[j]? = some d → I (n + j) ρ → g d ρ fun ρ1 => body (loopK k (I (n + j + 1))) ρ1) → (SMono body) → (∀ d ρ (k k' : List Slot → Prop), (∀ ρ', k ρ' → k' ρ') → g d ρ k → g d ρ k') → (∀ ρ, I (n + ds.length) ρ → k.nx ρ) → forLoop g body k ds ρ
  | [], n, ρ, h, _, _, _, e => e ρ h
  | d :: ds, n, ρ, h, st, mb, mg, e => by
    have s0 := st 0 d ρ rfl h
    refine mg d ρ _ _ (fun ρ1 q1 => ?_) s0
    have key : ∀ ρ2, I (n + 0 + 1) ρ2 → forLoop g body k ds ρ2 := fun ρ2 h2 => for_inv I ds (n + 1) ρ2 h2 (fun j d' ρ' e' h' => by
      have := st (j + 1) d' ρ' (by simpa using e') (by rw [show n + (j + 1) = n + 1 + j by omega]; exact h')
      rw [show n + (j + 1) + 1 = n + 1 + j + 1 by omega] at this
      exact this) mb mg (fun ρ' h' => e ρ' (by rw [List.length_cons, show n + (ds.length + 1) = n + 1 + ds.length by omega]; exact h'))
    exact mb (loopK k (I (n + 0 + 1))) (loopK k (forLoop g body k ds)) ρ1 ⟨key, fun _ _ _ z => z, fun _ z => z, key⟩ q1
/-- .. whose body and targets mean what they say -/
theorem for_do {g : GMn} {body : SMon} {k : SK} (I : List D → List Slot → Prop) (st : ∀ d ds ρ, I (d :: ds) ρ → g d ρ fun ρ1 => body (loopK k (fun ρ2 => forLoop g body k ds ρ2)) ρ1) (e : ∀ ρ, I [] ρ → k.nx ρ) : ∀ ds ρ, I ds ρ → forLoop g body k ds ρ
  | [], ρ, h => e ρ h
  | d :: ds, ρ, h => st d ds ρ h
end DL

namespace DL
open PySem PySem.Spec PyProof.Rows L2

/-! ### a, *b = a tuple -/
section
variable {prog : Program} {w : World} {A : Around} {E : Value → Shared → Prop} {s : Shared}
theorem star_one {t : Addr} {items : Array Value} {x : Value} {Q : List Value → Shared → Prop} (hh : A.handled = none) (ht : IsTup s.heap t items) (h0 : items[0]? = some x) (hz : items.size ≤ sizeLine)
    (hQ : ∀ (h' : Heap) (tk : Nat), (∀ b o, b ≠ s.heap.objs.size → s.heap.get? b = some o → h'.get? b = some o) → Q [x, .ref h'.objs.size] { s with heap := h'.push { cls := .type "list", data := .seq (items.toList.drop 1).toArray }, toks := tk }) :
    wpAny (model prog w) A (unpackItems (.ref t) 2 (some 1)) Q E s := by
  have hlt : t ≠ s.heap.objs.size := by obtain ⟨o, ho, _⟩ := ht; exact Nat.ne_of_lt (Heap.lt_size ho)
  have hs1 : 1 ≤ items.size := by
    have := (Array.getElem?_eq_some_iff.mp h0).1
    omega
  unfold unpackItems
  refine wpAny_bind ?_
  unfold notIterableAtAll
  refine wpAny_bind (wpAny_specialOf ht.typeIs slot_tuple_iter.lookup ?_)
  refine wpAny_pure ?_
  simp only [Bool.false_eq_true, if_false]
  refine wpAny_bind (wpAny_holding (iter_tuple ht ?_))
  refine wpAny_bind (wpAny_holding (draw_tuple hlt 1 0 _ _ ⟨_, Heap.get?_push_size _ rfl, rfl, rfl⟩ (ht.push _) (by omega) fun h₁ hit₁ hs₁ => ?_))
  have ht₁ : IsTup h₁ t items := (ht.push _).extBut hs₁.extBut hlt
  obtain ⟨oi, hoi, _⟩ := id hit₁
  obtain ⟨ol, hol, _⟩ := id ht₁
  have e0 : (items.toList.drop 0).take 1 = [x] := by
    have : items.toList[0]? = some x := by rw [Array.getElem?_toList]; exact h0
    cases q : items.toList with
    | nil => rw [q] at this; cases this
    | cons a r => rw [q] at this; cases this; rfl
  rw [e0]
  show wpAny _ _ (if ([x] : List Value).length < 1 then _ else _) _ _ _
  rw [if_neg (by simp)]
  refine wpAny_bind (wpAny_holding (PySem.W.kun_collect (s := { s with heap := h₁ }) (T := "tuple_iterator") (.inr (.inr (.inr rfl))) (Walks.tuple (A := A.in1) hh s.heap.objs.size t hlt items) (fun j u st => st.1.typeIs) (k := 1) hs1 ⟨hit₁, ht₁⟩ (Heap.lt_size hoi) (Heap.lt_size hol) (fun h₂ tk hk => ?_) hz))
  show wpAny _ _ (if (items.toList.drop 1).length < 0 then _ else _) _ _ _
  rw [if_neg (by omega)]
  show wpAny _ _ (newList ((items.toList.drop 1).take ((items.toList.drop 1).length - 0)) >>= fun d => pure ([x] ++ [d] ++ (items.toList.drop 1).drop ((items.toList.drop 1).length - 0))) _ _ _
  rw [Nat.sub_zero, List.take_length, List.drop_length]
  refine wpAny_bind (wpAny_newObj_type (wpAny_pure ?_) (by show (items.toList.drop 1).toArray.size ≤ sizeLine; simp; omega))
  exact hQ h₂ tk fun b o hb e => hk b o hb (hs₁.extBut b o hb (Heap.get?_push_of_some _ e))
end
def tStar (K : PySem.W.Frag) (i j : Nat) (te : TE) : TS := fun D σ H => te σ H fun v H1 => ∃ a x xs, v = .ref a ∧ SqT K H1 a (x :: xs) ∧ ∀ p, H1 p = Option.none → D.nx ((σ.set i (some x)).set j (some (.ref p))) (upd H1 p (.lst xs))
theorem ps_star {X : Cx} {i j : Nat} {x y : Str} {e : Expr} {te : TE} {px py sy tpos pos : Pos} {kt : Nat} (hc : X.calm = true) (hN : X.N.Nodup) (hi : X.N[i]? = some x) (hj : X.N[j]? = some y) (hx : Loc X.env.scope x) (hy : Loc X.env.scope y) (he : PE X e te)
    (hfx : X.fn x = true ∨ X.env.scope.names.lookup x = some .local := by first | exact .inl rfl | exact .inr rfl) (hfy : X.fn y = true ∨ X.env.scope.names.lookup y = some .local := by first | exact .inl rfl | exact .inr rfl)
    (hs : swapsWithSole [.Tuple [.Name x px, .Starred (.Name y py) sy] kt tpos] e pos.line X.env = pure false := by rfl) (hw : swappedStores [.Tuple [.Name x px, .Starred (.Name y py) sy] kt tpos] e X.env = pure none := by rfl)
    (h1 : (assignEach [.Tuple [.Name x px, .Starred (.Name y py) sy] kt tpos] X.env).map (·.2) = [assign (.Tuple [.Name x px, .Starred (.Name y py) sy] kt tpos) X.env] := by rfl)
    (h2 : assignEach [.Name x px, .Starred (.Name y py) sy] X.env = [(false, assign (.Name x px) X.env), (true, assign (.Name y py) X.env)] := by rfl) :
    PS X (.Assign [.Tuple [.Name x px, .Starred (.Name y py) sy] kt tpos] e pos) (tStar X.K i j te) := by
  refine ⟨fun pins s σ H D I h => ?_⟩
  refine wpAny_Assign_stores (thn (he.run pins s σ H _ I h) fun v s1 ⟨u, H1, I1, r1, a, x0, xs, eu, hq, q⟩ => ?_) hs hw
  subst eu
  cases r1
  rw [h1]
  show wpAny _ _ (assign (.Tuple [.Name x px, .Starred (.Name y py) sy] kt tpos) X.env (.ref a)) _ _ _
  obtain ⟨its, rv, ht, hz⟩ := I1.tuple hq
  cases rv with
  | cons r rr =>
    rename_i u us
    rw [assign_Tuple]
    refine wpAny_bind (wpAny_standAt ?_)
    unfold unpack
    rw [h2]
    have hl := rr.length
    refine wpAny_bind (wpAny_holding (star_one (I1.ok.hd hc) ht (x := u) (by simp) (by simp; simp at hz; omega) fun h' tk hk => ?_))
    have I2 : L2.Inv X pins σ H1 { s1 with heap := h', toks := tk } := I1.kept (t' := tk) fun b o e => hk b o (Nat.ne_of_lt (Heap.lt_size e)) e
    have hn : H1 h'.objs.size = Option.none := I2.hok.fresh (Nat.le_refl _)
    have I3 : L2.Inv X pins σ (upd H1 h'.objs.size (.lst xs)) { s1 with heap := h'.push { cls := .type "list", data := .seq us.toArray }, toks := tk } := I2.lnew (t' := tk) rr (by simp at hz; omega)
    have e3 : ((u :: us).toArray.toList.drop 1).toArray = us.toArray := by simp
    rw [e3]
    show wpAny _ _ (assignInOrder [assign (.Name x px) X.env, assign (.Name y py) X.env] [u, .ref h'.objs.size]) _ _ _
    refine assignInOrder_cons (wpAny_assign_Name (store_ok I3 hN hi hx r (fun s4 I4 => ?_) hfx))
    refine assignInOrder_cons (wpAny_assign_Name (store_ok (v := V.ref h'.objs.size) I4 hN hj hy rfl (fun s5 I5 => ?_) hfy))
    exact assignInOrder_nil ⟨_, _, I5, q _ hn⟩
def sStar (i j : Nat) (m : M D) : SMon := fun k ρ => m ρ fun d ρ1 => match d with
  | .tuple (x :: xs) => k.nx ((ρ1.set i (.dat x)).set j (.own false xs))
  | _ => False
theorem sm_star {X : Cx} {i j : Nat} {x y : Str} {e : Expr} {m : M D} {px py sy tpos pos : Pos} {kt : Nat} (hc : X.calm = true) (hN : X.N.Nodup) (hi : X.N[i]? = some x) (hj : X.N[j]? = some y) (hx : Loc X.env.scope x) (hy : Loc X.env.scope y) (he : EM X e m)
    (hfx : X.fn x = true ∨ X.env.scope.names.lookup x = some .local := by first | exact .inl rfl | exact .inr rfl) (hfy : X.fn y = true ∨ X.env.scope.names.lookup y = some .local := by first | exact .inl rfl | exact .inr rfl)
    (hs : swapsWithSole [.Tuple [.Name x px, .Starred (.Name y py) sy] kt tpos] e pos.line X.env = pure false := by rfl) (hw : swappedStores [.Tuple [.Name x px, .Starred (.Name y py) sy] kt tpos] e X.env = pure none := by rfl)
    (h1 : (assignEach [.Tuple [.Name x px, .Starred (.Name y py) sy] kt tpos] X.env).map (·.2) = [assign (.Tuple [.Name x px, .Starred (.Name y py) sy] kt tpos) X.env] := by rfl)
    (h2 : assignEach [.Name x px, .Starred (.Name y py) sy] X.env = [(false, assign (.Name x px) X.env), (true, assign (.Name y py) X.env)] := by rfl) :
    SM X (.Assign [.Tuple [.Name x px, .Starred (.Name y py) sy] kt tpos] e pos) (sStar i j m) := by
  refine ⟨fun k k' ρ l q => he.mono ρ _ _ (fun d ρ1 q1 => by
    cases d <;> first | exact q1.elim | skip
    rename_i ds
    cases ds with
    | nil => exact q1.elim
    | cons a r => exact l.nx _ q1) q, ps_weak (ps_star hc hN hi hj hx hy he.run hfx hfy hs hw h1 h2) ?_⟩
  rintro E σ H ⟨G, loc, ρ, k, R, q, l1, l2, l3, l4⟩
  refine ⟨G, loc, ρ, R, he.mono ρ _ _ (fun d ρ1 q1 v H1 R1 g1 d1 => ?_) q⟩
  cases d <;> first | exact (show False from q1).elim | skip
  rename_i ds
  cases ds with
  | nil => exact (show False from q1).elim
  | cons b r =>
    obtain ⟨a, xs, rfl, e1, da⟩ := d1.sqt
    cases da with
    | cons dv dr =>
      rename_i v vs
      refine ⟨a, v, vs, rfl, e1, fun p hp => ?_⟩
      have R2 := R1.put i dv
      obtain ⟨a1, a2, a3, a4, a5, a6⟩ := new_list R2 (dr.weak fun b z => Fb_put (by intro _ _ z; cases z) b z) hp
      exact l1 _ _ _ _ (a4.putN R.bwS a1 a2 j a3 a6) ((g1.trans put_grow).trans (a5.weak fun b z => Fb_putN b z)) q1
end DL

namespace DL
open PySem PySem.Spec PyProof.Rows L2

/-! ### sum(xs, start=i), max(xs, default=d) -/
theorem args_sum_start (a v : Value) : argsOk "sum" ⟨[a], [(Str.ofString "start", v)]⟩ := by unfold argsOk; kernel_rfl
section
variable {prog : Program} {w : World} {A : Around} {I : Addr} {fp wr : List Addr} {n : Nat} {P : Nat → Value → Prop} {St : Nat → Heap → Prop}
def shP (P : Nat → Value → Prop) : Nat → Value → Prop
  | 0, _ => False
  | i + 1, v => P i v
def shSt (St : Nat → Heap → Prop) : Nat → Heap → Prop
  | 0, _ => False
  | i + 1, h => St i h
def shV (i : Int) (val : Nat → Int) : Nat → Int
  | 0 => i
  | j + 1 => val j
theorem walks_sh (W : Walks prog w A I fp wr n P St) : Walks prog w A I fp wr (n + 1) (shP P) (shSt St) where
  sub := W.sub
  frame := fun i h h' st k => by
    cases i with
    | zero => exact st
    | succ i => exact W.frame i h h' st k
  item := fun i s Q E hi st hQ => by
    cases i with
    | zero => exact (show False from st).elim
    | succ i => exact W.item i s Q E (by omega) st hQ
  done := fun s Q E st hQ => W.done s Q E st hQ
  self := fun i s Q E st hQ => by
    cases i with
    | zero => exact (show False from st).elim
    | succ i => exact W.self i s Q E st hQ
theorem preSum_sh (i : Int) (val : Nat → Int) : ∀ n, preSum (shV i val) (n + 1) = i + preSum val n
  | 0 => by show preSum (shV i val) 0 + shV i val 0 = _; show (0 : Int) + i = i + 0; omega
  | n + 1 => by
    show preSum (shV i val) (n + 1) + shV i val (n + 1) = _
    rw [preSum_sh i val n]
    show i + preSum val n + val n = i + (preSum val n + val n)
    omega
end
section
variable {prog : Program} {w : World} {A : Around} {E : Value → Shared → Prop} {s : Shared}
theorem sum_start_raw {l : Addr} {its : List Value} {ns : List Int} {i : Int} {t0 : Tok} {Q : Value → Shared → Prop} (hh : A.handled = none) (hl : s.heap.IsList l its.toArray) (hi : IntsAre its ns)
    (h : ∀ h' tk t', (∀ b o, s.heap.get? b = some o → h'.get? b = some o) → Q (.int (i + ns.sum) t') { s with heap := h', toks := tk }) :
    wpAny (model prog w) A (call (.builtin "sum") [.ref l] [(Str.ofString "start", .int i t0)]) Q E s := by
  obtain ⟨xs, e⟩ := hi.allInts.items
  have hn : numsOf (intItems xs).toList = ns := by rw [← e]; exact hi.numsOf
  rw [nums_intItems] at hn
  rw [e] at hl
  refine PyProof.Rows.kmk_tree F.kind_sum F.plain_sum F.entry_sum (args_sum_start _ _) ?_
  unfold Builtin.«sum»
  simp only [List.length_cons, List.length_nil]
  rw [if_neg (by decide)]
  refine wpAny_bind (wpAny_of_eq (show Builtin.Builtins.bindParams "sum" ["start"] 0 ⟨[], [(Str.ofString "start", .int i t0)]⟩ = pure [some (.int i t0)] from rfl) ?_)
  refine wpAny_bind (iter_intList hl fun s₂ e2 st hfp hlI => ?_)
  subst e2
  have W := walks_sh (Walks.list (prog := prog) (w := w) (A := A.in1) hh _ l hlI (intItems xs))
  have e1 : preSum (shV i (numAt xs)) 1 = i := by show (0 : Int) + i = i; omega
  have hv : ∀ j v, shP (fun i v => (intItems xs)[i]? = some v) j v → ∃ t, v = .int (shV i (numAt xs) j) t := fun j v hp => by
    cases j with
    | zero => exact (show False from hp).elim
    | succ j => exact intItems_at hp
  have hSf : (s.heap.push { cls := .type "list_iterator", data := .fields #[.ref l, .int 0 0] }).objs.size ∉ [s.heap.objs.size, l] := fun hm => Nat.lt_irrefl _ (hfp _ hm)
  have e4 : preSum (shV i (numAt xs)) ((intItems xs).size + 1) = i + ns.sum := by
    rw [preSum_sh, ← hn, preSum_eq, List.take_of_length_le (by simp [intItems])]
  show wpAny _ _ (if _ then _ else _) _ _ _
  split
  case isTrue =>
    refine wpAny_bind (wpAny_rule (wpAny_bind (wpAny_mkInt (wpAny_bind (wpAny_pure ?_)))))
    simp only [List.forIn_cons, List.forIn_nil]
    refine wpAny_bind (wpAny_bind (wpAny_bind (wpAny_isInstance (T := "int") (b := false) (typeIs_int _ _ _) PySem.sub_int_str ?_)))
    simp only [Bool.false_eq_true, if_false]
    refine wpAny_pure (wpAny_bind (wpAny_bind (wpAny_isInstance (T := "int") (b := false) (typeIs_int _ _ _) PySem.sub_int_bytes ?_)))
    simp only [Bool.false_eq_true, if_false]
    refine wpAny_pure (wpAny_bind (wpAny_bind (wpAny_isInstance (T := "int") (b := false) (typeIs_int _ _ _) PySem.sub_int_bytearray ?_)))
    simp only [Bool.false_eq_true, if_false]
    refine wpAny_pure (wpAny_pure ?_)
    refine wpAny_bind (wpAny_newObj_type ?_)
    refine wpAny_pure ⟨plainId_quiet F.plain_sum_loop _, codeAny_sum_loopG W (shV i (numAt xs)) hv _ hSf (intItems xs).size 1 _ s.toks 0 0 (Or.inl rfl) (by omega) (by omega)
      (W.frame 1 _ _ st fun b _ o e => Heap.get?_push_of_some _ e) (by rw [e1]; exact Heap.get?_push_size _ rfl) fun h' tk t' hk => ?_⟩
    rw [e4]
    exact h h' tk t' (old_kept (l := l) fun b o hb e => hk b o hb (Nat.ne_of_lt (Heap.lt_size e)) (Heap.get?_push_of_some _ e))
  case isFalse =>
    refine wpAny_bind (wpAny_pure ?_)
    simp only [List.forIn_cons, List.forIn_nil]
    refine wpAny_bind (wpAny_bind (wpAny_bind (wpAny_isInstance (T := "int") (b := false) (typeIs_int _ _ _) PySem.sub_int_str ?_)))
    simp only [Bool.false_eq_true, if_false]
    refine wpAny_pure (wpAny_bind (wpAny_bind (wpAny_isInstance (T := "int") (b := false) (typeIs_int _ _ _) PySem.sub_int_bytes ?_)))
    simp only [Bool.false_eq_true, if_false]
    refine wpAny_pure (wpAny_bind (wpAny_bind (wpAny_isInstance (T := "int") (b := false) (typeIs_int _ _ _) PySem.sub_int_bytearray ?_)))
    simp only [Bool.false_eq_true, if_false]
    refine wpAny_pure (wpAny_pure ?_)
    refine wpAny_bind (wpAny_newObj_type ?_)
    refine wpAny_pure ⟨plainId_quiet F.plain_sum_loop _, codeAny_sum_loopG W (shV i (numAt xs)) hv _ hSf (intItems xs).size 1 _ t0 0 2 (Or.inr rfl) (by omega) (by omega)
      (W.frame 1 _ _ st fun b _ o e => Heap.get?_push_of_some _ e) (by rw [e1]; exact Heap.get?_push_size _ rfl) fun h' tk t' hk => ?_⟩
    rw [e4]
    exact h h' tk t' (old_kept (l := l) fun b o hb e => hk b o hb (Nat.ne_of_lt (Heap.lt_size e)) (Heap.get?_push_of_some _ e))
def rSumS (K : PySem.W.Frag) : List V → Hp → VK → Prop := fun vs H Q => ∃ (a : Addr) (ns : List Int) (i : Int), vs = [V.ref a, V.int i] ∧ SqL K H a (ns.map V.int) ∧ Q (.int (i + ns.sum)) H
def CallRK1 (X : Cx) (f : Value) (nm : Str) (r : List V → Hp → VK → Prop) : Prop := CallRK X f [nm] fun xs zs H Q => ∃ x z, xs = [x] ∧ zs = [z] ∧ r [x, z] H Q
theorem crk_sum {X : Cx} (hc : X.calm = true) : CallRK1 X (.builtin "sum") (Str.ofString "start") (rSumS X.K) := by
  intro pins s σ H vs zs us ws Q I r rz h
  obtain ⟨x, z, rfl, rfl, a, ns, i, e, hs, q⟩ := h
  injection e with e1 e2
  injection e2 with e2 _
  subst e1; subst e2
  obtain ⟨its, rv, hl, _⟩ := I.list hs
  rw [Vals.ref1 r]
  obtain ⟨w1, rfl, rw1⟩ := vals1 rz
  obtain ⟨t, rfl⟩ := (show ∃ t, w1 = Value.int i t from rw1)
  exact sum_start_raw (I.ok.hd hc) hl.isList rv.ints fun h' tk t' hk => ⟨.int _, H, I.kept hk, ⟨_, rfl⟩, q⟩
def maxI (d : Int) : List Int → Int
  | [] => d
  | n :: r => r.foldl max n
def rMaxD (K : PySem.W.Frag) : List V → Hp → VK → Prop := fun vs H Q => ∃ (a : Addr) (ns : List Int) (i : Int), vs = [V.ref a, V.int i] ∧ SqL K H a (ns.map V.int) ∧ Q (.int (maxI i ns)) H
theorem ints_reads {h : Heap} : ∀ {its : List Value} {ns : List Int}, IntsAre its ns → ReadsAll h its (ns.map PyData.int) []
  | _, _, .nil => .nil
  | _, _, .cons n t r => .cons (as := []) (bs := []) (.int n t) (ints_reads r)
theorem ints_depth : ∀ ns : List Int, PyData.depthAll (ns.map PyData.int) ≤ 1
  | [] => by simp [PyData.depthAll]
  | n :: r => by
    have := ints_depth r
    simp only [List.map_cons, PyData.depthAll, PyData.depth]
    omega
theorem ints_alike (ns : List Int) : PySem.W.AlikeAll (ns.map PyData.int) := by
  refine ⟨fun x hx y hy => ?_, fun x hx => ?_⟩
  · obtain ⟨a, _, rfl⟩ := List.mem_map.mp hx
    obtain ⟨b, _, rfl⟩ := List.mem_map.mp hy
    rfl
  · obtain ⟨a, _, rfl⟩ := List.mem_map.mp hx
    exact fun z => nomatch z
theorem crk_max {X : Cx} (hc : X.calm = true) (hu : X.A.units + 64 < cLine) : CallRK1 X (.builtin "max") (Str.ofString "default") (rMaxD X.K) := by
  intro pins s σ H vs zs us ws Q I r rz h
  obtain ⟨x, z, rfl, rfl, a, ns, i, e, hs, q⟩ := h
  injection e with e1 e2
  injection e2 with e2 _
  subst e1; subst e2
  obtain ⟨its, rv, hl, _⟩ := I.list hs
  rw [Vals.ref1 r]
  obtain ⟨w1, rfl, rw1⟩ := vals1 rz
  obtain ⟨t, rfl⟩ := (show ∃ t, w1 = Value.int i t from rw1)
  have hd := ints_depth ns
  refine PySem.W.max_list_default (I.ok.hd hc) hl.isList (by simpa using ints_reads rv.ints) (ints_alike ns) (by omega) (fun e0 h' tk hk => ?_) fun y ys j v h' tk bs e0 hv rd hk => ?_
  · have e1 : ns = [] := by simpa using e0
    subst e1
    exact ⟨.int _, H, I.kept hk, ⟨_, rfl⟩, q⟩
  · cases ns with
    | nil => cases e0
    | cons n r =>
      injection e0 with e1 e2
      subst e1; subst e2
      rw [PySem.W.maxD_ints] at rd
      cases rd
      exact ⟨.int _, H, I.kept hk, ⟨_, rfl⟩, q⟩
end

/-! ### by data -/
def intsOf : List D → Option (List Int)
  | [] => some []
  | .int b :: ds => (intsOf ds).map (b :: ·)
  | _ => none
theorem intsOf_eq : ∀ {xs : List D} {bs : List Int}, intsOf xs = some bs → xs = bs.map PyData.int
  | [], bs, h => by cases h; rfl
  | d :: ds, bs, h => by
    cases d <;> first | (cases h; done) | skip
    obtain ⟨cs, h1, rfl⟩ := Option.map_eq_some_iff.mp (show (intsOf ds).map _ = some bs from h)
    rw [intsOf_eq h1]; rfl
theorem intsOf_map : ∀ ns : List Int, intsOf (ns.map PyData.int) = some ns
  | [] => rfl
  | n :: r => by show (intsOf (r.map PyData.int)).map _ = _; rw [intsOf_map r]; rfl
def sumSD : PC1
  | [.list xs, .int i], k => ∃ ns, intsOf xs = some ns ∧ k (.int (i + ns.sum))
  | _, _ => False
def maxSD : PC1
  | [.list xs, .int i], k => ∃ ns, intsOf xs = some ns ∧ k (.int (maxI i ns))
  | _, _ => False
theorem pm_sumS : ∀ ds, Pm1 (sumSD ds) := by
  intro ds k k' w q
  match ds with
  | [] => exact q.elim
  | [d] => cases d <;> exact q.elim
  | [d, e] => cases d <;> cases e <;> first | exact q.elim | exact ⟨_, q.choose_spec.1, w _ q.choose_spec.2⟩
  | d :: e :: f :: r => cases d <;> cases e <;> exact q.elim
theorem pm_maxS : ∀ ds, Pm1 (maxSD ds) := by
  intro ds k k' w q
  match ds with
  | [] => exact q.elim
  | [d] => cases d <;> exact q.elim
  | [d, e] => cases d <;> cases e <;> first | exact q.elim | exact ⟨_, q.choose_spec.1, w _ q.choose_spec.2⟩
  | d :: e :: f :: r => cases d <;> cases e <;> exact q.elim
theorem dx_ints {K : PySem.W.Frag} {H : Hp} {F : AS} : ∀ {ns : List Int} {vs : List V}, DxAll K H F vs (ns.map PyData.int) → vs = ns.map V.int
  | [], _, .nil => rfl
  | n :: r, _, .cons d ds => by cases d; rw [dx_ints ds]; rfl
theorem prim_sumS {K : PySem.W.Frag} : PrimC K (rSumS K) sumSD := by
  intro F H vs ds Q hF hd h
  match ds with
  | [] => exact (show False from h).elim
  | [d] => cases d <;> exact (show False from h).elim
  | d :: e :: f :: r => cases d <;> cases e <;> exact (show False from h).elim
  | [d, e] =>
    obtain ⟨v, u, rfl, dx, dy⟩ := dx_two hd
    cases d <;> cases e <;> first | exact (show False from h).elim | skip
    obtain ⟨ns, hb, q⟩ := h
    rw [intsOf_eq hb] at dx
    obtain ⟨p, xs, rfl, e, _, da⟩ := dx.sql
    rw [dx_ints da] at e
    cases dy
    exact ⟨p, ns, _, rfl, .inl (.inl e), q.now (.int _)⟩
theorem prim_maxS {K : PySem.W.Frag} : PrimC K (rMaxD K) maxSD := by
  intro F H vs ds Q hF hd h
  match ds with
  | [] => exact (show False from h).elim
  | [d] => cases d <;> exact (show False from h).elim
  | d :: e :: f :: r => cases d <;> cases e <;> exact (show False from h).elim
  | [d, e] =>
    obtain ⟨v, u, rfl, dx, dy⟩ := dx_two hd
    cases d <;> cases e <;> first | exact (show False from h).elim | skip
    obtain ⟨ns, hb, q⟩ := h
    rw [intsOf_eq hb] at dx
    obtain ⟨p, xs, rfl, e, _, da⟩ := dx.sql
    rw [dx_ints da] at e
    cases dy
    exact ⟨p, ns, _, rfl, .inl (.inl e), q.now (.int _)⟩
/-- f(a, nm=b), f built in -/
def mKw (q : PC1) (m m' : M D) : M D := fun ρ k => m ρ fun d ρ1 => m' ρ1 fun d' ρ2 => q [d, d'] fun r => k r ρ2
section
variable {X : Cx} {x nm : Str} {p pos kpos : Pos} {e e' : Expr} {m m' : M D} {id : String} {r : List V → Hp → VK → Prop} {q : PC1}
theorem em_kw1 (hc : CallRK1 X (.builtin id) nm r) (hp : PrimC X.K r q) (mp : ∀ ds, Pm1 (q ds)) (hg : Gl X x) (hm : X.mg x = none) (hv : bootBuiltins x = some (.builtin id)) (ha : EM X e m) (hb : EM X e' m') (hn : x ≠ "__name__" := by decide) (hdb : (x == ("__debug__" : Str)) = false := by decide)
    (h1 : starEach [e] X.env = [(false, eval e X.env)] := by rfl) (he : backTo pos (starEach [e] X.env) = (false, eval e X.env) :: backTo pos (starEach [] X.env) := by rfl) (hpl : (backTo pos (starEach [e] X.env)).any (·.1) = false := by rfl)
    (hall : (backToKw pos (keywordEach [⟨some nm, e', kpos⟩] X.env)).all (·.1.isSome) = true := by rfl) (hnone : (backToKw pos (keywordEach [⟨some nm, e', kpos⟩] X.env)).any (·.1.isNone) = false := by rfl) (hks : (backToKw pos (keywordEach [⟨some nm, e', kpos⟩] X.env)).filterMap (·.1) = [nm] := by rfl) :
    EM X (.Call (.Name x p) [e] [⟨some nm, e', kpos⟩] pos) (mKw q m m') := by
  refine ⟨fun ρ k k' w z => ha.mono ρ _ _ (fun d ρ1 z1 => hb.mono ρ1 _ _ (fun d' ρ2 z2 => mp _ _ _ (fun r z3 => w _ _ z3) z2) z1) z, pe_weak (pe_callBK hc hg hm hv (pa_cons ha.run pa_nil h1) (pk_cons hb.run pk_nil) hn hdb he hpl hall hnone hks) ?_⟩
  rintro σ H Q ⟨G, loc, ρ, R, z⟩
  refine ⟨G, loc, ρ, R, ha.mono ρ _ _ (fun d ρ1 z1 v H1 R1 g1 d1 => ?_) z⟩
  refine ⟨G, loc, ρ1, R1, hb.mono ρ1 _ _ (fun d' ρ2 z2 v' H2 R2 g2 d2 => ?_) z1⟩
  refine ⟨v, v', rfl, rfl, hp (Fb G.fb ρ2 loc) H2 _ _ Q R2.fbE (.cons (d1.g g2) (.cons d2 .nil)) (mp _ _ _ (fun r z3 w H3 m3 d3 => z3 w H3 (R2.more m3) ((g1.trans g2).trans (more_grow m3)) d3) z2)⟩
theorem em_sumS (hc : X.calm = true) (hm : X.mg "sum" = none) (ha : EM X e m) (hb : EM X e' m') (hg : Gl X "sum" := by rfl)
    (h1 : starEach [e] X.env = [(false, eval e X.env)] := by rfl) (he : backTo pos (starEach [e] X.env) = (false, eval e X.env) :: backTo pos (starEach [] X.env) := by rfl) (hpl : (backTo pos (starEach [e] X.env)).any (·.1) = false := by rfl)
    (hall : (backToKw pos (keywordEach [⟨some "start", e', kpos⟩] X.env)).all (·.1.isSome) = true := by rfl) (hnone : (backToKw pos (keywordEach [⟨some "start", e', kpos⟩] X.env)).any (·.1.isNone) = false := by rfl) (hks : (backToKw pos (keywordEach [⟨some "start", e', kpos⟩] X.env)).filterMap (·.1) = [("start" : Str)] := by rfl) :
    EM X (.Call (.Name "sum" p) [e] [⟨some "start", e', kpos⟩] pos) (mKw sumSD m m') :=
  em_kw1 (crk_sum hc) prim_sumS pm_sumS hg hm (by decide +kernel) ha hb (by decide) (by decide) h1 he hpl hall hnone hks
theorem em_maxS (hu : X.A.units + 64 < cLine) (hc : X.calm = true) (hm : X.mg "max" = none) (ha : EM X e m) (hb : EM X e' m') (hg : Gl X "max" := by rfl)
    (h1 : starEach [e] X.env = [(false, eval e X.env)] := by rfl) (he : backTo pos (starEach [e] X.env) = (false, eval e X.env) :: backTo pos (starEach [] X.env) := by rfl) (hpl : (backTo pos (starEach [e] X.env)).any (·.1) = false := by rfl)
    (hall : (backToKw pos (keywordEach [⟨some "default", e', kpos⟩] X.env)).all (·.1.isSome) = true := by rfl) (hnone : (backToKw pos (keywordEach [⟨some "default", e', kpos⟩] X.env)).any (·.1.isNone) = false := by rfl) (hks : (backToKw pos (keywordEach [⟨some "default", e', kpos⟩] X.env)).filterMap (·.1) = [("default" : Str)] := by rfl) :
    EM X (.Call (.Name "max" p) [e] [⟨some "default", e', kpos⟩] pos) (mKw maxSD m m') :=
  em_kw1 (crk_max hc hu) prim_maxS pm_maxS hg hm PyProof.Rows.boot_max ha hb (by decide) (by decide) h1 he hpl hall hnone hks
end
end DL

namespace DL
open PySem PySem.Spec PyProof.Rows L2

/-! ### sets of ints and texts, with what walking them gives -/
def kOf : Value → Key
  | .int i _ => .inl i
  | .str x _ => .inr x
  | _ => .inl 0
def eK (e : Int × Value) : Key := kOf e.2
def GoodW (w : World) (e : Int × Value) : Prop := keyIs (eK e) e.2 = true ∧ e.1 = keyH w (eK e)
/-- the set at a has the keys L, each once, in some order -/
def SetW (w : World) (h : Heap) (a : Addr) (L : List Key) : Prop :=
  ∃ o es ep t, h.get? a = some o ∧ o.ExactSet ∧ o.data = .set es ep t ∧ (∀ e ∈ es.toList, GoodW w e) ∧ (es.toList.map eK).Perm L ∧ L.Nodup ∧
    es.size < scanBound ∧ t.fits es.size = true ∧ Ris t.place.toList ∧ (w.params.followText "set-order" = true ∨ t.led = true)
theorem kOf_is {k : Key} {v : Value} (h : keyIs k v = true) : kOf v = k := by
  rcases keyIs_shape h with ⟨i, t, rfl, rfl⟩ | ⟨x, t, rfl, rfl⟩ <;> rfl
theorem is_scan {k : Key} {v : Value} (h : keyIs k v = true) : v.scannable = true := by
  rcases keyIs_shape h with ⟨i, t, rfl, rfl⟩ | ⟨x, t, rfl, rfl⟩ <;> rfl
def hasK (k : Key) (L : List Key) : Bool := L.any fun j => decide (j = k)
theorem hasK_iff {k : Key} {L : List Key} : hasK k L = true ↔ k ∈ L := by
  unfold hasK
  rw [List.any_eq_true]
  constructor
  · rintro ⟨j, hj, e⟩
    exact of_decide_eq_true e ▸ hj
  · exact fun h => ⟨k, h, decide_eq_true rfl⟩
section
variable {P : Program} {w : World} {h h' : Heap} {a : Addr} {L : List Key}
theorem SetW.at (R : SetW w h a L) (k : ∀ o, h.get? a = some o → h'.get? a = some o) : SetW w h' a L := by
  obtain ⟨o, es, ep, t, ho, r⟩ := R
  exact ⟨o, es, ep, t, k o ho, r⟩
theorem SetW.perm {L' : List Key} (R : SetW w h a L) (p : L.Perm L') : SetW w h a L' := by
  obtain ⟨o, es, ep, t, ho, hx, hd, g, pm, nd, r⟩ := R
  exact ⟨o, es, ep, t, ho, hx, hd, g, pm.trans p, p.nodup_iff.mp nd, r⟩
theorem goodW_elems {l : List (Int × Value)} (g : ∀ e ∈ l, GoodW w e) : ElemsOf (mixKind P w) l := fun e he => ⟨⟨eK e, (g e he).1, (g e he).2⟩, is_scan (g e he).1⟩
theorem goodW_mem {l : List (Int × Value)} (g : ∀ e ∈ l, GoodW w e) (k : Key) : k ∈ l.map eK ↔ ∃ e ∈ l, (mixKind P w).is k e.2 = true := by
  rw [List.mem_map]
  constructor
  · rintro ⟨e, he, q⟩
    exact ⟨e, he, q ▸ (g e he).1⟩
  · rintro ⟨e, he, q⟩
    exact ⟨e, he, kOf_is q⟩
theorem SetW.setOf (R : SetW w h a L) : h.SetOf (mixKind P w) a (fun k => hasK k L) L.length := by
  obtain ⟨o, es, ep, t, ho, hx, hd, g, pm, nd, hb, hf, _⟩ := R
  refine ⟨o, es, ep, t, ho, hx, hd, goodW_elems g, fun k => ?_, hb, hf, ?_⟩
  · rw [hasK_iff, ← pm.mem_iff]
    exact goodW_mem g k
  · rw [← pm.length_eq, List.length_map, Array.length_toList]
theorem setW_fresh {h : Heap} (w : World) : SetW w (h.push { cls := .type "set", dict := none, data := .set #[] 0 (.fresh 0 0 (!w.params.followText "set-order")) }) h.objs.size [] := by
  refine ⟨_, #[], 0, _, Heap.get?_push_size _ rfl, ⟨rfl, rfl, rfl⟩, rfl, fun e he => by simp at he, by simp, List.nodup_nil, by decide, rfl, List.Pairwise.nil, ?_⟩
  cases q : w.params.followText "set-order" with
  | true => exact .inl rfl
  | false => exact .inr rfl
end
def insK (k : Key) (L : List Key) : List Key := if hasK k L = true then L else L ++ [k]
section
variable {P : Program} {w : World} {A : Around} {E : Value → Shared → Prop} {s : Shared} {a : Addr} {L : List Key}
/-- behind the laying of one: the table may be laid anew -/
theorem addW_tail {g : Bool → Sem Unit} (hg : ∀ (b : Bool) (s₁ : Shared) (Q' : Unit → Shared → Prop), Q' () s₁ → wpAny (model P w) A (g b) Q' E s₁)
    {o : Obj} {es es1 : Array (Int × Value)} {ep : Nat} {t t2 : SetTable} {wd : Bool} {R : Option Bool → Shared → Prop} (ho : s.heap.get? a = some o) (hex : o.ExactSet) (hd : o.data = .set es ep t)
    (g1 : ∀ e ∈ es1.toList, GoodW w e) (p1 : (es1.toList.map eK).Perm L) (nd : L.Nodup) (hb : es1.size < scanBound) (hf : t2.fits es1.size = true) (hr : Ris t2.place.toList) (hl : w.params.followText "set-order" = true ∨ t2.led = true)
    (hR : ∀ h', Heap.SameBut a s.heap h' → SetW w h' a L → R (some true) { s with heap := h' }) :
    wpAny (model P w) A (do
        storeSet a es1 t2
        if (!wd && t2.tooFull) = true then do
            g (relayAll t2 es1 (SetTable.grown es1.size)).2.2
            storeSet a (relayAll t2 es1 (SetTable.grown es1.size)).1 (relayAll t2 es1 (SetTable.grown es1.size)).2.1
            pure (some true)
          else pure (some true)) R E s := by
  refine wpAny_bind (wpAny_storeSet_of ho hd ?_ (fits_of_scanBound hb))
  have ho1 := store_at (es' := es1) (t' := t2) ho hd
  have sb1 := Heap.SameBut.update s.heap a (Obj.putSet es1 t2)
  by_cases hc : (!wd && t2.tooFull) = true
  · rw [if_pos hc]
    have pm := relayAll_perm t2 es1 (SetTable.grown es1.size)
    have hf3 := relayAll_fits t2 es1 (SetTable.grown es1.size)
    have hr3 := relayAll_ris t2 es1 (SetTable.grown es1.size)
    have hl3 := relayAll_led t2 es1 (SetTable.grown es1.size)
    generalize relayAll t2 es1 (SetTable.grown es1.size) = Z at pm hf3 hr3 hl3 ⊢
    obtain ⟨es2, t3, gv⟩ := Z
    dsimp only at pm hf3 hr3 hl3 ⊢
    have hb2 : es2.size < scanBound := by rw [← Array.length_toList, pm.length_eq, Array.length_toList]; exact hb
    refine wpAny_bind (hg _ _ _ (wpAny_bind (wpAny_storeSet_of ho1 rfl ?_ (fits_of_scanBound hb2))))
    exact wpAny_pure (hR _ (sb1.trans (Heap.SameBut.update _ a _)) ⟨_, es2, _, t3, store_at (es' := es2) (t' := t3) ho1 rfl, hex, rfl, fun e he => g1 e (pm.mem_iff.mp he), (pm.map eK).trans p1, nd, hb2, hf3, hr3, hl.imp id fun z => by rw [hl3]; exact z⟩)
  · rw [if_neg hc]
    exact wpAny_pure (hR _ sb1 ⟨_, es1, _, t2, ho1, hex, rfl, g1, p1, nd, hb, hf, hr, hl⟩)
theorem addW_hashed {k : Key} {v : Value} {Q : Bool → Shared → Prop} (hk : keyIs k v = true) (R : SetW w s.heap a L) (room : L.length + 1 < scanBound)
    (hQ : ∀ b h', Heap.SameBut a s.heap h' → SetW w h' a (insK k L) → Q b { s with heap := h' }) :
    wpAny (model P w) A (setAddHashed a v ((mixKind P w).hash k)) Q E s := by
  obtain ⟨o, es, ep, t, ho, hex, hd, g, pm, nd, hb, hf, hr, hl⟩ := R
  have hsc := is_scan hk
  have hel : ElemsOf (mixKind P w) es.toList := goodW_elems g
  unfold setAddHashed setAddHashedIn
  refine wpAny_holding (wpAny_bind (wpAny_setState_of ho hd hf ?_))
  dsimp only
  rw [byScan_of hsc hb hel]
  simp only [↓reduceIte]
  unfold setAddByScan
  refine wpAny_bind (wpAny_bind (wpAny_rule (wpAny_bind (wpAny_setScan_of (knd := mixKind P w) hk ho hd hf hel ?_))))
  cases hfi : List.findIdx? (fun e => (mixKind P w).is k e.2) es.toList with
  | some j =>
    dsimp only
    obtain ⟨hj, pj, _⟩ := List.findIdx?_eq_some_iff_getElem.mp hfi
    have hm : k ∈ L := pm.mem_iff.mp ((goodW_mem (P := P) g k).2 ⟨es.toList[j], List.getElem_mem hj, pj⟩)
    refine wpAny_pure (wpAny_pure (hQ _ s.heap (Heap.SameBut.refl a s.heap) ?_))
    unfold insK
    rw [if_pos (hasK_iff.mpr hm)]
    exact ⟨o, es, ep, t, ho, hex, hd, g, pm, nd, hb, hf, hr, hl⟩
  | none =>
    dsimp only
    have hm : k ∉ L := fun z => by
      obtain ⟨e, he, q⟩ := (goodW_mem (P := P) g k).1 (pm.mem_iff.mpr z)
      have c := List.findIdx?_eq_none_iff.mp hfi e he
      rw [q] at c
      cases c
    have hgw : ∀ (b : Bool) {s₁ : Shared} {Q' : Unit → Shared → Prop}, Q' () s₁ → wpAny (model P w) A (match b with | true => rule "set.scan.the-table-gave-way" | false => pure ()) Q' E s₁ :=
      fun b s₁ Q' q => by cases b <;> first | exact wpAny_pure q | exact wpAny_rule q
    have q1 := layNew_perm t es ((mixKind P w).hash k) v
    have hf1 := layNew_fits t es ((mixKind P w).hash k) v
    have hr1 := layNew_ris t es ((mixKind P w).hash k) v hr
    have hl1 := layNew_led t es ((mixKind P w).hash k) v
    generalize layNew t es ((mixKind P w).hash k) v = Z at q1 hf1 hr1 hl1 ⊢
    obtain ⟨es1, t1, wd, gv⟩ := Z
    dsimp only at q1 hf1 hr1 hl1 ⊢
    rw [Array.toList_push] at q1
    have pl : (es1.toList.map eK).Perm (insK k L) := by
      unfold insK
      rw [if_neg fun z => hm (hasK_iff.mp z)]
      refine (q1.map eK).trans ?_
      rw [List.map_append]
      have e1 : [((mixKind P w).hash k, v)].map eK = [k] := by show [kOf v] = [k]; rw [kOf_is hk]
      rw [e1]
      exact pm.append_right _
    have nd1 : (insK k L).Nodup := by
      unfold insK
      rw [if_neg fun z => hm (hasK_iff.mp z)]
      exact List.nodup_append.mpr ⟨nd, by simp, fun x hx y hy => by rw [List.mem_singleton.mp hy]; exact fun z => hm (z ▸ hx)⟩
    have g1 : ∀ e ∈ es1.toList, GoodW w e := fun e he => by
      rcases List.mem_append.mp (q1.mem_iff.mp he) with z | z
      · exact g e z
      · rw [List.mem_singleton.mp z]
        exact ⟨by show keyIs (kOf v) v = true; rw [kOf_is hk]; exact hk, by show keyH w k = keyH w (kOf v); rw [kOf_is hk]⟩
    have hb1 : es1.size < scanBound := by
      have e1 := pl.length_eq
      rw [List.length_map, Array.length_toList] at e1
      unfold insK at e1
      rw [if_neg fun z => hm (hasK_iff.mp z), List.length_append] at e1
      simp at e1
      omega
    have hled : w.params.followText "set-order" = true ∨ t1.led = true := hl.imp id fun z => by rw [hl1]; exact z
    refine wpAny_bind (hgw _ ?_)
    split
    · refine wpAny_bind ?_
      rw [hashByValue_scannable 8 hsc]
      refine wpAny_pure (addW_tail ?_ ho hex hd g1 pl nd1 hb1 ?_ ?_ ?_ ?_)
      · intro b s₁ Q' q; cases b <;> first | exact wpAny_pure q | exact wpAny_rule q
      · first | (split <;> first | exact hf1 | exact SetTable.fits_plain_off hf1) | exact hf1
      · first | (split <;> exact hr1) | exact hr1
      · first | (split <;> exact hled) | exact hled
      · intro h' sb r; dsimp only; exact wpAny_pure (hQ _ h' sb r)
    · refine wpAny_bind (wpAny_pure ?_)
      simp only [↓reduceIte]
      refine addW_tail ?_ ho hex hd g1 pl nd1 hb1 hf1 hr1 hled ?_
      · intro b s₁ Q' q; cases b <;> first | exact wpAny_pure q | exact wpAny_rule q
      · intro h' sb r; dsimp only; exact wpAny_pure (hQ _ h' sb r)
/-- found.add(k) -/
theorem addW {k : Key} {v : Value} {Q : Value → Shared → Prop} (hk : keyIs k v = true) (R : SetW w s.heap a L) (room : L.length + 1 < scanBound)
    (hQ : ∀ h', Heap.SameBut a s.heap h' → SetW w h' a (insK k L) → Q .none { s with heap := h', toks := s.toks + 1 }) :
    wpAny (model P w) A (call (.builtin "set.add") [.ref a, v]) Q E s := by
  have hS := R.setOf (P := P)
  refine wpAny_call_entry F.slot_set_add hS.typeIs F.entry_set_add ?_ (F.args_set_add_2 _ _)
  unfold Builtin.«set.add» Builtin.Frozenset.oneOther
  simp only [List.isEmpty_nil, bind_assoc]
  unfold Builtin.Frozenset.addrOf setAdd
  refine wpAny_bind (wpAny_pure ?_)
  try dsimp only
  refine wpAny_bind (wpAny_pure ?_)
  try dsimp only
  refine wpAny_bind (wpAny_holding (wpAny_bind ((mixKind P w).pyHash hk ?_)))
  refine addW_hashed (s := { s with toks := s.toks + 1 }) hk R room fun b h' sb r => ?_
  show wpAny _ _ (ret Value.none) _ _ _
  exact wpAny_pure ⟨_, rfl, hQ h' sb r⟩
end
end DL

namespace DL
open PySem PySem.Spec PyProof.Rows L2

section
variable {P : Program} {w : World} {A : Around} {E : Value → Shared → Prop} {s : Shared} {a : Addr}
/-- sorted of a set of texts -/
theorem sortedW_txt {xs : List Str} {Q : Value → Shared → Prop} (R : SetW w s.heap a (xs.map Sum.inr)) (hh : A.handled = none)
    (hQ : ∀ s' p (out : Array Value) (c : Nat) (ys : List Str), (∀ b o, s.heap.get? b = some o → s'.heap.get? b = some o) → s'.gens = s.gens → s'.os = s.os → s.heap.objs.size ≤ p →
      s'.heap.get? p = some (seqObj "list" out c) → StrsAre out.toList ys → ys.Perm xs → sortedS ys = true → Q (.ref p) s') :
    wpAny (model P w) A (call (.builtin "sorted") [.ref a]) Q E s := by
  obtain ⟨o, es, ep, t, ho, hex, hd, g, pm, nd, hb, hf, hr, hl⟩ := R
  refine Calls.call_function_entry kind_sorted plain_sorted entry_sorted (args_sorted1 _) ?_
  unfold Builtin.«sorted»
  refine wpAny_bind (m := checkCount "sorted" 1 1 _) (wpAny_pure ?_)
  refine wpAny_bind (collect_set (A := A.in1) hh ⟨o, ho, hex.1, hd⟩ hf hb hr hl fun s1 vs k1 hz g1 o1 pv => ?_)
  have hvl : vs.length = es.size := by rw [pv.length_eq, List.length_map, Array.length_toList]
  have hall : ∀ v ∈ vs, ∃ x t, v = Value.str x t := fun v hv => by
    obtain ⟨e, he, q⟩ := List.mem_map.mp (pv.mem_iff.mp hv)
    have m1 : eK e ∈ xs.map Sum.inr := pm.mem_iff.mp (List.mem_map.mpr ⟨e, he, rfl⟩)
    obtain ⟨x, _, ex⟩ := List.mem_map.mp m1
    have g2 := (g e he).1
    rw [← ex] at g2
    rcases keyIs_shape g2 with ⟨i, t, z, _⟩ | ⟨y, t, z, z2⟩
    · cases z
    · exact ⟨y, t, by rw [← q]; exact z2⟩
  have hS := strsAre_map vs hall
  have hL : vs.length ≤ sizeLine := by
    have : scanBound = 4096 := rfl
    rw [hvl, sizeLine_eq]; omega
  refine wpAny_bind (wpAny_newList ?_ hL)
  have hoL : (s1.heap.push (seqObj "list" vs.toArray 0)).get? s1.heap.objs.size = some (seqObj "list" vs.toArray 0) := Heap.get?_push_size _ rfl
  refine wpAny_bind (wpAny_holding (wpAny_call_entry slot_list_sort ⟨_, hoL, rfl⟩ entry_list_sort (list_sort_treeKAny strKind_oneLt hoL hS.keysOf (fun v₁ v₂ rest e => keyKind_strs (by rw [← e]; exact hS)) hL fun st' a1 a2 => ⟨_, rfl, ?_⟩) (args_list_sort _)))
  obtain ⟨ys, y1, y2, y3⟩ := sorted_out_str hS a1 a2
  obtain ⟨c, hc⟩ := sortedHeap_at (vs := vs) (out := (arrOf st').map (·.2)) hoL
  have hk : ∀ v ∈ vs, Sum.inr (strOf v) = kOf v := fun v hv => by
    obtain ⟨x, t, rfl⟩ := hall v hv
    rfl
  have px : (vs.map strOf).Perm xs := by
    have q : ((vs.map strOf).map (Sum.inr (α := Int))).Perm (xs.map Sum.inr) := by
      have e1 : (vs.map strOf).map (Sum.inr (α := Int)) = vs.map kOf := by
        rw [List.map_map]
        exact List.map_congr_left fun v hv => hk v hv
      rw [e1]
      refine ((pv.map kOf).trans ?_)
      rw [List.map_map]
      exact pm
    have q2 := q.map (fun k : Key => match k with | .inr x => x | .inl _ => (⟨#[]⟩ : Str))
    rw [List.map_map, List.map_map] at q2
    simpa [Function.comp_def] using q2
  refine wpAny_pure ⟨_, rfl, hQ _ s1.heap.objs.size _ c ys (fun b u e => ?_) g1 o1 hz hc y1 (y2.trans px) y3⟩
  have q := k1 b u e
  have hlt := Heap.lt_size q
  show (sortedHeap (s1.heap.push (seqObj "list" vs.toArray 0)) s1.heap.objs.size vs _).get? b = some u
  rw [sortedHeap_old (Nat.ne_of_lt hlt) (by rw [size_push']; exact Nat.lt_succ_of_lt hlt)]
  exact Heap.get?_push_of_some _ q
end
/-- the set as a tracked thing -/
def SetWO (w : World) (a : Addr) (L : List Key) : HO := .ext fun h => SetW w h a L
theorem setWO_new {w : World} {P : Program} {H : Hp} {h : Heap} {a : Addr} {L : List Key} (R : SetW w h a L) : ObjOk P w H h a (SetWO w a L) := by
  have ⟨o, _, _, _, ho, _⟩ := R
  exact ⟨R, ⟨o, ho⟩, fun h1 h2 p k => SetW.at p k⟩
def rSortedW (w : World) : List V → Hp → VK → Prop := fun vs H Q => ∃ (a : Addr) (xs : List Str), vs = [V.ref a] ∧ H a = some (SetWO w a (xs.map Sum.inr)) ∧
  ∀ (ys : List Str) (p : Addr), ys.Perm xs → sortedS ys = true → H p = none → Q (.ref p) (upd H p (.lst (ys.map V.str)))
section
variable {X : Cx} {pins : List (Addr × Obj)} {σ : L2.St} {H : Hp} {s : Shared}
theorem setWO_get {a : Addr} {L : List Key} (I : L2.Inv X pins σ H s) (ha : H a = some (SetWO X.w a L)) : SetW X.w s.heap a L := (I.hok a _ ha).1
theorem cr_sortedW (hc : X.calm = true) : CallR X (.builtin "sorted") (rSortedW X.w) := by
  intro pins s σ H vs us Q I r h
  obtain ⟨a, xs, rfl, ha, q⟩ := h
  have R := setWO_get I ha
  rw [Vals.ref1 r]
  have hsz : xs.length < scanBound := by
    obtain ⟨o, es, ep, t, _, _, _, _, pm, _, hb, _⟩ := R
    have e1 := pm.length_eq
    rw [List.length_map, List.length_map, Array.length_toList] at e1
    omega
  refine sortedW_txt R (I.ok.hd hc) fun s' p out c ys k g o hp hg hi pm hs => ?_
  have hlen : (ys.map V.str).length ≤ sizeLine := by
    have : scanBound = 4096 := rfl
    rw [List.length_map, pm.length_eq, sizeLine_eq]; omega
  have hn : H p = none := I.hok.fresh hp
  have J : L2.Inv X pins σ (upd H p (.lst (ys.map V.str))) { s with heap := s'.heap, gens := s'.gens, drawn := s'.drawn, toks := s'.toks } :=
    I.call (ch := []) (Un.laid k hp hn) (I.hok.laid k hp ⟨hlen, out.toList, c, vals_of_strs hi, hg⟩) (by rw [g]; exact I.bare) (fun _ z => nomatch z)
  have e : s' = { s with heap := s'.heap, gens := s'.gens, drawn := s'.drawn, toks := s'.toks } := by
    cases s'
    cases s
    cases o
    rfl
  rw [e]
  exact ⟨.ref p, _, J, rfl, q ys p pm hs hn⟩
/-- set.add by the tracked thing -/
theorem addWO {E : Value → Shared → Prop} {D : Addr} {L : List Key} {k : Key} {v : Value} {Q : Value → Shared → Prop} (I : L2.Inv X pins σ H s) (hD : H D = some (SetWO X.w D L)) (hk : keyIs k v = true) (room : L.length + 1 < scanBound)
    (h : ∀ s', L2.Inv X pins σ (upd H D (SetWO X.w D (insK k L))) s' → Q .none s') : wpAny (model X.prog X.w) X.A (call (.builtin "set.add") [.ref D, v]) Q E s := by
  refine addW hk (setWO_get I hD) room fun h' sb new => ?_
  have he : ∃ u, h'.get? D = some u := by
    have ⟨o, _, _, _, ho, _⟩ := new
    exact ⟨o, ho⟩
  exact h _ (I.write (e := D) (t' := s.toks + 1) (by rw [hD]; trivial) (.inl rfl) (fun b u hb hu => (sb.2 b hb).trans hu) he (setWO_new new))
end
end DL

namespace DL
open PySem PySem.Spec PyProof.Rows L2

/-! ### set comprehensions, whatever the set is tracked as -/
/-- a way to track sets: what a new one is, what adding does -/
structure SetWay (X0 : Program × World) where
  ι : Type
  so : ι → Addr → HO
  ini : ι
  ad : ι → V → ι → Prop
  lay : ∀ (H : Hp) (h : Heap), ObjOk X0.1 X0.2 H (h.push { cls := .type "set", dict := none, data := .set #[] 0 (.fresh 0 0 (!X0.2.params.followText "set-order")) }) h.objs.size (so ini h.objs.size)
  add : ∀ (X : Cx), X.prog = X0.1 → X.w = X0.2 → ∀ (pins : List (Addr × Obj)) (σ : L2.St) (H : Hp) (s : Shared) (D : Addr) (i j : ι) (y : V) (u : Value) (E Q : Value → Shared → Prop), L2.Inv X pins σ H s → H D = some (so i D) → RelV y u → ad i y j →
    (∀ s', L2.Inv X pins σ (upd H D (so j D)) s' → Q .none s') → wpAny (model X.prog X.w) X.A (call (.builtin "set.add") [.ref D, u]) Q E s
def tSetW {X0 : Program × World} (Y : SetWay X0) (wi : TI) (g : TG) (tt : TT) (te : TE) (vs : List Nat) : TE := fun σ H Q => wi σ H fun J H1 => ∀ D, H1 D = none → ∃ W : Nat → Nat → Hp → Prop, (∃ m, W 0 m (upd H1 D (Y.so Y.ini D))) ∧ ∀ i m H, W i m H →
  (J.stop i H ∧ Q (.ref D) H) ∨ (J.go i H ∧ ∃ Nx : Hp → Prop, (∀ H', Nx H' → ∃ m', m' < m ∧ W (i + 1) m' H') ∧ ∀ x H', J.yld i H x H' → g x (wipe σ vs) H' fun σ2 H2 => wipe σ2 vs = wipe σ vs ∧ tt σ2 H2 fun b H3 =>
    if b = true then te σ2 H3 fun y H4 => ∃ c c', H4 D = some (Y.so c D) ∧ Y.ad c y c' ∧ Nx (upd H4 D (Y.so c' D)) else Nx H3)
section
variable {X : Cx}
theorem pe_setW (Y : SetWay (X.prog, X.w)) {elt tg iter : Expr} {ifs : List Expr} {scope : Scope} {own : List (PySem.Str × Nat)} {pos : Pos} {wi : TI} {g : TG} {tt : TT} {te : TE} (hc : X.calm = true) (hN : X.N.Nodup) (hi : PI X tg iter wi) (ok : BlkOk X.N X.env.scope scope own)
    (hg : ∀ (s : Shared) (H : Hp) (C : Addr) (cl : List (PySem.Str × Addr)) (fp : List Addr), PG (X.blk s H scope (compEnvC scope cl C X.env) fp) tg g) (ht : ∀ (s : Shared) (H : Hp) (C : Addr) (cl : List (PySem.Str × Addr)) (fp : List Addr), PTs (X.blk s H scope (compEnvC scope cl C X.env) fp) ifs tt)
    (he : ∀ (s : Shared) (H : Hp) (C : Addr) (cl : List (PySem.Str × Addr)) (fp : List Addr), PE (X.blk s H scope (compEnvC scope cl C X.env) fp) elt te) (hs : ∀ x, foldedSetIterable iter X.env x = pure x := by intro _; rfl) :
    PE X (.SetComp elt [⟨tg, iter, ifs, 0⟩] scope pos) (tSetW Y wi g tt te (own.map (·.2))) := by
  refine ⟨fun pins s σ H Q I h => ?_⟩
  rw [PpSet.eval_SetComp]
  refine wpAny_comprehension_free (use := none) rfl hs (closure_ok fun y hy e => ?_) ok.kind (fun y hy e => by rw [ok.uniq y hy, e]) (thn (hi.run pins s σ H _ I h) fun xv s1 hx => thn hx fun itv s2 h2 => ?_)
  · rcases ok.free y hy e with k | k
    · exact I.ok.has _ (.inl k)
    · exact I.ok.has _ (.inr k)
  obtain ⟨it, fp, tn, J, H2, rfl, I2, T, st2, f2, q⟩ := h2
  refine PpSet.newSet_ok (newEnv_comp ?_)
  obtain ⟨W, ⟨m0, w0⟩, turn⟩ := q s2.heap.objs.size (I2.hok.fresh (Nat.le_refl _))
  -- s3: the set is there
  generalize hs3 : ({ s2 with heap := s2.heap.push { cls := .type "set", dict := none, data := .set #[] 0 (.fresh 0 0 (!X.w.params.followText "set-order")) } } : Shared) = s3
  have h3 : s3.heap = s2.heap.push { cls := .type "set", dict := none, data := .set #[] 0 (.fresh 0 0 (!X.w.params.followText "set-order")) } := by rw [← hs3]
  have I3 : L2.Inv X pins σ (upd H2 s2.heap.objs.size (Y.so Y.ini s2.heap.objs.size)) s3 := by
    rw [← hs3]
    exact I2.laid (t' := s2.toks) (fun b o e => Heap.get?_push_of_some _ e) (Nat.le_refl _) (Y.lay _ _)
  have below : ∀ b ∈ fp, b < s2.heap.objs.size := fun b hb => let ⟨o, e, _⟩ := T.obj _ _ st2 b hb; Heap.lt_size e
  generalize hH3 : upd H2 s2.heap.objs.size (Y.so Y.ini s2.heap.objs.size) = H3 at I3 w0
  generalize hD : s2.heap.objs.size = D at I3 w0 turn below hH3
  have f3 : ∀ b ∈ fp, FpOk X pins H3 b ∧ b < s3.heap.objs.size := fun b hb => by
    have lt := below b hb
    refine ⟨⟨?_, (f2 b hb).2⟩, by rw [h3, Heap.size_push, hD]; exact Nat.lt_succ_of_lt lt⟩
    rw [← hH3, upd_ne (Nat.ne_of_lt lt)]
    exact (f2 b hb).1
  have I4 := block_start I3 ok hN f3
  show codeAny _ _ (.compStart (.SetComp elt [⟨tg, iter, ifs, 0⟩] scope pos) 0 (.ref it) (.ref D) (compEnvC scope (cellsFrom (s3.heap.objs.size + 1) scope.names (cloFrom X.env.cells scope.names [])) s3.heap.objs.size X.env))
    (compPost (model X.prog X.w) X.A X.xe none (EP X pins σ Q) (.ref D) s3.heap.objs.size) { s3 with heap := pushCells (s3.heap.push { cls := .type "dict", data := .dict #[] }) scope.names }
  have pg := hg s3 H3 s3.heap.objs.size (cellsFrom (s3.heap.objs.size + 1) scope.names (cloFrom X.env.cells scope.names [])) fp
  have pt := ht s3 H3 s3.heap.objs.size (cellsFrom (s3.heap.objs.size + 1) scope.names (cloFrom X.env.cells scope.names [])) fp
  have pe := he s3 H3 s3.heap.objs.size (cellsFrom (s3.heap.objs.size + 1) scope.names (cloFrom X.env.cells scope.names [])) fp
  generalize hce : compEnvC scope (cellsFrom (s3.heap.objs.size + 1) scope.names (cloFrom X.env.cells scope.names [])) s3.heap.objs.size X.env = ce at I4 pg pt pe ⊢
  have cL : ce.locals = s3.heap.objs.size := by rw [← hce]; rfl
  generalize hs4 : ({ s3 with heap := pushCells (s3.heap.push { cls := .type "dict", data := .dict #[] }) scope.names } : Shared) = s4 at I4 ⊢
  have st4 : tn 0 s4.heap := T.keep _ _ _ st2 fun b _ o e => by rw [← hs4]; exact pushCells_keeps _ _ _ _ (Heap.get?_push_of_some _ (by rw [h3]; exact Heap.get?_push_of_some _ e))
  have fpB : ∀ {σ' : L2.St} {H' : Hp} {s' : Shared}, L2.Inv (X.blk s3 H3 scope ce fp) [] σ' H' s' → (∀ b ∈ fp, H' b = none) → ∀ b ∈ fp, FpOk (X.blk s3 H3 scope ce fp) [] H' b := fun I' hn b hb =>
    ⟨hn b hb, (I'.ok.exf b hb).1, I'.ok.exfs b hb, .inl hb, fun x c e => (I'.ok.exf b hb).2 x c e, fun p hp => absurd (show p ∈ ([] : List (Addr × Obj)) ++ [] from hp) (by simp)⟩
  have loop : codeAny (model X.prog X.w) X.A (.compLoop (.SetComp elt [⟨tg, iter, ifs, 0⟩] scope pos) 0 (.ref it) (.ref D) ce) (compPost (model X.prog X.w) X.A X.xe none (EP X pins σ Q) (.ref D) s3.heap.objs.size) s4 := by
    refine PpSet.compLoopS_any (fun n s' => ∃ i H', L2.Inv (X.blk s3 H3 scope ce fp) [] (wipe σ (own.map (·.2))) H' s' ∧ tn i s'.heap ∧ (∀ b ∈ fp, H' b = none) ∧ W i n H') ?_ m0 ⟨0, H3, I4, st4, fun b hb => (f3 b hb).1.1, w0⟩
    rintro n s5 ⟨i, H5, I5, st5, n5, w5⟩
    rcases turn i n H5 w5 with ⟨stop, qq⟩ | ⟨go, Nx, hNx, step⟩
    · refine thnF (T.done (X.blk s3 H3 scope ce fp) rfl rfl rfl hc i [] s5 _ H5 (fun _ _ => False) I5 (fpB I5 n5) st5 stop) fun r s6 ⟨hr, I6⟩ => ?_
      subst hr
      have I7 : L2.Inv X pins σ H5 s6 := I3.call' (ch := fp) I6.os I6.base I6.hok I6.bare fun b hb => ⟨(f3 b hb).1.2.2.2.1, (f3 b hb).1.2.1, (f3 b hb).1.2.2.2.2.1, (f3 b hb).1.2.2.2.2.2⟩
      have nC : H5 ce.locals = none := I6.free
      obtain ⟨m, hn, _⟩ := I6.loc
      have hn : s6.heap.Ns ce.locals m := hn
      rw [cL] at hn nC
      obtain ⟨f0, f1, f2', f3', f4, f5⟩ := I3.fpOk (Nat.le_refl _) nC
      exact ⟨m, hn, fun h'' sb => ⟨.ref D, H5, I7.turned (t' := s6.toks) (fun b o hb e => (sb.2 b hb).trans e) f0 f1 f3' f4 f5, rfl, qq⟩⟩
    · refine thnF (T.item (X.blk s3 H3 scope ce fp) rfl rfl rfl hc i [] s5 _ H5 (fun _ _ => False) I5 (fpB I5 n5) st5 go) fun r s6 ⟨u, hr, h6⟩ => ?_
      subst hr
      refine thnF h6 fun _ s7 ⟨x, H7, I7, r7, y7, st7, n7⟩ => ?_
      refine thnF (pg.run _ s7 _ H7 x u _ (I7.pinned (fpB I7 n7) (T.obj _ _ st7)) r7 (step x H7 y7)) fun _ s8 ⟨σ8, H8, I8, hw8, q8⟩ => ?_
      refine thnF (pt.run _ s8 σ8 H8 _ I8 q8) fun b s9 ⟨H9, I9, q9⟩ => ?_
      have next : ∀ {s' : Shared} {H' : Hp}, L2.Inv (X.blk s3 H3 scope ce fp) ([] ++ pinsAt fp s7.heap) σ8 H' s' → Nx H' → ∃ m, m < n ∧ ∃ i H', L2.Inv (X.blk s3 H3 scope ce fp) [] (wipe σ (own.map (·.2))) H' s' ∧ tn i s'.heap ∧ (∀ b ∈ fp, H' b = none) ∧ W i m H' := fun {s' H'} I' nx => by
        obtain ⟨m', hm, w'⟩ := hNx H' nx
        have held : ∀ b ∈ fp, ∀ o, s7.heap.get? b = some o → s'.heap.get? b = some o ∧ H' b = none := fun b hb o e =>
          let z := I'.pin (b, o) (List.mem_append_right _ (List.mem_append_right _ (mem_pinsAt hb e)))
          ⟨z.1, z.2.1⟩
        refine ⟨m', hm, i + 1, H', (I'.unpinned (pins := [])).weak (by rw [← hw8, wipe_length]) (fun j v e => ?_), T.keep _ _ _ st7 fun b hb o e => (held b hb o e).1, fun b hb => ?_, w'⟩
        · rw [← hw8] at e
          exact (wipe_some e).1
        · obtain ⟨o, e, _⟩ := T.obj _ _ st7 b hb
          exact (held b hb o e).2
      cases b with
      | false =>
        rw [if_neg Bool.false_ne_true] at q9 ⊢
        exact next I9 q9
      | true =>
        rw [if_pos rfl] at q9 ⊢
        exact thnF (pe.run _ s9 σ8 H9 _ I9 q9) fun z s10 ⟨yv, H10, I10, r10, c, c', hD10, ha, nx⟩ => Y.add (X.blk s3 H3 scope ce fp) rfl rfl _ _ _ _ D c c' yv z _ _ I10 hD10 r10 ha fun s11 I11 => next I11 nx
  exact PpSet.codeAny_compStart_set loop (T.self X.A 0 _ _ _ st4 loop)
end
/-- sets of ints and texts -/
def wayW (P : Program) (w : World) : SetWay (P, w) where
  ι := List Key
  so := fun L D => SetWO w D L
  ini := []
  ad := fun L y L' => ∃ k, y = kV k ∧ L' = insK k L ∧ L.length + 1 < scanBound
  lay := fun H h => setWO_new (setW_fresh w)
  add := fun X e1 e2 pins σ H s D L L' y u E Q I hD r ⟨k, ey, eL, room⟩ h => by
    subst e1; subst e2; subst ey; subst eL
    exact addWO I hD (kV_is (P := X.prog) (w := X.w) r) room h
end DL

namespace DL
open PySem L2

/-! ### sorted({.. for .. in ..}), texts -/
section
variable {K : PySem.W.Frag} {G : Fr} {ρ : List Slot} {loc : Nat → Addr} {σ : L2.St} {H : Hp}
/-- a new thing that nothing leads to -/
theorem new_any {o : HO} (R : Rep K G ρ loc σ H) {p : Addr} (hp : H p = none) :
    G.H0 p = none ∧ ¬ G.fb p ∧ Rep K (G.plus p) ρ loc σ (upd H p o) ∧ Grow (Fb G.fb ρ loc) (Fb (G.plus p).fb ρ loc) H (upd H p o) := by
  have g : Grow (Fb G.fb ρ loc) (Fb (G.plus p).fb ρ loc) H (upd H p o) := fun b u e n => ⟨upd_more hp b u e, fun z => by
    rcases z with (z | z) | z
    · exact n (.inl z)
    · rw [z, hp] at e; cases e
    · exact n (.inr z)⟩
  refine ⟨R.h0 hp, fun z => R.notFb hp (.inl z), ⟨R.len, fun i d e => ?_, fun i b ds e => ?_, R.apart, R.brw, fun i ds e => ?_, fun b u e n => upd_more hp b u (R.ext b u e n), fun b e => ?_, fun b e => .inl (R.bwS b e), R.raw.plus (upd_more hp) hp g⟩, g⟩
  · obtain ⟨v, h1, h2⟩ := R.dat i d e
    exact ⟨v, h1, h2.g g⟩
  · obtain ⟨h1, vs, h2, h3⟩ := R.own i b ds e
    exact ⟨h1, vs, upd_more hp _ _ h2, h3.g g⟩
  · obtain ⟨h1, h2⟩ := R.new i ds e
    refine ⟨h1, fun z => ?_⟩
    rcases z with z | z
    · exact h2 z
    · obtain ⟨_, vs, q, _⟩ := R.own i false ds e
      rw [z, hp] at q; cases q
  · rcases e with e | e
    · obtain ⟨u, q⟩ := R.fbS b e
      exact ⟨u, upd_more hp _ _ q⟩
    · rw [e]; exact ⟨_, upd_same⟩
end
def hasS (x : Str) (xs : List Str) : Bool := xs.any fun y => decide (y = x)
def insS (x : Str) (xs : List Str) : List Str := if hasS x xs = true then xs else xs ++ [x]
theorem ins_inr (x : Str) (xs : List Str) : insK (.inr x) (xs.map Sum.inr) = (insS x xs).map Sum.inr := by
  have e : hasK (.inr x) (xs.map Sum.inr) = hasS x xs := by
    unfold hasK hasS
    rw [List.any_map]
    congr 1
    funext y
    exact key_rr y x
  unfold insK insS
  rw [e]
  split
  · rfl
  · rw [List.map_append]; rfl
def scLoop (g : GMn) (tt : M Bool) (te : M D) (vs : List Nat) (k : List Str → List Slot → Prop) : List D → List Str → List Slot → Prop
  | [], acc, ρ => k acc (wipeS ρ vs)
  | d :: ds, acc, ρ => g d ρ fun ρ1 => tt ρ1 fun b ρ2 => if b = true then te ρ2 fun e ρ3 => ∃ x, e = .str x ∧ acc.length + 1 < scanBound ∧ scLoop g tt te vs k ds (insS x acc) (wipeS ρ3 vs) else scLoop g tt te vs k ds acc (wipeS ρ2 vs)
def mSs (mi : M (List D)) (g : GMn) (tt : M Bool) (te : M D) (vs : List Nat) : M (List D) := fun ρ k => mi ρ fun ds ρ1 => scLoop g tt te vs (fun acc ρ' => ∀ ys : List Str, ys.Perm acc → PyProof.Rows.sortedS ys = true → k (ys.map PyData.str) ρ') ds [] (wipeS ρ1 vs)
theorem mono_scLoop {g : GMn} {tt : M Bool} {te : M D} {vs : List Nat} (hg : ∀ d ρ (k k' : List Slot → Prop), (∀ ρ', k ρ' → k' ρ') → g d ρ k → g d ρ k') (ht : Mono tt) (he : Mono te) {k k' : List Str → List Slot → Prop} (w : ∀ a ρ, k a ρ → k' a ρ) :
    ∀ (ds : List D) (acc : List Str) (ρ : List Slot), scLoop g tt te vs k ds acc ρ → scLoop g tt te vs k' ds acc ρ
  | [], acc, ρ, q => w _ _ q
  | d :: ds, acc, ρ, q => hg d ρ _ _ (fun ρ1 q1 => ht ρ1 _ _ (fun b ρ2 q2 => by
    cases b with
    | true => rw [if_pos rfl] at q2 ⊢; exact he ρ2 _ _ (fun e ρ3 ⟨x, q3, q4, q5⟩ => ⟨x, q3, q4, mono_scLoop hg ht he w ds _ _ q5⟩) q2
    | false => rw [if_neg Bool.false_ne_true] at q2 ⊢; exact mono_scLoop hg ht he w ds _ _ q2) q1) q
theorem mono_ss {mi : M (List D)} {g : GMn} {tt : M Bool} {te : M D} {vs : List Nat} (hi : Mono mi) (hg : ∀ d ρ (k k' : List Slot → Prop), (∀ ρ', k ρ' → k' ρ') → g d ρ k → g d ρ k') (ht : Mono tt) (he : Mono te) : Mono (mSs mi g tt te vs) :=
  fun ρ k k' w q => hi ρ _ _ (fun ds ρ1 q1 => mono_scLoop hg ht he (fun a ρ q2 ys p1 p2 => w _ _ (q2 ys p1 p2)) ds _ _ q1) q
theorem dx_strs {K : PySem.W.Frag} {H : Hp} {F : AS} : ∀ ys : List Str, DxAll K H F (ys.map V.str) (ys.map PyData.str)
  | [] => .nil
  | _ :: r => .cons (.str _) (dx_strs r)
theorem ss_meets {P : Program} {w : World} {K : PySem.W.Frag} {mi : M (List D)} {g : GMn} {tt : M Bool} {te : M D} {vs : List Nat} (hi : Mono mi) (hg : ∀ d ρ (k k' : List Slot → Prop), (∀ ρ', k ρ' → k' ρ') → g d ρ k → g d ρ k') (ht : Mono tt) (he : Mono te)
    {σ : L2.St} {H : Hp} {Q : VK} (h : TNof K (mSs mi g tt te vs) σ H Q) : tCB (rSortedW w) (tCons (tSetW (wayW P w) (TIof K mi) (TGof K vs g) (TTof K tt) (TEof K te) vs) tNil) σ H Q := by
  obtain ⟨G, loc, ρ, R, q⟩ := h
  refine ⟨G, loc, ρ, R, hi ρ _ _ (fun ds ρ1 q1 J H1 R1 g1 gv D hD => ?_) q⟩
  obtain ⟨h0, np, RD, gD⟩ := new_any (o := SetWO w D []) R1 hD
  have bs := R.bwS
  let KK : List Str → List Slot → Prop := fun acc ρ' => ∀ ys : List Str, ys.Perm acc → PyProof.Rows.sortedS ys = true → ∀ p vs H', G.H0 p = none → ¬ G.fb p → H' p = some (.lst vs) → Rep K (G.plus p) ρ' loc σ H' → Grow (Fb G.fb ρ loc) (Fb (G.plus p).fb ρ' loc) H H' → DxAll K H' (Fb (G.plus p).fb ρ' loc) vs (ys.map PyData.str) → Q (.ref p) H'
  refine ⟨fun i m H2 => ∃ ρ2 acc, m = ds.length - i ∧ Rep K (G.plus D) ρ2 loc (wipe σ vs) H2 ∧ H2 D = some (SetWO w D (acc.map Sum.inr)) ∧ Grow (Fb G.fb ρ1 loc) (Fb (G.plus D).fb ρ2 loc) H1 H2 ∧ scLoop g tt te vs KK (ds.drop i) acc ρ2,
    ⟨_, wipeS ρ1 vs, [], rfl, RD.wipe (wipe_wipe σ vs).symm, upd_same, gD.weak fun b z => Fb_wipe b z, by simpa using q1⟩, ?_⟩
  rintro i m H2 ⟨ρ2, acc, hm, R2, e2, g2, q2⟩
  obtain ⟨gv1, gv2⟩ := gv i _ H2 g2 R2.fbE
  cases hd : ds[i]? with
  | none =>
    have hl : ds.length ≤ i := List.getElem?_eq_none_iff.mp hd
    rw [List.drop_eq_nil_of_le hl] at q2
    have q3 : KK acc (wipeS ρ2 vs) := q2
    refine .inl ⟨gv2 hl, D, acc, rfl, e2, fun ys p pm hs hp => ?_⟩
    obtain ⟨R3, n3⟩ := R2.unplus bs np
    have R4 := R3.wipe (vs := vs) (wipe_wipe σ vs)
    obtain ⟨a1, a2, a3, a4, a5, a6⟩ := new_list R4 (dx_strs (K := K) (H := H2) (F := Fb G.fb (wipeS ρ2 vs) loc) ys) hp
    have g3 : Grow (Fb G.fb ρ1 loc) (Fb G.fb (wipeS ρ2 vs) loc) H1 H2 := g2.weak fun b z => by
      rcases Fb_wipe b z with z' | z'
      · exact .inl (.inl z')
      · exact .inr z'
    exact q3 ys pm hs p _ _ a1 a2 a3 a4 (g1.trans (g3.trans a5)) a6
  | some d =>
    obtain ⟨hl, hd'⟩ := List.getElem?_eq_some_iff.mp hd
    have e : ds.drop i = d :: ds.drop (i + 1) := by rw [← hd']; exact List.drop_eq_getElem_cons hl
    rw [e] at q2
    obtain ⟨go, yl⟩ := gv1 d hd
    refine .inr ⟨go, fun H3 => ∃ ρ3 acc, Rep K (G.plus D) ρ3 loc (wipe σ vs) H3 ∧ H3 D = some (SetWO w D (acc.map Sum.inr)) ∧ Grow (Fb G.fb ρ1 loc) (Fb (G.plus D).fb ρ3 loc) H1 H3 ∧ scLoop g tt te vs KK (ds.drop (i + 1)) acc ρ3,
      fun H3 ⟨ρ3, acc, a1, a2, a4, a5⟩ => ⟨_, by omega, ρ3, acc, rfl, a1, a2, a4, a5⟩, fun x H3 y3 => ?_⟩
    obtain ⟨m3, d3⟩ := yl x H3 y3
    have R3 := (R2.more m3).pin (m3 _ _ e2)
    refine ⟨G.pin D (SetWO w D (acc.map Sum.inr)), loc, ρ2, d, R3, d3, hg _ _ _ _ (fun ρ4 q4 σ4 H4 R4 g4 w4 => ⟨w4.trans (wipe_wipe σ vs), ?_⟩) q2⟩
    refine ⟨G.pin D (SetWO w D (acc.map Sum.inr)), loc, ρ4, R4, ht _ _ _ (fun b ρ5 q5 H5 R5 g5 => ?_) q4⟩
    have w4' : L2.wipe σ4 vs = L2.wipe (L2.wipe σ vs) vs := w4
    have g25 : Grow (Fb (G.plus D).fb ρ2 loc) (Fb (G.plus D).fb ρ5 loc) H2 H5 := (more_grow m3).trans (g4.trans g5)
    cases b with
    | false =>
      rw [if_neg Bool.false_ne_true] at q5
      show if false = true then _ else _
      rw [if_neg Bool.false_ne_true]
      obtain ⟨R6, e6⟩ := R5.unpin h0 fun z => np (bs _ z)
      exact ⟨wipeS ρ5 vs, acc, R6.wipe w4', e6, (g2.trans g25).weak fun b z => Fb_wipe b z, q5⟩
    | true =>
      rw [if_pos rfl] at q5
      show if true = true then _ else _
      rw [if_pos rfl]
      refine ⟨G.pin D (SetWO w D (acc.map Sum.inr)), loc, ρ5, R5, he _ _ _ (fun y ρ6 ⟨z, ey, hz, q6⟩ v H6 R6 g6 d6 => ?_) q5⟩
      have g26 : Grow (Fb (G.plus D).fb ρ2 loc) (Fb (G.plus D).fb ρ6 loc) H2 H6 := g25.trans g6
      obtain ⟨R7, e7⟩ := R6.unpin h0 fun z => np (bs _ z)
      obtain ⟨R8, g8⟩ := R7.wrP (o := SetWO w D ((insS z acc).map Sum.inr)) h0 np bs
      subst ey
      cases d6
      refine ⟨acc.map Sum.inr, (insS z acc).map Sum.inr, e7, ⟨.inr z, rfl, (ins_inr z acc).symm, by rw [List.length_map]; exact hz⟩, wipeS ρ6 vs, insS z acc, R8.wipe w4', upd_same, ((g2.trans g26).trans g8).weak fun b z => Fb_wipe b z, q6⟩
section
variable {X : Cx} {elt tg iter : Expr} {ifs : List Expr} {scope : Scope} {pos cpos p : Pos} {mi : M (List D)} {g : GMn} {tt : M Bool} {te : M D}
theorem nm_sortSc (own : List (Str × Nat)) (hm : X.mg "sorted" = none) (hc : X.calm = true) (hN : X.N.Nodup) (hi : IM X tg iter mi) (ok : blkC X.N X.env.scope scope own = true)
    (hg : ∀ (s : Shared) (H : Hp) (C : Addr) (cl : List (Str × Addr)) (fp : List Addr), GM (X.blk s H scope (compEnvC scope cl C X.env) fp) (own.map (·.2)) tg g)
    (ht : ∀ (s : Shared) (H : Hp) (C : Addr) (cl : List (Str × Addr)) (fp : List Addr), TsM (X.blk s H scope (compEnvC scope cl C X.env) fp) ifs tt)
    (he : ∀ (s : Shared) (H : Hp) (C : Addr) (cl : List (Str × Addr)) (fp : List Addr), EM (X.blk s H scope (compEnvC scope cl C X.env) fp) elt te) (hgl : Gl X "sorted" := by rfl) (hs : ∀ x, foldedSetIterable iter X.env x = pure x := by intro _; rfl)
    (h1 : starEach [.SetComp elt [⟨tg, iter, ifs, 0⟩] scope pos] X.env = [(false, eval (.SetComp elt [⟨tg, iter, ifs, 0⟩] scope pos) X.env)] := by rfl) (hpl : (backTo cpos (starEach [] X.env)).any (·.1) = false := by rfl) :
    NM X (.Call (.Name "sorted" p) [.SetComp elt [⟨tg, iter, ifs, 0⟩] scope pos] [] cpos) (mSs mi g tt te (own.map (·.2))) := by
  have z1 := (hg X.s_0 X.H_0 0 [] []).mono
  have z2 := (ht X.s_0 X.H_0 0 [] []).mono
  have z3 := (he X.s_0 X.H_0 0 [] []).mono
  refine ⟨mono_ss hi.mono z1 z2 z3, pe_weak (pe_callB (cr_sortedW hc) hgl hm (by decide +kernel) (pa_cons (pe_setW (wayW X.prog X.w) (wi := TIof X.K mi) (g := TGof X.K (own.map (·.2)) g) (tt := TTof X.K tt) (te := TEof X.K te) hc hN hi.run (blkOk_by ok) (fun s H C cl fp => (hg s H C cl fp).run) (fun s H C cl fp => (ht s H C cl fp).run) (fun s H C cl fp => (he s H C cl fp).run) hs) pa_nil h1) (by decide) (by decide) h1 hpl) fun σ H Q h => ss_meets hi.mono z1 z2 z3 h⟩
end
end DL

namespace DL
open PySem L2

/-! ### a op b op' c -/
def mChain (p p' : P2) (ma mb mc : M D) : M D := fun ρ k => ma ρ fun x ρ1 => mb ρ1 fun y ρ2 => p x y fun z => match z with
  | .bool true => mc ρ2 fun w ρ3 => p' y w fun r => k r ρ3
  | .bool false => k (.bool false) ρ2
  | _ => False
theorem mono_chain {p p' : P2} {ma mb mc : M D} (mp : ∀ a b, Pm1 (p a b)) (mp' : ∀ a b, Pm1 (p' a b)) (a : Mono ma) (b : Mono mb) (c : Mono mc) : Mono (mChain p p' ma mb mc) := fun ρ k k' w q => a ρ _ _ (fun x ρ1 q1 => b ρ1 _ _ (fun y ρ2 q2 => mp x y _ _ (fun z q3 => by
  cases z <;> first | exact (show False from q3).elim | skip
  rename_i t
  cases t with
  | true => exact c ρ2 _ _ (fun u ρ3 q4 => mp' y u _ _ (fun r q5 => w _ _ q5) q4) q3
  | false => exact w _ _ q3) q2) q1) q
section
variable {K : PySem.W.Frag}
theorem chain_vals {p p' : P2} {r r' : R2} {ma mb mc : M D} (hp : Prim2 K r p) (hp' : Prim2 K r' p') (mp : ∀ a b, Pm1 (p a b)) (mp' : ∀ a b, Pm1 (p' a b)) (a : Mono ma) (b : Mono mb) (c : Mono mc) {σ : L2.St} {H : Hp} {Q : VK}
    (h : TEof K (mChain p p' ma mb mc) σ H Q) : tChain r r' (TEof K ma) (TEof K mb) (TEof K mc) σ H Q := by
  obtain ⟨G, loc, ρ, R, q⟩ := h
  refine ⟨G, loc, ρ, R, a ρ _ _ (fun x ρ1 q1 v H1 R1 g1 d1 => ?_) q⟩
  refine ⟨G, loc, ρ1, R1, b ρ1 _ _ (fun y ρ2 q2 u H2 R2 g2 d2 => ?_) q1⟩
  refine hp (Fb G.fb ρ2 loc) H2 v u x y _ R2.fbE (d1.g g2) d2 (mp x y _ _ (fun z q3 w H3 m3 d3 => ?_) q2)
  have R3 := R2.more m3
  have g3 := (g1.trans g2).trans (more_grow m3)
  cases z <;> first | exact (show False from q3).elim | skip
  rename_i t
  cases d3
  refine ⟨t, rfl, ?_⟩
  cases t with
  | false =>
    rw [if_neg Bool.false_ne_true]
    exact q3 _ H3 R3 g3 (.bl _)
  | true =>
    rw [if_pos rfl]
    refine ⟨G, loc, ρ2, R3, c ρ2 _ _ (fun e ρ3 q4 w' H4 R4 g4 d4 => ?_) q3⟩
    exact hp' (Fb G.fb ρ3 loc) H4 u w' y e _ R4.fbE (d2.g ((more_grow m3).trans g4)) d4 (mp' y e _ _ (fun r q5 w2 H5 m5 d5 => q5 w2 H5 (R4.more m5) ((g3.trans g4).trans (more_grow m5)) d5) q4)
end
section
variable {X : Cx} {a b c : Expr} {ma mb mc : M D} {pos : Pos}
theorem em_chain {op op' : CmpOp} {r r' : R2} {p p' : P2} (ho : OpR X (compareOp op) r) (ho' : OpR X (compareOp op') r') (hp : Prim2 X.K r p) (hp' : Prim2 X.K r' p') (mp : ∀ a b, Pm1 (p a b)) (mp' : ∀ a b, Pm1 (p' a b)) (ha : EM X a ma) (hb : EM X b mb) (hc : EM X c mc)
    (hm : lastMarks [op, op'] [b, c] = false := by with_unfolding_all rfl) : EM X (.Compare a [op, op'] [b, c] pos) (mChain p p' ma mb mc) :=
  ⟨mono_chain mp mp' ha.mono hb.mono hc.mono, pe_weak (pe_chain ho ho' ha.run hb.run hc.run hm) fun _ _ _ h => chain_vals hp hp' mp mp' ha.mono hb.mono hc.mono h⟩
theorem tm_chain {op op' : CmpOp} {r r' : R2} {p p' : P2} (ho : OpR X (compareOp op) r) (ho' : OpR X (compareOp op') r') (hp : Prim2 X.K r p) (hp' : Prim2 X.K r' p') (mp : ∀ a b, Pm1 (p a b)) (mp' : ∀ a b, Pm1 (p' a b)) (ha : EM X a ma) (hb : EM X b mb) (hc : EM X c mc)
    (hm : lastMarks [op, op'] [b, c] = false := by with_unfolding_all rfl) : TM X (.Compare a [op, op'] [b, c] pos) (mTest (mChain p p' ma mb mc)) :=
  ⟨mono_test (mono_chain mp mp' ha.mono hb.mono hc.mono), pt_weak (pt_chain ho ho' ha.run hb.run hc.run hm) fun σ H Q h => chain_vals hp hp' mp mp' ha.mono hb.mono hc.mono (tt_te (mono_chain mp mp' ha.mono hb.mono hc.mono) h)⟩
theorem em_leLt (ha : EM X a ma) (hb : EM X b mb) (hc : EM X c mc) (hm : lastMarks [.LtE, .Lt] [b, c] = false := by with_unfolding_all rfl) : EM X (.Compare a [.LtE, .Lt] [b, c] pos) (mChain leD ltD ma mb mc) := em_chain op_leU op_ltU prim_le prim_lt pm_le pm_lt ha hb hc hm
theorem em_leLe (ha : EM X a ma) (hb : EM X b mb) (hc : EM X c mc) (hm : lastMarks [.LtE, .LtE] [b, c] = false := by with_unfolding_all rfl) : EM X (.Compare a [.LtE, .LtE] [b, c] pos) (mChain leD leD ma mb mc) := em_chain op_leU op_leU prim_le prim_le pm_le pm_le ha hb hc hm
theorem tm_leLt (ha : EM X a ma) (hb : EM X b mb) (hc : EM X c mc) (hm : lastMarks [.LtE, .Lt] [b, c] = false := by with_unfolding_all rfl) : TM X (.Compare a [.LtE, .Lt] [b, c] pos) (mTest (mChain leD ltD ma mb mc)) := tm_chain op_leU op_ltU prim_le prim_lt pm_le pm_lt ha hb hc hm
theorem tm_leLe (ha : EM X a ma) (hb : EM X b mb) (hc : EM X c mc) (hm : lastMarks [.LtE, .LtE] [b, c] = false := by with_unfolding_all rfl) : TM X (.Compare a [.LtE, .LtE] [b, c] pos) (mTest (mChain leD leD ma mb mc)) := tm_chain op_leU op_leU prim_le prim_le pm_le pm_le ha hb hc hm
end
end DL

namespace DL
open PySem L2

/-! ### [e for .. in .. for .. in ..] -/
theorem wipe_sub {σ : L2.St} {vs vs1 : List Nat} (h : ∀ i ∈ vs1, i ∈ vs) : L2.wipe (L2.wipe σ vs1) vs = L2.wipe σ vs := by
  refine List.ext_getElem? fun i => ?_
  by_cases hi : i ∈ vs
  · by_cases hl : i < σ.length
    · rw [wipe_in hi (by rw [wipe_length]; exact hl), wipe_in hi hl]
    · rw [List.getElem?_eq_none (by rw [wipe_length, wipe_length]; omega), List.getElem?_eq_none (by rw [wipe_length]; omega)]
  · rw [wipe_out hi, wipe_out hi, wipe_out fun z => hi (h i z)]
def lcLoop2 (g : GMn) (tt : M Bool) (mi1 : M (List D)) (g1 : GMn) (tt1 : M Bool) (te : M D) (vs vs1 : List Nat) (k : List D → List Slot → Prop) : List D → List D → List Slot → Prop
  | [], acc, ρ => k acc (wipeS ρ vs)
  | d :: ds, acc, ρ => g d ρ fun ρ1 => tt ρ1 fun b ρ2 => if b = true then mi1 ρ2 fun ds1 ρ3 => lcLoop g1 tt1 te vs1 (fun acc' ρ4 => lcLoop2 g tt mi1 g1 tt1 te vs vs1 k ds acc' (wipeS ρ4 vs)) ds1 acc (wipeS ρ3 vs1)
      else lcLoop2 g tt mi1 g1 tt1 te vs vs1 k ds acc (wipeS ρ2 vs)
def mLc2 (mi : M (List D)) (g : GMn) (tt : M Bool) (mi1 : M (List D)) (g1 : GMn) (tt1 : M Bool) (te : M D) (vs vs1 : List Nat) : M (List D) := fun ρ k => mi ρ fun ds ρ1 => lcLoop2 g tt mi1 g1 tt1 te vs vs1 k ds [] (wipeS ρ1 vs)
abbrev MonoG (g : GMn) : Prop := ∀ d ρ (k k' : List Slot → Prop), (∀ ρ', k ρ' → k' ρ') → g d ρ k → g d ρ k'
section
variable {mi mi1 : M (List D)} {g g1 : GMn} {tt tt1 : M Bool} {te : M D} {vs vs1 : List Nat}
theorem mono_lcLoop2 (hg : MonoG g) (ht : Mono tt) (hi1 : Mono mi1) (hg1 : MonoG g1) (ht1 : Mono tt1) (he : Mono te) {k k' : List D → List Slot → Prop} (w : ∀ a ρ, k a ρ → k' a ρ) :
    ∀ (ds acc : List D) (ρ : List Slot), lcLoop2 g tt mi1 g1 tt1 te vs vs1 k ds acc ρ → lcLoop2 g tt mi1 g1 tt1 te vs vs1 k' ds acc ρ
  | [], acc, ρ, q => w _ _ q
  | d :: ds, acc, ρ, q => hg d ρ _ _ (fun ρ1 q1 => ht ρ1 _ _ (fun b ρ2 q2 => by
    cases b with
    | true =>
      rw [if_pos rfl] at q2 ⊢
      exact hi1 ρ2 _ _ (fun ds1 ρ3 q3 => mono_lcLoop hg1 ht1 he (fun a ρ4 q4 => mono_lcLoop2 hg ht hi1 hg1 ht1 he w ds _ _ q4) ds1 _ _ q3) q2
    | false => rw [if_neg Bool.false_ne_true] at q2 ⊢; exact mono_lcLoop2 hg ht hi1 hg1 ht1 he w ds _ _ q2) q1) q
theorem mono_lc2 (hi : Mono mi) (hg : MonoG g) (ht : Mono tt) (hi1 : Mono mi1) (hg1 : MonoG g1) (ht1 : Mono tt1) (he : Mono te) : Mono (mLc2 mi g tt mi1 g1 tt1 te vs vs1) :=
  fun ρ k k' w q => hi ρ _ _ (fun ds ρ1 q1 => mono_lcLoop2 hg ht hi1 hg1 ht1 he w ds _ _ q1) q
theorem lc2_meets {K : PySem.W.Frag} (hi : Mono mi) (hg : MonoG g) (ht : Mono tt) (hi1 : Mono mi1) (hg1 : MonoG g1) (ht1 : Mono tt1) (he : Mono te) (sub : ∀ i ∈ vs1, i ∈ vs)
    {σ : L2.St} {H : Hp} {Q : VK} (h : TNof K (mLc2 mi g tt mi1 g1 tt1 te vs vs1) σ H Q) : tLc2 (TIof K mi) (TGof K vs g) (TTof K tt) (TIof K mi1) (TGof K vs1 g1) (TTof K tt1) (TEof K te) vs vs1 σ H Q := by
  obtain ⟨G, loc, ρ, R, q⟩ := h
  refine ⟨G, loc, ρ, R, hi ρ _ _ (fun ds ρ1 q1 J H1 R1 g1' gv D hD => ?_) q⟩
  obtain ⟨h0, np, RD, gD⟩ := new_any (o := .lst []) R1 hD
  have bs := R.bwS
  let KK : List DL.D → List Slot → Prop := fun ds ρ' => ∀ p vs H', G.H0 p = none → ¬ G.fb p → H' p = some (.lst vs) → Rep K (G.plus p) ρ' loc σ H' → Grow (Fb G.fb ρ loc) (Fb (G.plus p).fb ρ' loc) H H' → DxAll K H' (Fb (G.plus p).fb ρ' loc) vs ds → Q (.ref p) H'
  let Wp : List DL.D → Hp → Prop := fun l H2 => ∃ ρ2 acc ws, Rep K (G.plus D) ρ2 loc (L2.wipe σ vs) H2 ∧ H2 D = some (.lst ws) ∧ DxAll K H2 (Fb (G.plus D).fb ρ2 loc) ws acc ∧ Grow (Fb G.fb ρ1 loc) (Fb (G.plus D).fb ρ2 loc) H1 H2 ∧ lcLoop2 g tt mi1 g1 tt1 te vs vs1 KK l acc ρ2
  refine ⟨fun i m H2 => m = ds.length - i ∧ Wp (ds.drop i) H2, ⟨_, rfl, wipeS ρ1 vs, [], [], RD.wipe (wipe_wipe σ vs).symm, upd_same, .nil, gD.weak fun b z => Fb_wipe b z, by simpa using q1⟩, ?_⟩
  rintro i m H2 ⟨hm, ρ2, acc, ws, R2, e2, d2, g2, q2⟩
  obtain ⟨gv1, gv2⟩ := gv i _ H2 g2 R2.fbE
  cases hd : ds[i]? with
  | none =>
    have hl : ds.length ≤ i := List.getElem?_eq_none_iff.mp hd
    rw [List.drop_eq_nil_of_le hl] at q2
    have q3 : KK acc (wipeS ρ2 vs) := q2
    exact .inl ⟨gv2 hl, q3 D ws H2 h0 np e2 (R2.wipe (wipe_wipe σ vs)) ((g1'.trans g2).weak fun b z => Fb_wipe b z) (d2.weak fun b z => Fb_wipe b z)⟩
  | some d =>
    obtain ⟨hl, hd'⟩ := List.getElem?_eq_some_iff.mp hd
    have e : ds.drop i = d :: ds.drop (i + 1) := by rw [← hd']; exact List.drop_eq_getElem_cons hl
    rw [e] at q2
    obtain ⟨go, yl⟩ := gv1 d hd
    refine .inr ⟨go, fun H3 => Wp (ds.drop (i + 1)) H3, fun H3 z => ⟨_, by omega, rfl, z⟩, fun x H3 y3 => ?_⟩
    obtain ⟨m3, d3⟩ := yl x H3 y3
    have R3 := (R2.more m3).pin (m3 _ _ e2)
    refine ⟨G.pin D (.lst ws), loc, ρ2, d, R3, d3, hg _ _ _ _ (fun ρ4 q4 σ4 H4 R4 g4 w4 => ⟨w4.trans (wipe_wipe σ vs), ?_⟩) q2⟩
    refine ⟨G.pin D (.lst ws), loc, ρ4, R4, ht _ _ _ (fun b ρ5 q5 H5 R5 g5 => ?_) q4⟩
    have w4' : L2.wipe σ4 vs = L2.wipe σ vs := w4.trans (wipe_wipe σ vs)
    have g25 : Grow (Fb (G.plus D).fb ρ2 loc) (Fb (G.plus D).fb ρ5 loc) H2 H5 := (more_grow m3).trans (g4.trans g5)
    cases b with
    | false =>
      rw [if_neg Bool.false_ne_true] at q5
      show if false = true then _ else _
      rw [if_neg Bool.false_ne_true]
      obtain ⟨R6, e6⟩ := R5.unpin h0 fun z => np (bs _ z)
      exact ⟨wipeS ρ5 vs, acc, ws, R6.wipe (w4'.trans (wipe_wipe σ vs).symm), e6, (d2.g g25).weak fun b z => Fb_wipe b z, (g2.trans g25).weak fun b z => Fb_wipe b z, q5⟩
    | true =>
      rw [if_pos rfl] at q5
      show if true = true then _ else _
      rw [if_pos rfl]
      refine ⟨G.pin D (.lst ws), loc, ρ5, R5, hi1 _ _ _ (fun ds1 ρ6 q6 J1 H6 R6 g6 gw => ?_) q5⟩
      obtain ⟨R7, e7⟩ := R6.unpin h0 fun z => np (bs _ z)
      have g26 : Grow (Fb (G.plus D).fb ρ2 loc) (Fb (G.plus D).fb ρ6 loc) H2 H6 := g25.trans g6
      let Vp : List DL.D → Hp → Prop := fun l Ha => ∃ ρa acc ws, Rep K (G.plus D) ρa loc (L2.wipe σ4 vs1) Ha ∧ Ha D = some (.lst ws) ∧ DxAll K Ha (Fb (G.plus D).fb ρa loc) ws acc ∧ Grow (Fb (G.plus D).fb ρ6 loc) (Fb (G.plus D).fb ρa loc) H6 Ha ∧
        lcLoop g1 tt1 te vs1 (fun acc' ρ4 => lcLoop2 g tt mi1 g1 tt1 te vs vs1 KK (ds.drop (i + 1)) acc' (wipeS ρ4 vs)) l acc ρa
      refine ⟨fun j k Ha => k = ds1.length - j ∧ Vp (ds1.drop j) Ha, ⟨_, rfl, wipeS ρ6 vs1, acc, ws, R7.wipe (wipe_wipe σ4 vs1).symm, e7, (d2.g g26).weak fun b z => Fb_wipe b z, Grow.refl.weak fun b z => Fb_wipe b z, by simpa using q6⟩, ?_⟩
      rintro j k Ha ⟨hk, ρa, acc2, ws2, Ra, ea, da, ga, qa⟩
      obtain ⟨gw1, gw2⟩ := gw j _ Ha ga Ra.fbE
      have gall : Grow (Fb G.fb ρ1 loc) (Fb (G.plus D).fb ρa loc) H1 Ha := g2.trans (g26.trans ga)
      cases hd1 : ds1[j]? with
      | none =>
        have hl1 : ds1.length ≤ j := List.getElem?_eq_none_iff.mp hd1
        rw [List.drop_eq_nil_of_le hl1] at qa
        have qb : lcLoop2 g tt mi1 g1 tt1 te vs vs1 KK (ds.drop (i + 1)) acc2 (wipeS (wipeS ρa vs1) vs) := qa
        refine .inl ⟨gw2 hl1, wipeS (wipeS ρa vs1) vs, acc2, ws2, ?_, ea, (da.weak fun b z => Fb_wipe b z).weak fun b z => Fb_wipe b z, (gall.weak fun b z => Fb_wipe b z).weak fun b z => Fb_wipe b z, qb⟩
        exact (Ra.wipe (σ := L2.wipe σ4 vs1) (vs := vs1) rfl).wipe (by rw [wipe_sub sub, w4', wipe_wipe])
      | some d1 =>
        obtain ⟨hl1, hd1'⟩ := List.getElem?_eq_some_iff.mp hd1
        have e1 : ds1.drop j = d1 :: ds1.drop (j + 1) := by rw [← hd1']; exact List.drop_eq_getElem_cons hl1
        rw [e1] at qa
        obtain ⟨go1, yl1⟩ := gw1 d1 hd1
        refine .inr ⟨go1, fun Hb => Vp (ds1.drop (j + 1)) Hb, fun Hb z => ⟨_, by omega, rfl, z⟩, fun x1 Hb y1 => ?_⟩
        obtain ⟨mb, db⟩ := yl1 x1 Hb y1
        have Rb := (Ra.more mb).pin (mb _ _ ea)
        refine ⟨G.pin D (.lst ws2), loc, ρa, d1, Rb, db, hg1 _ _ _ _ (fun ρc qc σc Hc Rc gc wc => ⟨wc.trans (wipe_wipe σ4 vs1), ?_⟩) qa⟩
        refine ⟨G.pin D (.lst ws2), loc, ρc, Rc, ht1 _ _ _ (fun b1 ρd qd Hd Rd gd => ?_) qc⟩
        have gad : Grow (Fb (G.plus D).fb ρa loc) (Fb (G.plus D).fb ρd loc) Ha Hd := (more_grow mb).trans (gc.trans gd)
        cases b1 with
        | false =>
          rw [if_neg Bool.false_ne_true] at qd
          show if false = true then _ else _
          rw [if_neg Bool.false_ne_true]
          obtain ⟨Re, ee⟩ := Rd.unpin h0 fun z => np (bs _ z)
          exact ⟨wipeS ρd vs1, acc2, ws2, Re.wipe wc, ee, (da.g gad).weak fun b z => Fb_wipe b z, (ga.trans gad).weak fun b z => Fb_wipe b z, qd⟩
        | true =>
          rw [if_pos rfl] at qd
          show if true = true then _ else _
          rw [if_pos rfl]
          refine ⟨G.pin D (.lst ws2), loc, ρd, Rd, he _ _ _ (fun y ρe qe v He Re ge de => ?_) qd⟩
          have gae : Grow (Fb (G.plus D).fb ρa loc) (Fb (G.plus D).fb ρe loc) Ha He := gad.trans ge
          obtain ⟨Rf, ef⟩ := Re.unpin h0 fun z => np (bs _ z)
          obtain ⟨Rg, gg⟩ := Rf.wrP (o := .lst (ws2 ++ [v])) h0 np bs
          refine ⟨ws2, ef, by rw [da.length]; exact qe.1, wipeS ρe vs1, acc2 ++ [y], ws2 ++ [v], Rg.wipe wc, upd_same, ?_, ((ga.trans gae).trans gg).weak fun b z => Fb_wipe b z, qe.2⟩
          exact (((da.g gae).append (.cons de .nil)).g gg).weak fun b z => Fb_wipe b z
end
section
variable {X : Cx} {elt tg iter tg1 iter1 : Expr} {ifs ifs1 : List Expr} {scope : Scope} {pos : Pos} {mi mi1 : M (List D)} {g g1 : GMn} {tt tt1 : M Bool} {te : M D} {vs1 : List Nat}
theorem nm_lc2 (own : List (Str × Nat)) (sub : ∀ i ∈ vs1, i ∈ own.map (·.2)) (hc : X.calm = true) (hN : X.N.Nodup) (hi : IM X tg iter mi) (ok : blkC X.N X.env.scope scope own = true)
    (hg : ∀ (s : Shared) (H : Hp) (C : Addr) (cl : List (Str × Addr)) (fp : List Addr), GM (X.blk s H scope (compEnvC scope cl C X.env) fp) (own.map (·.2)) tg g)
    (ht : ∀ (s : Shared) (H : Hp) (C : Addr) (cl : List (Str × Addr)) (fp : List Addr), TsM (X.blk s H scope (compEnvC scope cl C X.env) fp) ifs tt)
    (hi1 : ∀ (s : Shared) (H : Hp) (C : Addr) (cl : List (Str × Addr)) (fp : List Addr), IM (X.blk s H scope (compEnvC scope cl C X.env) fp) tg1 iter1 mi1)
    (hg1 : ∀ (s : Shared) (H : Hp) (C : Addr) (cl : List (Str × Addr)) (fp : List Addr), GM (X.blk s H scope (compEnvC scope cl C X.env) fp) vs1 tg1 g1)
    (ht1 : ∀ (s : Shared) (H : Hp) (C : Addr) (cl : List (Str × Addr)) (fp : List Addr), TsM (X.blk s H scope (compEnvC scope cl C X.env) fp) ifs1 tt1)
    (he : ∀ (s : Shared) (H : Hp) (C : Addr) (cl : List (Str × Addr)) (fp : List Addr), EM (X.blk s H scope (compEnvC scope cl C X.env) fp) elt te) (hs : ∀ x, foldedSetIterable iter X.env x = pure x := by intro _; rfl) (hs1 : ∀ env x, foldedSetIterable iter1 env x = pure x := by intro _ _; rfl) :
    NM X (.ListComp elt [⟨tg, iter, ifs, 0⟩, ⟨tg1, iter1, ifs1, 0⟩] scope pos) (mLc2 mi g tt mi1 g1 tt1 te (own.map (·.2)) vs1) := by
  have z1 := (hg X.s_0 X.H_0 0 [] []).mono
  have z2 := (ht X.s_0 X.H_0 0 [] []).mono
  have z3 := (hi1 X.s_0 X.H_0 0 [] []).mono
  have z4 := (hg1 X.s_0 X.H_0 0 [] []).mono
  have z5 := (ht1 X.s_0 X.H_0 0 [] []).mono
  have z6 := (he X.s_0 X.H_0 0 [] []).mono
  exact ⟨mono_lc2 hi.mono z1 z2 z3 z4 z5 z6, pe_weak (pe_lc2 (wi := TIof X.K mi) (g := TGof X.K (own.map (·.2)) g) (tt := TTof X.K tt) (wi1 := TIof X.K mi1) (g1 := TGof X.K vs1 g1) (tt1 := TTof X.K tt1) (te := TEof X.K te) hc hN hi.run (blkOk_by ok) sub
    (fun s H C cl fp => (hg s H C cl fp).run) (fun s H C cl fp => (ht s H C cl fp).run) (fun s H C cl fp => (hi1 s H C cl fp).run) (fun s H C cl fp => (hg1 s H C cl fp).run) (fun s H C cl fp => (ht1 s H C cl fp).run) (fun s H C cl fp => (he s H C cl fp).run) hs hs1) fun σ H Q h => lc2_meets hi.mono z1 z2 z3 z4 z5 z6 sub h⟩
end
end DL

namespace DL
open PySem PySem.Spec PyProof.Rows L2

/-! ### defs as values -/
section
variable {X : Cx} {x : Str} {p pos : Pos}
/-- a def's name as a value -/
theorem em_glF {y : Str} {f : Addr} (hm : X.mg x = some (.ref f)) (ha : FnAt X.K y f) (hg : Gl X x := by rfl) (hd : (x == ("__debug__" : Str)) = false := by decide) : EM X (.Name x p) (mPure (.dict (fnD y))) :=
  em_gl (v := .ref f) hm rfl (fun _ _ => .fnr y rfl ha) hg hd
end
def txLook {α : Type} : List (Str × α) → Str → Option α
  | [], _ => none
  | (x, a) :: r, z => if x = z then some a else txLook r z
/-- the entries of a dict from texts to defs -/
def TabEs (K : PySem.W.Frag) : List DictEntry → List (Str × Str) → Prop
  | [], [] => True
  | e :: es, (x, y) :: r => (∃ t, e.key = .str x t) ∧ (∃ f, e.val = .ref f ∧ FnAt K y f) ∧ TabEs K es r
  | _, _ => False
/-- a dict of the module from texts to defs -/
def TabF (K : PySem.W.Frag) (w : World) (a : Addr) (tbl : List (Str × Str)) : Prop :=
  (a == sysModules) = false ∧ ∃ es n, K.lookup a = some ⟨.type "dict", none, .dict es n, #[]⟩ ∧ PySem.W.KeysLit w.params es.toList ∧ TabEs K es.toList tbl
theorem tabEs_find {K : PySem.W.Frag} (z : Str) : ∀ {es : List DictEntry} {tbl : List (Str × Str)}, TabEs K es tbl →
    (match txLook tbl z with | some y => ∃ f, (es.find? fun e => Value.isStrOf z e.key).map (·.val) = some (.ref f) ∧ FnAt K y f | none => (es.find? fun e => Value.isStrOf z e.key).map (·.val) = none)
  | [], [], _ => rfl
  | e :: es, (x, y) :: r, ⟨⟨t, h1⟩, ⟨f, h2, h3⟩, h4⟩ => by
    unfold txLook
    by_cases hz : x = z
    · subst hz
      rw [if_pos rfl]
      refine ⟨f, ?_, h3⟩
      have e1 : Value.isStrOf x e.key = true := by rw [h1]; exact keyIs_str x t
      rw [List.find?_cons_of_pos (by simpa using e1)]
      simp [h2]
    · rw [if_neg hz]
      have e1 : Value.isStrOf z e.key = false := by
        cases q : Value.isStrOf z e.key with
        | false => rfl
        | true =>
          obtain ⟨u, hu⟩ := Value.isStrOf_shape q
          rw [h1] at hu
          exact absurd (Value.str.inj hu).1 hz
      rw [List.find?_cons_of_neg (by simp [e1])]
      exact tabEs_find z h4
def rFix (K : PySem.W.Frag) (w : World) (tbl : List (Str × Str)) : R2 := fun x y H Q => ∃ a z y', x = .ref a ∧ y = .str z ∧ TabF K w a tbl ∧ txLook tbl z = some y' ∧ ∀ f, FnAt K y' f → Q (.ref f) H
def rNinF (K : PySem.W.Frag) (w : World) (tbl : List (Str × Str)) : R2 := fun x y H Q => ∃ a z, x = .str z ∧ y = .ref a ∧ TabF K w a tbl ∧ Q (.bl (!(txLook tbl z).isSome)) H
section
variable {X : Cx} {tbl : List (Str × Str)}
theorem ix_fix : IxR X (rFix X.K X.w tbl) := by
  intro value slice pins s σ H x y v u Q I rx ry h hs
  obtain ⟨p, z, y', rfl, rfl, ⟨_, es, n, hl, hk, ht⟩, e, q⟩ := h
  obtain rfl : v = Value.ref p := rx
  obtain ⟨t, rfl⟩ := ry
  have hm := PySem.W.mapOf_K (prog := X.prog) (w := X.w) I.kIn hl hk
  have hf := tabEs_find z ht
  rw [e] at hf
  obtain ⟨f, h1, h2⟩ := hf
  have h3 : findBy Value.isStrOf es z = some (.ref f) := by
    obtain ⟨l⟩ := es
    unfold findBy
    rw [List.find?_toArray]
    exact h1
  exact tail_any hm.typeIs slot_dict_getitem.lookup (wpAny_getItem_of (strKind_is X.prog X.w z t) hm h3 ⟨.ref f, H, I.tok _, rfl, q f h2⟩) hs
theorem op_ninF : OpR X (compareOp .NotIn) (rNinF X.K X.w tbl) := by
  intro pins s σ H x y v u Q I rx ry h
  obtain ⟨p, z, rfl, rfl, ⟨hsm, es, n, hl, hk, ht⟩, q⟩ := h
  obtain rfl : u = Value.ref p := ry
  obtain ⟨t, rfl⟩ := rx
  have hm := PySem.W.mapOf_K (prog := X.prog) (w := X.w) I.kIn hl hk
  have h3 : (findBy Value.isStrOf es z).isSome = (txLook tbl z).isSome := by
    have hf := tabEs_find z ht
    obtain ⟨l⟩ := es
    unfold findBy
    rw [List.find?_toArray]
    cases e : txLook tbl z with
    | none => rw [e] at hf; rw [show (l.find? fun e => Value.isStrOf z e.key).map (·.val) = none from hf]; rfl
    | some y => rw [e] at hf; obtain ⟨f, h1, _⟩ := hf; rw [show (l.find? fun e => Value.isStrOf z e.key).map (·.val) = some (.ref f) from h1]; rfl
  refine wpAny_notIn_of (strKind_is X.prog X.w z t) hsm hm ?_
  rw [h3]
  exact ⟨.bl _, H, I.tok _, rfl, q⟩
end
def mFix (tbl : List (Str × Str)) (m : M D) : M D := fun ρ k => m ρ fun d ρ1 => match d with
  | .str x => ∃ y, txLook tbl x = some y ∧ k (.dict (fnD y)) ρ1
  | _ => False
def mNinF (tbl : List (Str × Str)) (m : M D) : M D := fun ρ k => m ρ fun d ρ1 => match d with
  | .str x => k (.bool (!(txLook tbl x).isSome)) ρ1
  | _ => False
section
variable {X : Cx} {x : Str} {p pos : Pos} {i : Expr} {m : M D} {a : Addr} {tbl : List (Str × Str)}
theorem em_fix (ht : TabF X.K X.w a tbl) (hm : X.mg x = some (.ref a)) (hi : EM X i m) (hs : PlainIx i) (hg : Gl X x := by rfl) (hd : (x == ("__debug__" : Str)) = false := by decide) : EM X (.Subscript (.Name x p) i pos) (mFix tbl m) := by
  refine ⟨fun ρ k k' w q => hi.mono ρ _ _ (fun d ρ1 q1 => by
    cases d <;> first | exact (show False from q1).elim | skip
    exact ⟨q1.choose, q1.choose_spec.1, w _ _ q1.choose_spec.2⟩) q, pe_weak (pe_ix (ix_fix (tbl := tbl)) (pe_glob (v := .ref a) hg hm rfl hd) hi.run hs) ?_⟩
  rintro σ H Q ⟨G, loc, ρ, R, q⟩
  refine ⟨G, loc, ρ, R, hi.mono ρ _ _ (fun d ρ1 q1 v H1 R1 g1 d1 => ?_) q⟩
  cases d <;> first | exact (show False from q1).elim | skip
  cases d1
  obtain ⟨y, e, q2⟩ := q1
  exact ⟨a, _, y, rfl, rfl, ht, e, fun f hf => q2 _ H1 R1 g1 (.fnr y rfl hf)⟩
theorem em_ninF (ht : TabF X.K X.w a tbl) (hm : X.mg x = some (.ref a)) (hi : EM X i m) (hb : behindInMarks .NotIn (.Name x p) = false := by rfl) (hg : Gl X x := by rfl) (hd : (x == ("__debug__" : Str)) = false := by decide) : EM X (.Compare i [.NotIn] [.Name x p] pos) (mNinF tbl m) := by
  refine ⟨fun ρ k k' w q => hi.mono ρ _ _ (fun d ρ1 q1 => by
    cases d <;> first | exact (show False from q1).elim | skip
    exact w _ _ q1) q, pe_weak (pe_cmpR (op_ninF (tbl := tbl)) hi.run (pe_glob (v := .ref a) hg hm rfl hd) hb) ?_⟩
  rintro σ H Q ⟨G, loc, ρ, R, q⟩
  refine ⟨G, loc, ρ, R, hi.mono ρ _ _ (fun d ρ1 q1 v H1 R1 g1 d1 => ?_) q⟩
  cases d <;> first | exact (show False from q1).elim | skip
  cases d1
  exact ⟨a, _, rfl, rfl, ht, q1 _ H1 R1 g1 (.bl _)⟩
end
section
variable {X : Cx} {x : Str} {p pos : Pos} {i : Expr} {m : M D} {a : Addr} {tbl : List (Str × Str)}
theorem tm_ninF (ht : TabF X.K X.w a tbl) (hm : X.mg x = some (.ref a)) (hi : EM X i m) (hb : behindInMarks .NotIn (.Name x p) = false := by rfl) (hg : Gl X x := by rfl) (hd : (x == ("__debug__" : Str)) = false := by decide) : TM X (.Compare i [.NotIn] [.Name x p] pos) (mTest (mNinF tbl m)) := by
  have mm : Mono (mNinF tbl m) := fun ρ k k' w q => hi.mono ρ _ _ (fun d ρ1 q1 => by
    cases d <;> first | exact (show False from q1).elim | skip
    exact w _ _ q1) q
  refine ⟨mono_test mm, pt_weak (pt_cmpR (op_ninF (tbl := tbl)) hi.run (pe_glob (v := .ref a) hg hm rfl hd) hb) fun σ H Q h => ?_⟩
  obtain ⟨G, loc, ρ, R, q⟩ := tt_te mm h
  refine ⟨G, loc, ρ, R, hi.mono ρ _ _ (fun d ρ1 q1 v H1 R1 g1 d1 => ?_) q⟩
  cases d <;> first | exact (show False from q1).elim | skip
  cases d1
  exact ⟨a, _, rfl, rfl, ht, q1 _ H1 R1 g1 (.bl _)⟩
end
/-- a call of a local name that holds one of the defs tab -/
def mFnV (i : Nat) (tab : List (Str × Nat × FS)) (m : M (List D)) : M D := fun ρ k => ∃ y n F, ρ[i]? = some (.dat (.dict (fnD y))) ∧ txLook tab y = some (n, F) ∧ m ρ fun ds ρ1 => ds.length = n ∧ F ds fun _ d => k d ρ1
structure HeldAll (P : Program) (w : World) (K : PySem.W.Frag) (mg : Str → Option Value) (base : Heap) (k : Nat) (tab : List (Str × Nat × FS)) : Prop where
  ok : ∀ y n F, txLook tab y = some (n, F) → PmS F ∧ ∀ f, FnAt K y f → HeldG P w K mg base k f (sp0 K n F)
section
variable {P : Program} {w : World} {K : PySem.W.Frag} {mg : Str → Option Value} {base : Heap} {k j n : Nat} {f : Addr} {fd : FuncData} {ps : List Str} {F : FS} {y : Str} {tab : List (Str × Nat × FS)}
theorem heldAll_nil : HeldAll P w K mg base k [] := ⟨fun _ _ _ h => nomatch h⟩
theorem heldAll_cons (ok : OkS P w K mg base j f fd ps n F) (hj : j ≤ k) (e : FnAt K y f) (hk : PySem.W.keepIn K (.ref f) = true) (hb : Binds K fd ps []) (r : HeldAll P w K mg base k tab) : HeldAll P w K mg base k ((y, n, F) :: tab) := by
  refine ⟨fun z m F' h => ?_⟩
  unfold txLook at h
  by_cases hz : y = z
  · rw [if_pos hz] at h
    cases h
    subst hz
    refine ⟨ok.pm, fun f' h' => ?_⟩
    have e2 := e.symm.trans h'
    cases e2
    exact ⟨fd, ps, ok.ok.mono hj, hk, hb⟩
  · rw [if_neg hz] at h
    exact r.ok z m F' h
end
section
variable {X : Cx} {k i : Nat} {x : Str} {p pos : Pos} {e : Expr} {es : List Expr} {m : M (List D)} {tab : List (Str × Nat × FS)}
theorem em_fnV (hh : HeldAll X.prog X.w X.K X.mg X.base k tab) (hr : Rm k X.A) (hN : X.N[i]? = some x) (hv : Vis X.env.scope x) (ha : AM X (e :: es) m)
    (hdb : (x == ("__debug__" : Str)) = false := by decide) (hcd : (x == ("__classdict__" : Str)) = false := by decide)
    (he : starEach (e :: es) X.env = (false, eval e X.env) :: starEach es X.env := by rfl) (hpl : (backTo pos (starEach es X.env)).any (·.1) = false := by rfl) : EM X (.Call (.Name x p) (e :: es) [] pos) (mFnV i tab m) := by
  refine ⟨fun ρ k k' w ⟨y, n, F, h1, h2, q⟩ => ⟨y, n, F, h1, h2, ha.mono ρ _ _ (fun ds ρ1 q1 => ⟨q1.1, (hh.ok y n F h2).1 ds _ _ (fun b d q2 => w _ _ q2) q1.2⟩) q⟩, ⟨fun pins s σ H Q I h => ?_⟩⟩
  obtain ⟨G, loc, ρ, R, y, n, F, hs, hl, q⟩ := h
  obtain ⟨v, h1, h2⟩ := R.dat i _ hs
  obtain ⟨f, rfl, hf⟩ := h2.fnA
  obtain ⟨mF, held⟩ := hh.ok y n F hl
  obtain ⟨fd, ps, FO, hk, hb⟩ := (held f hf).ex
  refine (pe_callLG (i := i) (f := f) (sp := sp0 X.K n F) (dvs := []) (E := fun _ _ _ => False) FO hr hN hv hk hb .nil (fun _ _ _ _ _ _ _ z => z.elim) ha.run hdb hcd he hpl).run pins s σ H Q I ⟨h1, ?_⟩
  refine ⟨G, loc, ρ, R, ha.mono ρ _ _ (fun ds ρ1 q1 vs H1 R1 g1 d1 => ?_) q⟩
  exact ⟨Fb G.fb ρ1 loc, ds, R1.fbE, by rw [List.append_nil]; exact d1, q1.1, mF ds _ _ (fun b d q2 v H2 m2 d2 _ => q2 v H2 (R1.more m2) (g1.trans (more_grow m2)) d2) q1.2⟩
end
end DL

namespace DL
open PySem L2

/-! ### i += n; four names at once -/
def addWD : P2
  | .int i, .int j, k => k (.int (i + j))
  | _, _, _ => False
theorem pm_addW (a b : D) : Pm1 (addWD a b) := fun k k' w q => by
  unfold addWD at q ⊢
  split at q
  · exact w _ q
  · exact q.elim
theorem prim_addW {K : PySem.W.Frag} : Prim2 K (ipI fun i j => i + j) addWD := by
  intro F H x y a b Q hF hx hy h
  unfold addWD at h
  split at h
  · cases hx; cases hy
    exact ⟨_, _, rfl, rfl, Kd.now (d := .int _) h (.int _)⟩
  · exact h.elim
theorem four_of {vs : List V} (h : vs.length = 4) : ∃ a b c d, vs = [a, b, c, d] := by
  match vs, h with
  | [a, b, c, d], _ => exact ⟨a, b, c, d, rfl⟩
theorem putAll4 {i j l o : Nat} (hij : i ≠ j) (hil : i ≠ l) (hio : i ≠ o) (hjl : j ≠ l) (hjo : j ≠ o) (hlo : l ≠ o) {v w u t : V} {σ : L2.St} : (((σ.set i (some v)).set j (some w)).set l (some u)).set o (some t) = putAll [i, j, l, o] [v, w, u, t] σ := by
  show _ = ((((σ.set o (some t)).set l (some u)).set j (some w)).set i (some v))
  rw [List.set_comm _ _ hij, List.set_comm _ _ hil, List.set_comm _ _ hio, List.set_comm _ _ hjl, List.set_comm _ _ hjo, List.set_comm _ _ hlo]
section
variable {X : Cx} {ms : M (List Put)} {pos : Pos}
theorem sm_parT4 {i j l o : Nat} {x y z u : Str} {a b c d : Expr} {px py pz pu pt : Pos} {kt k2 : Nat} {p2 : Pos} (hc : X.calm = true) (hN : X.N.Nodup) (hi : X.N[i]? = some x) (hj : X.N[j]? = some y) (hl : X.N[l]? = some z) (ho : X.N[o]? = some u)
    (hij : i ≠ j) (hil : i ≠ l) (hio : i ≠ o) (hjl : j ≠ l) (hjo : j ≠ o) (hlo : l ≠ o) (hx : Loc X.env.scope x) (hy : Loc X.env.scope y) (hz : Loc X.env.scope z) (hu : Loc X.env.scope u) (ha : APM X [a, b, c, d] ms)
    (hfx : X.fn x = true ∨ X.env.scope.names.lookup x = some .local := by first | exact .inl rfl | exact .inr rfl) (hfy : X.fn y = true ∨ X.env.scope.names.lookup y = some .local := by first | exact .inl rfl | exact .inr rfl) (hfz : X.fn z = true ∨ X.env.scope.names.lookup z = some .local := by first | exact .inl rfl | exact .inr rfl) (hfu : X.fn u = true ∨ X.env.scope.names.lookup u = some .local := by first | exact .inl rfl | exact .inr rfl)
    (hs : swapsWithSole [.Tuple [.Name x px, .Name y py, .Name z pz, .Name u pu] kt pt] (.Tuple [a, b, c, d] k2 p2) pos.line X.env = pure false := by rfl) (hw : swappedStores [.Tuple [.Name x px, .Name y py, .Name z pz, .Name u pu] kt pt] (.Tuple [a, b, c, d] k2 p2) X.env = pure none := by rfl) :
    SM X (.Assign [.Tuple [.Name x px, .Name y py, .Name z pz, .Name u pu] kt pt] (.Tuple [a, b, c, d] k2 p2) pos) (sPar [i, j, l, o] ms) := by
  refine sm_parT_of ha (pg_tup (n := 4) hc (pgs_cons (pg_name (i := i) hN hi hx hfx) (pgs_cons (pg_name (i := j) hN hj hy hfy) (pgs_cons (pg_name (i := l) hN hl hz hfz) (pgs_cons (pg_name (i := o) hN ho hu hfu) pgs_nil))))) hs hw rfl (by show 4 ≤ sizeLine; decide) fun q vs σ H Q e l' h => ?_
  obtain ⟨v, w, u', t, rfl⟩ := four_of l'
  exact ⟨q, _, rfl, .inl (.inl e), rfl, v, [w, u', t], rfl, w, [u', t], rfl, u', [t], rfl, t, [], rfl, rfl, by rw [putAll4 hij hil hio hjl hjo hlo]; exact h⟩
end
end DL

namespace DL
open PySem L2
/-! ### for x in a name that holds a list or a tuple -/
def mItU (i : Nat) : M (List D) := fun ρ k => match ρ[i]? with
  | some (.dat (.tuple _)) => mItT (mVar i) ρ k
  | _ => mItL (mVar i) ρ k
theorem im_U {X : Cx} {tg e : Expr} {i : Nat} (hL : IM X tg e (mItL (mVar i))) (hT : IM X tg e (mItT (mVar i))) : IM X tg e (mItU i) := by
  refine ⟨fun ρ k k' w q => ?_, ⟨fun pins s σ H Q I h => ?_⟩⟩
  · unfold mItU at q ⊢
    split at q
    · exact hT.mono ρ k k' w q
    · exact hL.mono ρ k k' w q
  · obtain ⟨G, loc, ρ, R, q⟩ := h
    unfold mItU at q
    split at q
    · exact hT.run.run pins s σ H Q I ⟨G, loc, ρ, R, q⟩
    · exact hL.run.run pins s σ H Q I ⟨G, loc, ρ, R, q⟩
end DL

/-! The law's call, by a promise narrowed to where nothing is being shown. -/
namespace DL
open PySem PySem.Spec PyProof.Rows L2
section
variable {P : Program} {w : World} {K : PySem.W.Frag} {mg mb : Str → Option Value} {CX : CXT} {k : Nat} {fa a : Addr} {fd : FuncData} {x : Str} {sp : Sp} {s : Shared} {vs : List Value} {ns : List Int}
/-- .. from a heap H that tracks the script at most -/
theorem law_coreG (inK : K.In s.heap) (hns : s.heap.Ns mainGlobals mg) (hb : s.heap.Ns builtinsNs mb) (hbb : ∀ x : Str, x ≠ "__name__" → mb x = bootBuiltins x) (lim : s.heap.NoLimit) (hg : s.gens = #[])
    (ha : s.heap.get? a = some { cls := .type "list", data := .seq vs.toArray }) (room : Rm k callerA)
    (F : ∀ base : Heap, K.In base → base.Ns mainGlobals mg → FnG P w K mg base CX k fa fd [x] sp) (bt : ∀ (s : Shared) (u : Value), BindsTo s fd ⟨[u], []⟩ [(x, u)])
    (hsp : ∀ H : Hp, Only H → SqL K H a (ns.map V.int) → sp [.ref a] H (fun v _ => v = .bl true) fun _ _ _ => False) (noX : ∀ H e s', CX [] H s (fun _ _ _ => False) e s' → False)
    (H : Hp) (only : Only H) (hS : SqL K H a (ns.map V.int)) (ok : HOk P w H s.heap) (one : ∀ b, H b ≠ none → b = a) (notK : H a ≠ none → K.lookup a = none) :
    codeAny (model P w) callerA (.call (.ref fa) ⟨[.ref a], []⟩) (fun r s' => r = .ok (.ret (.bool true)) ∧ OldK s.heap s'.heap ∧ s'.os = s.os ∧ AllBare s'.gens) s := by
  have hid : ∀ {b : Addr} {o : Obj}, s.heap.get? b = some o → H b = none → (hidT s.heap H).get? b = some o := fun e n => hidT_get e n
  have free : ∀ {b : Addr} {o : Obj} {es : Array DictEntry} {n : Nat}, s.heap.get? b = some o → o.data = .dict es n → H b = none := by
    intro b o es n e d
    cases q : H b with
    | none => rfl
    | some u =>
      obtain rfl : b = a := one b (by rw [q]; exact fun z => nomatch z)
      rw [ha] at e
      cases e
      cases (show Data.seq vs.toArray _ = Data.dict es n from d)
  have ns' : ∀ {b : Addr} {m : Str → Option Value}, s.heap.Ns b m → (hidT s.heap H).Ns b m := by
    rintro b m ⟨o, es, n, e, d, r⟩
    exact ⟨o, es, n, hid e (free e d), d, r⟩
  have inB : K.In (hidT s.heap H) := by
    intro b o e
    refine hid (inK b o e) ?_
    cases q : H b with
    | none => rfl
    | some u =>
      obtain rfl : b = a := one b (by rw [q]; exact fun z => nomatch z)
      rw [notK (by rw [q]; exact fun z => nomatch z)] at e
      cases e
  have md : Mod K mg (hidT s.heap H) := by
    obtain ⟨mc, h1, h2⟩ := lim
    exact ⟨inB, ns' hns, ⟨mb, ns' hb, hbb⟩, ⟨mc, ns' h1, h2⟩⟩
  have env : Env0 P w K mg (hidT s.heap H) callerA [] s H :=
    ⟨rfl, md, fun b o e => of_hidT e, Nat.le_of_eq (hidT_size _ _), trivial, fun b z => (nomatch (show b ∈ ([] : List Addr) from z)), ok, .of_eq hg⟩
  refine codeAny_mono ((F _ inB (ns' hns)).run callerA [] s H ⟨[.ref a], []⟩ [.ref a] [.ref a] _ _ room env (bt s (.ref a)) (.cons rfl .nil) (hsp H only hS)) ?_
  intro out s' got
  cases out with
  | error e => exact (noX H e s' got).elim
  | ok fl =>
    cases fl with
    | next => exact got.elim
    | brk => exact got.elim
    | cont => exact got.elim
    | ret u =>
      obtain ⟨v, H', os, bare, un, ok', rel, ev⟩ := got
      obtain rfl : v = .bl true := ev
      obtain rfl : u = Value.bool true := rel
      refine ⟨rfl, OldK.of_keep ?_, os, bare⟩
      intro b o e
      cases q : H b with
      | none => exact un.keep b o e q (fun z => nomatch (show b ∈ ([] : List Addr) from z)) (by simp)
      | some u =>
        rcases only b with z | ⟨ob, xs, z⟩
        · rw [q] at z
          cases z
        · obtain ⟨e1, _⟩ := ok b _ z
          obtain ⟨e2, _⟩ := ok' b _ (un.frzs b ob _ z)
          rw [e] at e1
          cases e1
          exact e2
theorem law_callG (inK : K.In s.heap) (hns : s.heap.Ns mainGlobals mg) (hb : s.heap.Ns builtinsNs mb) (hbb : ∀ x : Str, x ≠ "__name__" → mb x = bootBuiltins x) (lim : s.heap.NoLimit) (hg : s.gens = #[])
    (ha : s.heap.get? a = some { cls := .type "list", data := .seq vs.toArray }) (hi : IntsAre vs ns) (hl : ns.length ≤ sizeLine) (room : Rm k callerA)
    (F : ∀ base : Heap, K.In base → base.Ns mainGlobals mg → FnG P w K mg base CX k fa fd [x] sp) (bt : ∀ (s : Shared) (u : Value), BindsTo s fd ⟨[u], []⟩ [(x, u)])
    (hsp : ∀ H : Hp, Only H → SqL K H a (ns.map V.int) → sp [.ref a] H (fun v _ => v = .bl true) fun _ _ _ => False) (noX : ∀ H e s', CX [] H s (fun _ _ _ => False) e s' → False) :
    codeAny (model P w) callerA (.call (.ref fa) ⟨[.ref a], []⟩) (fun r s' => r = .ok (.ret (.bool true)) ∧ OldK s.heap s'.heap ∧ s'.os = s.os ∧ AllBare s'.gens) s := by
  have rel := vals_ints hi
  have many := hi.length
  have core := law_coreG inK hns hb hbb lim hg ha room F bt hsp noX
  cases q : K.lookup a with
  | some o =>
    have e := inK a o q
    rw [ha] at e
    cases e
    refine core (fun _ => none) (fun _ => Or.inl rfl) (Or.inr ⟨_, vs.toArray, _, q, rfl, rfl, rfl, ?_, by simpa using rel⟩) ?_ (fun b z => (z rfl).elim) (fun z => (z rfl).elim)
    · rw [List.size_toArray, many]
      exact hl
    · intro b u z
      cases (show (none : Option HO) = some u from z)
  | none =>
    have self : ∀ b : Addr, b = a → (if b = a then some (HO.frz { cls := .type "list", data := .seq vs.toArray } (.lst (ns.map V.int))) else none) = some (HO.frz { cls := .type "list", data := .seq vs.toArray } (.lst (ns.map V.int))) := fun b e => if_pos e
    refine core (fun b => if b = a then some (.frz { cls := .type "list", data := .seq vs.toArray } (.lst (ns.map V.int))) else none) ?_ (Or.inl (Or.inr ⟨_, self a rfl⟩)) ?_ ?_ (fun _ => q)
    · intro b
      by_cases e : b = a
      · exact Or.inr ⟨_, _, self b e⟩
      · exact Or.inl (if_neg e)
    · intro b u z
      by_cases e : b = a
      · have z' := (self b e).symm.trans z
        cases z'
        subst e
        exact ⟨ha, by rw [List.length_map]; exact hl, vs, _, rel, ha⟩
      · cases (if_neg e).symm.trans z
    · intro b z
      by_cases e : b = a
      · exact e
      · exact (z (if_neg e)).elim
end
theorem walk_ofG {l : PySem.W.OpenLaw} {n k : Nat} {q : Program} {loose : List Str} {XP : (Str → Option Value) → Heap → Prop} {YP : World → Heap → Prop} {d : DefRec} {K : Params → PySem.W.Frag} {CX : World → CXT} {sp : World → Sp} {x : Str}
    (hn : l.most = some n) (hn2 : n ≤ sizeLine) (hdf : d.params.defaults = []) (room : Room k callerA) (hY : ∀ (w : World) (h : Heap), YP w h → (K w.params).In h)
    (F : ∀ (w : World) (mg : Str → Option Value) (fa : Addr) (h : Heap), (K w.params).In h → h.Ns mainGlobals mg → mg d.name = some (.ref fa) →
      ∃ fd : FuncData, (∀ (s : Shared) (u : Value), BindsTo s fd ⟨[u], []⟩ [(x, u)]) ∧ ∀ base : Heap, (K w.params).In base → base.Ns mainGlobals mg → FnG l.prog w (K w.params) mg base (CX w) k fa fd [x] (sp w))
    (hsp : ∀ (w : World) (H : Hp) (a : Addr) (ns : List Int), ns.length ≤ n → Only H → SqL (K w.params) H a (ns.map V.int) → sp w [.ref a] H (fun v _ => v = .bl true) fun _ _ _ => False)
    (noX : ∀ (w : World) (H : Hp) (s : Shared) (e : Value) (s' : Shared), CX w [] H s (fun _ _ _ => False) e s' → False) : PySem.W.WalkO q loose XP YP l.row.toRowW d [] (fun f vs => PySem.call f vs) := by
  refine Att.attach_call hn hdf ?_
  intro w s₀ s mg mb fa o pm cd doc a vs ns G Y ho hd hcd at_ obj hints len gens
  have inK := hY w _ Y
  obtain ⟨fd, bt, each⟩ := F w mg fa _ inK G.T.g at_
  exact law_callG inK G.T.g G.T.b G.T.builtins G.T.nolimit gens obj hints (Nat.le_trans len hn2) ⟨room, rfl⟩ each bt (fun H only hS => hsp w H a ns len only hS) (fun H e s' => noX w H s e s')
end DL

namespace DL
open PySem L2
/-! ### a table of defs, entry by entry -/
theorem tabEs_nil {K : PySem.W.Frag} : TabEs K [] [] := trivial
theorem tabEs_cons {K : PySem.W.Frag} {e : DictEntry} {es : List DictEntry} {x y : Str} {r : List (Str × Str)} {t : Tok} {f : Addr} (h1 : e.key = .str x t) (h2 : e.val = .ref f) (h3 : PySem.W.nsIn K mainGlobals y = some (some (.ref f))) (h4 : TabEs K es r) : TabEs K (e :: es) ((x, y) :: r) :=
  ⟨⟨t, h1⟩, ⟨f, h2, h3⟩, h4⟩
end DL

namespace DL
open PySem PySem.Spec PyProof.Rows L2

/-! ### set(xs), xs a list of ints and texts -/
/-- the keys met, each once -/
def dedK (ks : List Key) : List Key := ks.foldl (fun a k => insK k a) []
theorem insK_len (k : Key) (L : List Key) : (insK k L).length ≤ L.length + 1 := by
  unfold insK
  split
  · omega
  · simp
theorem dedK_len (ks : List Key) : ∀ a : List Key, (ks.foldl (fun a k => insK k a) a).length ≤ a.length + ks.length := by
  induction ks with
  | nil => intro a; simp
  | cons k ks ih => intro a; rw [List.foldl_cons, List.length_cons]; have := ih (insK k a); have := insK_len k a; omega
theorem dedK_take {ks : List Key} {i : Nat} {k : Key} (h : ks[i]? = some k) : dedK (ks.take (i + 1)) = insK k (dedK (ks.take i)) := by
  obtain ⟨hi, e⟩ := List.getElem?_eq_some_iff.mp h
  unfold dedK
  rw [List.take_succ, h, List.foldl_append]; rfl
section
variable {P : Program} {w : World} {A : Around} {E : Value → Shared → Prop} {s : Shared}
theorem updateW {I : Addr} {fp wr : List Addr} {G : Array GenState → Array GenState → Prop} {n : Nat} {Pv : Nat → Value → Prop} {St : Nat → Shared → Prop} {R : Result → Shared → Prop}
    (W : WalksS P w A.in1 I fp wr G n Pv St) (S : Addr) (out : S ∉ fp) (ks : List Key) (hn : n = ks.length) (few : ks.length + 1 < scanBound) (hval : ∀ i v, Pv i v → ∃ k, ks[i]? = some k ∧ keyIs k v = true)
    (h0 : Heap) (fresh : h0.get? S = none) (freeW : ∀ b ∈ wr, h0.get? b = none) : ∀ (k i : Nat) (s : Shared), n - i = k → i ≤ n → St i s → (∀ b o, h0.get? b = some o → s.heap.get? b = some o) → SetW w s.heap S (dedK (ks.take i)) →
      (∀ s', Moved (S :: wr) G s s' → SetW w s'.heap S (dedK ks) → (∀ b o, h0.get? b = some o → s'.heap.get? b = some o) → R (.ok (.ret .none)) s') → codeAny (model P w) A (.builtin "set.update.loop" ⟨[.ref S, .ref I], []⟩) R s := by
  have notW : S ∉ wr := fun z => out (W.sub _ z)
  have up : ∀ b ∈ wr, b ∈ S :: wr := fun b z => List.mem_cons_of_mem _ z
  have kept : ∀ {s s' : Shared}, Moved wr G s s' → (∀ b o, h0.get? b = some o → s.heap.get? b = some o) → ∀ b o, h0.get? b = some o → s'.heap.get? b = some o := by
    intro s s' mv kp b o e
    exact mv.heap b o (fun z => by rw [freeW b z] at e; cases e) (kp b o e)
  intro k
  induction k with
  | zero =>
    intro i s ek le st kp hS fin
    obtain rfl : i = n := by omega
    refine codeAny_builtin F.entry_set_update_loop ?_
    rw [Around.under_plainId F.plain_set_update_loop _]
    show wpAny _ A.in1 (pyNext (.ref I) >>= _) _ _ s
    refine wpAny_bind (W.done s _ _ st ?_)
    intro s' mv
    show wpAny _ A.in1 (ret Value.none) _ _ s'
    have all : ks.take i = ks := by rw [hn, List.take_length]
    rw [all] at hS
    exact wpAny_pure (fin s' (mv.mono up) (hS.at fun o e => mv.heap S o notW e) (kept mv kp))
  | succ k ih =>
    intro i s ek le st kp hS fin
    have lt : i < n := by omega
    refine codeAny_builtin F.entry_set_update_loop ?_
    rw [Around.under_plainId F.plain_set_update_loop _]
    show wpAny _ A.in1 (pyNext (.ref I) >>= _) _ _ s
    refine wpAny_bind (W.item i s _ _ lt st ?_)
    intro v s' pv st' mv
    obtain ⟨key, hk, is⟩ := hval i v pv
    have kp' := kept mv kp
    have hS' : SetW w s'.heap S (dedK (ks.take i)) := hS.at fun o e => mv.heap S o notW e
    have room : (dedK (ks.take i)).length + 1 < scanBound := by
      have a1 := dedK_len (ks.take i) []
      have a2 : (dedK (ks.take i)).length ≤ ([] : List Key).length + (ks.take i).length := a1
      rw [List.length_take] at a2
      simp at a2
      omega
    show wpAny _ A.in1 (holding [v] (setAdd S v) >>= _) _ _ s'
    refine wpAny_bind (wpAny_holding ?_)
    unfold setAdd
    refine wpAny_holding (wpAny_bind ((mixKind P w).pyHash is ?_))
    refine addW_hashed is hS' room ?_
    intro b h' sb new
    rw [← dedK_take hk] at new
    have kp2 : ∀ b o, h0.get? b = some o → h'.get? b = some o := by
      intro b o e
      exact (sb.2 b (fun z => by rw [z, fresh] at e; cases e)).trans (kp' b o e)
    refine wpAny_pure ⟨plainId_quiet F.plain_set_update_loop _, ih (i + 1) _ (by omega) lt (W.frame _ s' _ _ st' (Nat.le_succ _) ?_) kp2 new ?_⟩
    · intro b z o e
      rw [sb.2 b (fun q : b = S => out (q ▸ z))]
      exact e
    · intro s2 mv2 hS2 kp3
      refine fin s2 (Moved.trans W.gtrans ((mv.mono up).then_heap (Nat.le_succ _) ?_) mv2) hS2 kp3
      intro b o z e
      rw [sb.2 b (fun q : b = S => z (q ▸ List.mem_cons_self))]
      exact e
end
/-- an empty set's object -/
def set0 (w : World) : Obj := { cls := .type "set", dict := none, data := .set #[] 0 (.fresh 0 0 (!w.params.followText "set-order")) }
section
variable {P : Program} {w : World} {A : Around} {E : Value → Shared → Prop} {s : Shared}
theorem setW_at {h : Heap} {a : Addr} (e : h.get? a = some (set0 w)) : SetW w h a [] := by
  obtain ⟨o, es, ep, t, h1, r⟩ := setW_fresh (h := h) w
  have e1 : (h.push (set0 w)).get? h.objs.size = some (set0 w) := Heap.get?_push_size _ rfl
  have e2 : some o = some (set0 w) := h1.symm.trans e1
  cases e2
  exact ⟨_, es, ep, t, e, r⟩
theorem callW {l : Addr} {items : Array Value} (ks : List Key) {Q : Value → Shared → Prop} (hh : A.handled = none) (hl : s.heap.IsList l items) (size : items.size = ks.length) (hval : ∀ (i : Nat) (v : Value), items[i]? = some v → ∃ k, ks[i]? = some k ∧ keyIs k v = true)
    (few : ks.length + 1 < scanBound) (fin : ∀ (h' : Heap) (tk : Nat), SetW w h' s.heap.objs.size (dedK ks) → (∀ b o, s.heap.get? b = some o → h'.get? b = some o) → Q (.ref s.heap.objs.size) { s with heap := h', toks := tk }) :
    wpAny (model P w) A (call (.type "set") [.ref l]) Q E s := by
  obtain ⟨c, tl, hmro⟩ := F.called_set.mro
  have g1 := F.called_set.made
  have g2 := F.called_set.sub
  refine wpAny_call (codeAny_of_tree ?_)
  show wpAny _ _ (callAny (.type "set") _) _ _ _
  refine wpAny_pure ⟨Code.quiet_builtin _ (by decide +kernel), codeAny_builtin F.entry_type_call ?_⟩
  rw [Around.under_plain (weight_type_call_type "set" [.ref l] []) rfl]
  have g3 := F.called_set.notType
  have g4 := F.called_set.canCreate
  have g5 := F.typeCall_set_1 (.ref l)
  repeat (any_goals (first | assumption | wp_step))
  refine codeAny_mono (code_set_led1 (.ref l) (E := E) (Q₁ := fun obj s₁ => obj = .ref s.heap.objs.size ∧ s₁ = { s with heap := s.heap.push (set0 w) }) ⟨rfl, rfl⟩) ?_
  intro r s₁ hr
  cases r with
  | error e => exact hr
  | ok fl =>
    cases fl with
    | next => exact hr.elim
    | brk => exact hr.elim
    | cont => exact hr.elim
    | ret obj =>
      obtain ⟨rfl, rfl⟩ := hr
      have hS : (s.heap.push (set0 w)).get? s.heap.objs.size = some (set0 w) := Heap.get?_push_size _ rfl
      have hT : Shared.TypeIs { s with heap := s.heap.push (set0 w) } (.ref s.heap.objs.size) "set" := ⟨_, hS, rfl⟩
      have g6 := F.called_set.init.lookup
      have g7 := F.called_set.init.bind (.ref s.heap.objs.size)
      repeat (any_goals (first | assumption | wp_step))
      refine codeAny_mono (codeAny_call_builtin (R := wants (fun r s₂ => r = .none ∧ ∃ h' tk, s₂ = { s with heap := h', toks := tk } ∧ SetW w h' s.heap.objs.size (dedK ks) ∧ (∀ b o, s.heap.get? b = some o → h'.get? b = some o)) E)
        F.called_set.init.plain F.entry_set_init (check_set_init_1 hT ?_)) ?_
      · obtain ⟨ol, hol, hcl, nl, hdl⟩ := hl
        obtain ⟨ocls, odict, odata, oslots⟩ := ol
        simp only at hcl hdl
        subst hcl
        subst hdl
        have hol' : (s.heap.push (set0 w)).get? l = some { cls := .type "list", dict := odict, data := .seq items nl, slots := oslots } := Heap.get?_push_of_some _ hol
        have g8 := F.sub_list_set
        have g9 := F.sub_list_frozenset
        have ne : (Value.type "list" == Value.type "dict") = false := by decide
        have isL : (s.heap.push (set0 w)).IsList l items := ⟨_, hol', rfl, nl, rfl⟩
        unfold Builtin.«set.__init__» noKeywords Builtin.Frozenset.updateFrom
        generalize hPI : pyIter = PI
        wp_walk
        subst hPI
        refine wpAny_pyIter_list isL ?_
        refine wpAny_bind (wpAny_runValue ?_)
        have lS : l < s.heap.objs.size := Heap.lt_size hol
        have hh3 : A.in1.in1.in1.handled = none := by simp [hh]
        have neI : l ≠ (s.heap.push (set0 w)).objs.size := by
          rw [Heap.size_push]
          exact Nat.ne_of_lt (Nat.lt_succ_of_lt lS)
        have out : s.heap.objs.size ∉ [(s.heap.push (set0 w)).objs.size, l] := by
          rw [Heap.size_push]
          simp only [List.mem_cons, List.mem_singleton, List.not_mem_nil, or_false, not_or]
          exact ⟨Nat.ne_of_lt (Nat.lt_succ_self _), Nat.ne_of_gt lS⟩
        have past : ∀ b, s.heap.objs.size ≤ b → s.heap.get? b = none := fun b hb => by
          cases q : s.heap.get? b with
          | none => rfl
          | some o => exact absurd (Nat.lt_of_lt_of_le (Heap.lt_size q) hb) (Nat.lt_irrefl _)
        refine updateW ((Walks.list hh3 _ l neI items).toS) s.heap.objs.size out ks size few hval s.heap (past _ (Nat.le_refl _)) (fun b hb => past b (by
            rw [List.mem_singleton.mp hb, Heap.size_push]
            exact Nat.le_succ _)) (items.size - 0) 0 _ (by omega) (Nat.zero_le _) ⟨⟨_, Heap.get?_push_size _ rfl, rfl, rfl⟩, (isL.push _)⟩ (fun b o e => Heap.get?_push_of_some _ (Heap.get?_push_of_some _ e)) ?_ ?_
        · exact setW_at (Heap.get?_push_of_some _ hS)
        · intro s' mv hS' kp
          obtain ⟨h', g', d', tk', os'⟩ := s'
          have eg : g' = s.gens := mv.gens
          have ed : d' = s.drawn := mv.drawn
          have eo : os' = s.os := mv.os
          subst eg
          subst ed
          subst eo
          show wpAny _ _ _ _ _ _
          refine wpAny_pure ?_
          show wpAny _ _ (ret Value.none) _ _ _
          exact wpAny_pure ⟨rfl, h', tk', rfl, hS', kp⟩
      · intro r₂ s₂ hr₂
        cases r₂ with
        | error e => exact hr₂
        | ok fl₂ =>
          cases fl₂ with
          | next => exact hr₂.elim
          | brk => exact hr₂.elim
          | cont => exact hr₂.elim
          | ret r =>
            obtain ⟨rfl, h', tk, rfl, hS', kp⟩ := hr₂
            repeat (any_goals (first | assumption | wp_step))
            exact fin _ _ hS' kp
end
def keyV : V → Option Key
  | .int i => some (.inl i)
  | .str x => some (.inr x)
  | _ => none
def rSetW (K : PySem.W.Frag) (w : World) : List V → Hp → VK → Prop := fun vs H Q => ∃ (l : Addr) (xs : List V) (ks : List Key), vs = [V.ref l] ∧ SqL K H l xs ∧ xs.map keyV = ks.map some ∧ ks.length + 1 < scanBound ∧
  ∀ a, H a = none → Q (.ref a) (upd H a (SetWO w a (dedK ks)))
section
variable {X : Cx}
theorem keyV_is {v : V} {u : Value} {k : Key} (r : RelV v u) (e : keyV v = some k) : keyIs k u = true := by
  cases v with
  | int i =>
    cases e
    obtain ⟨t, rfl⟩ := r
    exact keyIs_int i t
  | str x =>
    cases e
    obtain ⟨t, rfl⟩ := r
    exact keyIs_str x t
  | _ => cases e
theorem cr_setW (hc : X.calm = true) : CallR X (.type "set") (rSetW X.K X.w) := by
  intro pins s σ H vs us Q I r h
  obtain ⟨l, xs, ks, rfl, hl, hk, few, q⟩ := h
  rw [Vals.ref1 r]
  obtain ⟨its, rv, pl, hz⟩ := I.list hl
  have hn : H s.heap.objs.size = none := I.hok.fresh (Nat.le_refl _)
  have lk : xs.length = ks.length := by have := congrArg List.length hk; simpa using this
  refine callW ks (I.ok.hd hc) pl.isList (by rw [List.size_toArray, ← rv.length, lk]) (fun i v hv => ?_) few fun h' tk hS kp => ?_
  · have hv' : its[i]? = some v := by simpa using hv
    have hi : i < xs.length := by rw [rv.length]; exact (List.getElem?_eq_some_iff.mp hv').1
    obtain ⟨u, hu, ru⟩ := rv.get (List.getElem?_eq_getElem hi)
    rw [hv'] at hu
    cases hu
    have hki : i < ks.length := by omega
    refine ⟨ks[i], List.getElem?_eq_getElem hki, keyV_is ru ?_⟩
    have := congrArg (fun z => z[i]?) hk
    simp only [List.getElem?_map, List.getElem?_eq_getElem hi, List.getElem?_eq_getElem hki, Option.map_some, Option.some.injEq] at this
    exact this
  · exact ⟨.ref s.heap.objs.size, upd H s.heap.objs.size (SetWO X.w s.heap.objs.size (dedK ks)), I.laid (t' := tk) kp (Nat.le_refl _) (setWO_new hS), rfl, q _ hn⟩
end
end DL

namespace DL
open PySem L2

/-! ### sum, max of a list; sorted(set(xs)) -/
def sumD : PC1
  | [.list xs], k => ∃ ns, intsOf xs = some ns ∧ k (.int ns.sum)
  | _, _ => False
def maxLD : PC1
  | [.list xs], k => ∃ ns, intsOf xs = some ns ∧ 0 < ns.length ∧ ∀ m, m ∈ ns → (∀ y, y ∈ ns → y ≤ m) → k (.int m)
  | _, _ => False
theorem pm_sum1 : ∀ ds, Pm1 (sumD ds) := by
  intro ds k k' w q
  match ds with
  | [] => exact q.elim
  | [d] => cases d <;> first | exact q.elim | exact ⟨_, q.choose_spec.1, w _ q.choose_spec.2⟩
  | d :: e :: r => cases d <;> exact q.elim
theorem pm_maxL : ∀ ds, Pm1 (maxLD ds) := by
  intro ds k k' w q
  match ds with
  | [] => exact q.elim
  | [d] => cases d <;> first | exact q.elim | exact ⟨_, q.choose_spec.1, q.choose_spec.2.1, fun m h1 h2 => w _ (q.choose_spec.2.2 m h1 h2)⟩
  | d :: e :: r => cases d <;> exact q.elim
theorem dx_one1 {K : PySem.W.Frag} {H : Hp} {F : AS} {d : D} {vs : List V} (h : DxAll K H F vs [d]) : ∃ v, vs = [v] ∧ Dx K H F v d := by
  cases h with
  | cons a b => cases b; exact ⟨_, rfl, a⟩
theorem prim_sum1 {K : PySem.W.Frag} : PrimC K (rSum K) sumD := by
  intro F H vs ds Q hF hd h
  match ds with
  | [] => exact (show False from h).elim
  | d :: e :: r => cases d <;> exact (show False from h).elim
  | [d] =>
    obtain ⟨v, rfl, dx⟩ := dx_one1 hd
    cases d <;> first | exact (show False from h).elim | skip
    obtain ⟨ns, hb, q⟩ := h
    rw [intsOf_eq hb] at dx
    obtain ⟨p, xs, rfl, e, _, da⟩ := dx.sql
    rw [dx_ints da] at e
    exact ⟨p, ns, rfl, .inl (.inl e), q.now (.int _)⟩
theorem prim_maxL {K : PySem.W.Frag} : PrimC K (rMax K) maxLD := by
  intro F H vs ds Q hF hd h
  match ds with
  | [] => exact (show False from h).elim
  | d :: e :: r => cases d <;> exact (show False from h).elim
  | [d] =>
    obtain ⟨v, rfl, dx⟩ := dx_one1 hd
    cases d <;> first | exact (show False from h).elim | skip
    obtain ⟨ns, hb, h0, q⟩ := h
    rw [intsOf_eq hb] at dx
    obtain ⟨p, xs, rfl, e, _, da⟩ := dx.sql
    rw [dx_ints da] at e
    exact ⟨p, ns, rfl, .inl (.inl e), h0, fun m h1 h2 => (q m h1 h2).now (.int _)⟩
def dedS (xs : List Str) : List Str := xs.foldl (fun a x => insS x a) []
theorem dedK_inr (xs : List Str) : dedK (xs.map Sum.inr) = (dedS xs).map Sum.inr := by
  unfold dedK dedS
  suffices ∀ a : List Str, (xs.map (Sum.inr (α := Int))).foldl (fun a k => insK k a) (a.map Sum.inr) = (xs.foldl (fun a x => insS x a) a).map Sum.inr from this []
  induction xs with
  | nil => exact fun a => rfl
  | cons x xs ih => intro a; rw [List.map_cons, List.foldl_cons, List.foldl_cons, ins_inr, ih]
def mSortSet (m : M D) : M (List D) := fun ρ k => m ρ fun d ρ1 => match d with
  | .list xs => ∃ zs, strsOf xs = some zs ∧ zs.length ≤ 4000 ∧ ∀ ys : List Str, ys.Perm (dedS zs) → PyProof.Rows.sortedS ys = true → k (ys.map PyData.str) ρ1
  | _ => False
section
variable {X : Cx} {x : Str} {p pos p2 pos2 : Pos} {e : Expr} {m : M D} {ms : M (List D)} {es : List Expr}
theorem em_sum1 (hc : X.calm = true) (hm : X.mg "sum" = none) (ha : AM X (e :: es) ms) (hg : Gl X "sum" := by rfl) (he : starEach (e :: es) X.env = (false, eval e X.env) :: starEach es X.env := by rfl) (hpl : (backTo pos (starEach es X.env)).any (·.1) = false := by rfl) :
    EM X (.Call (.Name "sum" p) (e :: es) [] pos) (mCall sumD ms) := em_callB (cr_sum hc) prim_sum1 pm_sum1 hg hm (by decide +kernel) ha (he := he) (hpl := hpl)
theorem em_maxL (hc : X.calm = true) (hm : X.mg "max" = none) (ha : AM X (e :: es) ms) (hg : Gl X "max" := by rfl) (he : starEach (e :: es) X.env = (false, eval e X.env) :: starEach es X.env := by rfl) (hpl : (backTo pos (starEach es X.env)).any (·.1) = false := by rfl) :
    EM X (.Call (.Name "max" p) (e :: es) [] pos) (mCall maxLD ms) := em_callB (cr_max hc) prim_maxL pm_maxL hg hm (by decide +kernel) ha (he := he) (hpl := hpl)
theorem nm_sortSet (hc : X.calm = true) (hm : X.mg "sorted" = none) (hm2 : X.mg "set" = none) (ha : EM X e m) (hg : Gl X "sorted" := by rfl) (hg2 : Gl X "set" := by rfl)
    (he : starEach [.Call (.Name "set" p2) [e] [] pos2] X.env = (false, eval (.Call (.Name "set" p2) [e] [] pos2) X.env) :: starEach [] X.env := by rfl) (he2 : starEach [e] X.env = (false, eval e X.env) :: starEach [] X.env := by rfl)
    (hpl : (backTo pos (starEach [] X.env)).any (·.1) = false := by rfl) (hpl2 : (backTo pos2 (starEach [] X.env)).any (·.1) = false := by rfl) :
    NM X (.Call (.Name "sorted" p) [.Call (.Name "set" p2) [e] [] pos2] [] pos) (mSortSet m) := by
  have mono : Mono (mSortSet m) := fun ρ k k' w q => ha.mono ρ _ _ (fun d ρ1 q1 => by
    cases d <;> first | exact q1.elim | skip
    obtain ⟨zs, h1, h2, h3⟩ := q1
    exact ⟨zs, h1, h2, fun ys a b => w _ _ (h3 ys a b)⟩) q
  refine ⟨mono, pe_weak (pe_callB (cr_sortedW hc) hg hm (by decide +kernel) (pa_cons (pe_callTy (cr_setW hc) hg2 hm2 (by decide +kernel) (pa_cons ha.run pa_nil he2) (by decide) (by decide) he2 hpl2) pa_nil he) (by decide) (by decide) he hpl) ?_⟩
  rintro σ H Q ⟨G, loc, ρ, R, q⟩
  refine ⟨G, loc, ρ, R, ha.mono ρ _ _ (fun d ρ1 q1 v H1 R1 g1 d1 => ?_) q⟩
  cases d <;> first | exact (show False from q1).elim | skip
  obtain ⟨zs, hz, few, q2⟩ := q1
  rw [strsOf_eq hz] at d1
  obtain ⟨l, vs, rfl, e1, n1, dd⟩ := d1.sql
  rw [DxAll.strs dd] at e1
  refine ⟨l, zs.map V.str, zs.map Sum.inr, rfl, .inl (.inl e1), by rw [List.map_map, List.map_map]; rfl, by rw [List.length_map]; show zs.length + 1 < 4096; omega, fun a hD => ?_⟩
  obtain ⟨h0, np, RD, gD⟩ := new_any (o := SetWO X.w a (dedK (zs.map Sum.inr))) R1 hD
  have bs := R.bwS
  refine ⟨a, dedS zs, rfl, by rw [upd_same, dedK_inr], fun ys p pm hs hp => ?_⟩
  obtain ⟨R3, n3⟩ := RD.unplus bs np
  obtain ⟨a1, a2, a3, a4, a5, a6⟩ := new_list R3 (dx_strs (K := X.K) (H := upd H1 a (SetWO X.w a (dedK (zs.map Sum.inr)))) (F := Fb G.fb ρ1 loc) ys) hp
  have g3 : Grow (Fb G.fb ρ1 loc) (Fb G.fb ρ1 loc) H1 (upd H1 a (SetWO X.w a (dedK (zs.map Sum.inr)))) := gD.weak fun b z => by
    rcases z with z | z
    · exact .inl (.inl z)
    · exact .inr z
  exact q2 ys pm hs p _ _ a1 a2 a3 a4 (g1.trans (g3.trans a5)) a6
end
end DL

namespace DL
open PySem L2

/-! ### names that own a list, or did -/
def mIxU (i : Nat) (m : M D) : M D := fun ρ k => match ρ[i]? with
  | some (.own _ _) => mIxO i m ρ k
  | _ => mBin ixD (mVar i) m ρ k
def mLenU (i : Nat) : M D := fun ρ k => match ρ[i]? with
  | some (.own _ _) => mLenOwn i ρ k
  | _ => mCall lenD (mCons (mVar i) mNil) ρ k
def isOwnS (ρ : List Slot) (i : Nat) : Prop := ∃ b ds, ρ[i]? = some (.own b ds)
theorem em_eitherU {X : Cx} {e : Expr} {i : Nat} {m m' mm : M D} (h : EM X e m) (h' : EM X e m') (a : ∀ ρ, isOwnS ρ i → mm ρ = m ρ) (b : ∀ ρ, ¬ isOwnS ρ i → mm ρ = m' ρ) : EM X e mm := by
  refine ⟨fun ρ k k' w q => ?_, ⟨fun pins s σ H Q I z => ?_⟩⟩
  · by_cases c : isOwnS ρ i
    · rw [a ρ c] at q ⊢
      exact h.mono ρ k k' w q
    · rw [b ρ c] at q ⊢
      exact h'.mono ρ k k' w q
  · obtain ⟨G, loc, ρ, R, q⟩ := z
    by_cases c : isOwnS ρ i
    · rw [a ρ c] at q
      exact h.run.run pins s σ H Q I ⟨G, loc, ρ, R, q⟩
    · rw [b ρ c] at q
      exact h'.run.run pins s σ H Q I ⟨G, loc, ρ, R, q⟩
theorem em_ixU {X : Cx} {e : Expr} {i : Nat} {m : M D} (h : EM X e (mIxO i m)) (h' : EM X e (mBin ixD (mVar i) m)) : EM X e (mIxU i m) := em_eitherU (i := i) h h' (fun ρ ⟨b, ds, c⟩ => by funext k; unfold mIxU; rw [c]) (fun ρ c => by
  funext k
  unfold mIxU
  split
  · rename_i b ds e; exact absurd ⟨b, ds, e⟩ c
  · rfl)
theorem em_lenU {X : Cx} {e : Expr} {i : Nat} (h : EM X e (mLenOwn i)) (h' : EM X e (mCall lenD (mCons (mVar i) mNil))) : EM X e (mLenU i) := em_eitherU (i := i) h h' (fun ρ ⟨b, ds, c⟩ => by funext k; unfold mLenU; rw [c]) (fun ρ c => by
  funext k
  unfold mLenU
  split
  · rename_i b ds e; exact absurd ⟨b, ds, e⟩ c
  · rfl)
end DL

/-! repr of a list or a tuple of data. -/
namespace DL
open PySem L2

structure Shows (d : D) : Prop where
  lay : d.canLay0 = true
  dep : d.depth ≤ 60
  shw : d.showable = true
  short : d.shown.length ≤ sizeLine
def reprD : PC1
  | [.list xs], k => Shows (.list xs) ∧ k (.str (PyData.list xs).shown)
  | [.tuple xs], k => Shows (.tuple xs) ∧ k (.str (PyData.tuple xs).shown)
  | _, _ => False
theorem pm_repr : ∀ ds, Pm1 (reprD ds) := by
  intro ds k k' w q
  match ds with
  | [] => exact q
  | d :: e :: r => cases d <;> exact q
  | [d] =>
    cases d <;> first | exact (show False from q).elim | skip
    · exact ⟨q.1, w _ q.2⟩
    · exact ⟨q.1, w _ q.2⟩
theorem call_repr {X : Cx} (gd : X.A.guards = some []) (un : X.A.units + 64 < PySem.cLine) :
    CallR X (.builtin "repr") (fun xs H Q => ∃ a d, xs = [V.ref a] ∧ Dp X.K H (.ref a) d ∧ Shows d ∧ Q (.str d.shown) H) := by
  intro pins s σ H xs us Q I r h
  obtain ⟨a, d, rfl, hd, hs, q⟩ := h
  obtain ⟨u, rfl, r1⟩ := vals1 r
  cases r1
  obtain ⟨as, hr⟩ := Dp.reads I d _ _ hd rfl
  have := hs.dep
  exact repr_of_reads' hr hs.shw (PyData.noDict_hsm (PyData.hasDict_of_canLay d hs.lay)) gd (by omega) (fun _ _ e => e) (fun h' u tk hk => ⟨.str d.shown, H, I.kept hk, ⟨_, rfl⟩, q⟩) hs.short
theorem prim_repr {K : PySem.W.Frag} : PrimC K (fun xs H Q => ∃ a d, xs = [V.ref a] ∧ Dp K H (.ref a) d ∧ Shows d ∧ Q (.str d.shown) H) reprD := by
  intro F H vs ds Q hF hd h
  match ds with
  | [] => exact (show False from h).elim
  | d :: e :: r => cases d <;> exact (show False from h).elim
  | [d] =>
    obtain ⟨v, rfl, dx⟩ := dx_one hd
    cases d <;> first | exact (show False from h).elim | skip
    · obtain ⟨p, xs, rfl, e, _, da⟩ := dx.sql
      exact ⟨_, _, rfl, Dx.dp _ _ h.1.lay dx, h.1, h.2.now (.str _)⟩
    · obtain ⟨p, xs, rfl, e, da⟩ := dx.sqt
      exact ⟨_, _, rfl, Dx.dp _ _ h.1.lay dx, h.1, h.2.now (.str _)⟩
section
variable {X : Cx} {p pos : Pos} {e : Expr} {m : M (List D)} {k : Nat}
theorem em_repr (hr : Rm k X.A) (hm : X.mg "repr" = none) (ha : AM X [e] m) (hg : Gl X "repr" := by rfl) (he : starEach [e] X.env = (false, eval e X.env) :: starEach [] X.env := by rfl) (hpl : (backTo pos (starEach [] X.env)).any (·.1) = false := by rfl) :
    EM X (.Call (.Name "repr" p) [e] [] pos) (mCall reprD m) :=
  em_callB (call_repr hr.gd hr.units) prim_repr pm_repr hg hm (by decide +kernel) ha (he := he) (hpl := hpl)
end
end DL

/-! told = [new list, new list]; ..; if not f(told, e): return ..; for some in told: (statements that change some) -/
namespace DL
open PySem L2

section
variable {K : PySem.W.Frag} {H H' : Hp} {F : AS} {G G' : Fr} {vs : List V} {us : List Put} {ρ : List Slot} {loc : Nat → Addr} {σ : L2.St} {p q t : Addr} {o u : HO}
theorem Fr.swap (h : p ≠ q) : (G.pin p o).pin q u = (G.pin q u).pin p o := by
  unfold Fr.pin
  simp only [Fr.mk.injEq, and_true]
  refine ⟨funext fun a => ?_, funext fun a => propext ⟨fun z => ?_, fun z => ?_⟩⟩
  · by_cases ha : a = p
    · subst ha
      rw [upd_ne h, upd_same, upd_same]
    · by_cases hb : a = q
      · subst hb
        rw [upd_same, upd_ne ha, upd_same]
      · rw [upd_ne hb, upd_ne ha, upd_ne ha, upd_ne hb]
  · rcases z with (z | z) | z
    · exact .inl (.inl z)
    · exact .inr z
    · exact .inl (.inr z)
  · rcases z with (z | z) | z
    · exact .inl (.inl z)
    · exact .inr z
    · exact .inl (.inr z)
theorem PutsOk.off (h : PutsOk K H F G G' vs us) (hb : ∀ b, G.bw b → G.fb b) (R : Rep K G' ρ loc σ H') : Rep K G ρ loc σ H' ∧ ∀ b, Fb G.fb ρ loc b → Fb G'.fb ρ loc b := by
  induction h with
  | nil => exact ⟨R, fun _ z => z⟩
  | d _ _ ih => exact ih hb R
  | n h0 np hp dx r ih =>
    obtain ⟨R1, s1⟩ := ih (fun b z => .inl (hb b z)) R
    obtain ⟨R2, _⟩ := R1.unpin h0 fun z => np (hb _ z)
    obtain ⟨R3, _⟩ := R2.unplus hb np
    exact ⟨R3, fun b z => s1 b (Fb.plus_sub b z)⟩
theorem PutsOk.read (h : PutsOk K H F G G' vs us) : ∀ (xss : List (List D)), us = xss.map Put.n → (∀ b, G.bw b → G.fb b) → Rep K G' ρ loc σ H' → Grow F (Fb G'.fb ρ loc) H H' → DxAll K H' (Fb G.fb ρ loc) vs (xss.map PyData.list) := by
  induction h with
  | nil =>
    intro xss e hb R g
    cases xss with
    | nil => exact .nil
    | cons _ _ => cases e
  | d _ _ ih =>
    intro xss e hb R g
    cases xss with
    | nil => cases e
    | cons _ _ => cases e
  | n h0 np hp dx r ih =>
    intro xss e hb R g
    cases xss with
    | nil => cases e
    | cons xs xss =>
      cases e
      obtain ⟨R1, s1⟩ := r.off (fun b z => .inl (hb b z)) R
      obtain ⟨R2, e2⟩ := R1.unpin h0 fun z => np (hb _ z)
      obtain ⟨R3, n3⟩ := R2.unplus hb np
      exact .cons (.lst n3 e2 ((dx.g g).weak fun b z => s1 b (Fb.plus_sub b z))) ((ih xss rfl (fun b z => .inl (hb b z)) R g).weak Fb.plus_sub)
theorem PutsOk.pinT (h : PutsOk K H F G G' vs us) (h0 : G'.H0 t = none) (nf : ¬ G'.fb t) : PutsOk K H F (G.pin t o) (G'.pin t o) vs us := by
  induction h with
  | nil => exact .nil
  | d dx _ ih => exact .d dx (ih h0 nf)
  | @n G G' p ws vs xs us hp0 np hp dx r ih =>
    have ne : p ≠ t := fun z => by
      have := r.same.1 p _ upd_same
      rw [z, h0] at this; cases this
    refine .n ?_ ?_ hp dx ?_
    · show upd G.H0 t o p = none
      rw [upd_ne ne]; exact hp0
    · rintro (z | z)
      · exact np z
      · exact ne z
    · rw [Fr.swap (Ne.symm ne)]; exact ih h0 nf
theorem PutsOk.first (h : PutsOk K H F (G.pin p o) G' vs us) (h0 : G.H0 p = none) (np : ¬ G.fb p) : ∃ G2 : Fr, G' = G2.pin p o ∧ PutsOk K H F G G2 vs us ∧ G2.H0 p = none ∧ ¬ G2.fb p := by
  generalize e : G.pin p o = Gp at h
  induction h generalizing G with
  | nil => exact ⟨G, e.symm, .nil, h0, np⟩
  | d dx _ ih =>
    obtain ⟨G2, a, b, c⟩ := ih h0 np e
    exact ⟨G2, a, .d dx b, c⟩
  | @n G1 G' q ws vs xs us hq0 nq hq dx r ih =>
    subst e
    have ne : q ≠ p := fun z => nq (.inr z)
    have hq1 : upd G.H0 p o q = none := hq0
    rw [upd_ne ne] at hq1
    obtain ⟨G2, a, b, c⟩ := ih (G := G.pin q (.lst ws)) (show upd G.H0 q _ p = none by rw [upd_ne (Ne.symm ne)]; exact h0) (by rintro (z | z); exact np z; exact ne z.symm) (Fr.swap ne)
    exact ⟨G2, a, .n hq1 (fun z => nq (.inl z)) hq dx b, c⟩
end
/-- the loop over the lists that told leads to: each is some's own for its turn -/
def nestLoop (j : Nat) (mb : SMon) (k : List Slot → Prop) : List (List D) → List Slot → Prop
  | [], ρ => k ρ
  | xs :: xss, ρ => mb ⟨nestLoop j mb k xss, fun _ _ _ => False, fun _ => False, nestLoop j mb k xss⟩ (ρ.set j (.own false xs))
def sNest (i j : Nat) (ms : M (List Put)) (m1 : SMon) (ma : M (List D)) (F : FS) (mr mb mR : SMon) : SMon := fun k ρ => ms ρ fun us ρ1 => us.length ≤ sizeLine ∧ ∃ xss : List (List D), us = xss.map Put.n ∧ ∀ t : Addr,
  m1 ⟨fun ρ2 => ma ρ2 fun ds ρ3 => ∃ due, ds = [.dict (adrD t), due] ∧ ρ3[i]? = some (.dat (.dict (adrD t))) ∧ F [.list (xss.map PyData.list), due] fun _ d => ∃ b, d = .bool b ∧
      if b = true then nestLoop j mb (mR k) xss ρ3 else mr ⟨fun _ => False, k.rt, fun _ => False, fun _ => False⟩ ρ3, k.rt, fun _ => False, fun _ => False⟩ (ρ1.set i (.dat (.dict (adrD t))))
theorem mono_nestLoop {j : Nat} {mb : SMon} (hb : SMono mb) {k k' : List Slot → Prop} (l : ∀ ρ, k ρ → k' ρ) : ∀ (xss : List (List D)) (ρ : List Slot), nestLoop j mb k xss ρ → nestLoop j mb k' xss ρ
  | [], ρ, q => l ρ q
  | xs :: xss, ρ, q => by
    refine hb _ _ _ ?_ q
    exact ⟨fun ρ q => mono_nestLoop hb l xss ρ q, fun _ _ _ q => q, fun _ q => q, fun ρ q => mono_nestLoop hb l xss ρ q⟩
section
variable {X : Cx} {i j k n : Nat} {x y g : Str} {es : List Expr} {e2 : Expr} {S1 : Stmt} {body2 body rest : List Stmt} {ms : M (List Put)} {m1 mr mb mR : SMon} {ma : M (List D)} {F : FS} {f : Addr} {fd : FuncData} {ps : List Str}
  {p1 p2 p3 p4 p5 p6 p7 p8 p9 pa pb : Pos}
theorem bm_nest (hp : PassesOwn (model X.prog X.w) X.A X.env X.xe) (hc : X.calm = true) (hN : X.N.Nodup) (hi : X.N[i]? = some x) (hx : Loc X.env.scope x) (hj : X.N[j]? = some y) (hy : Loc X.env.scope y) (hv : Vis X.env.scope x)
    (hA : APM X es ms) (h1 : SM X S1 m1) (ha : AM X [.Name x p4, e2] ma) (hr : Rm k X.A)
    (Gf : FnG X.prog X.w X.K X.mg X.base CX0 k f fd ps (sp0 X.K 2 F)) (mF : PmS F) (hg : Gl X g) (hm : X.mg g = some (.ref f)) (hk : PySem.W.keepIn X.K (.ref f) = true) (hb : Binds X.K fd ps [])
    (h2 : BM X body2 mr) (h3 : BM X body mb) (h4 : BM X rest mR)
    (hs : swapsWith (.List es p1) (some (.Name x p2)) p3.line X.env = pure false := by rfl) (hf : X.fn x = true ∨ X.env.scope.names.lookup x = some .local := by first | exact .inl rfl | exact .inr rfl | assumption)
    (hfy : X.fn y = true ∨ X.env.scope.names.lookup y = some .local := by first | exact .inl rfl | exact .inr rfl | assumption)
    (hdb : (g == ("__debug__" : Str)) = false := by decide) (he : starEach [.Name x p4, e2] X.env = (false, eval (.Name x p4) X.env) :: starEach [e2] X.env := by rfl) (hpl : (backTo p6 (starEach [e2] X.env)).any (·.1) = false := by rfl)
    (hd1 : (x == ("__debug__" : Str)) = false := by decide) (hd2 : (x == ("__classdict__" : Str)) = false := by decide)
    (hfo : ∀ z, foldedSetIterable (.Name x p9) X.env z = pure z := by intro _; rfl) :
    BM X (.Assign [.Name x p2] (.List es p1) p3 :: S1 :: .If (.UnaryOp .Not (.Call (.Name g p5) [.Name x p4, e2] [] p6) p7) body2 [] p8 :: .For (.Name y pa) (.Name x p9) body [] pb :: rest)
      (sNest i j ms m1 ma F mr mb mR) := by
  refine ⟨?_, pss_weak (pss_cons (ps_set hN hi hx (pe_lst hA.run) hs hf) (pss_cons h1.run (pss_cons (ps_if (pt_not (pt_val (pe_callG Gf hr hg hm hk hb .nil pass0 ha.run hdb he hpl))) h2.run pss_nil)
    (pss_cons (ps_for hp hc (pi_list (pe_var hi hv hd1 hd2)) (pg_name hN hj hy hfy) h3.run hfo) h4.run)))) ?_⟩
  · intro kk kk' ρ l q
    refine hA.mono ρ _ _ (fun us ρ1 ⟨z, xss, e, q1⟩ => ⟨z, xss, e, fun t => ?_⟩) q
    refine h1.mono _ _ _ ?_ (q1 t)
    refine ⟨fun ρ2 q2 => ?_, l.rt, fun _ z => z, fun _ z => z⟩
    refine ha.mono ρ2 _ _ (fun ds ρ3 ⟨due, e1, e3, q3⟩ => ⟨due, e1, e3, mF _ _ _ (fun _ d ⟨b, e4, q4⟩ => ⟨b, e4, ?_⟩) q3⟩) q2
    cases b with
    | true =>
      rw [if_pos rfl] at q4 ⊢
      exact mono_nestLoop h3.mono (fun ρ q => h4.mono _ _ _ l q) _ _ q4
    | false =>
      rw [if_neg Bool.false_ne_true] at q4 ⊢
      refine h2.mono _ _ _ ?_ q4
      exact ⟨fun _ z => z, l.rt, fun _ z => z, fun _ z => z⟩
  · rintro E σ H ⟨G, loc, ρ, kk, R, q, l1, l2, l3, l4⟩
    refine ⟨G, loc, ρ, R, hA.mono ρ _ _ (fun us ρ1 q1 vs H1 G1 R1 g1 pk => ?_) q⟩
    obtain ⟨hl, xss, rfl, q1⟩ := q1
    refine ⟨by rw [pk.len]; exact hl, fun t ht => ?_⟩
    obtain ⟨t1, t2, RT, gT⟩ := R1.plusNew (o := .lst vs) ht
    have Rp := (RT.pin upd_same).put i (Dx.adr t rfl : Dx X.K (upd H1 t (.lst vs)) _ (.ref t) (.dict (adrD t)))
    have bw1 : ∀ b, G1.bw b → G.bw b := fun b z => by rw [pk.same.2] at z; exact z
    have gbt : ¬ G.bw t := fun z => t2 (R1.bwS t (by rw [pk.same.2]; exact z))
    have pt := pk.pinT (o := .lst vs) t1 t2
    have g0t : G.H0 t = none := by
      cases z : G.H0 t with
      | none => rfl
      | some o => rw [pk.same.1 t o z] at t1; cases t1
    have gft : ¬ G.fb t := fun z => by
      obtain ⟨o, z⟩ := R.fbS t z
      by_cases hFb : Fb G.fb ρ loc t
      · have hn := R1.notFb ht
        obtain ⟨_, s⟩ := pk.off R.bwS R1
        exact hn (s t (.inl (by assumption)))
      · exact hFb (.inl (by assumption))
    have hbT : ∀ b, (G.pin t (.lst vs)).bw b → (G.pin t (.lst vs)).fb b := fun b z => .inl (R.bwS b z)
    -- back to the frame
    have back : ∀ {ρ' : List Slot} {loc' : Nat → Addr} {σ' : L2.St} {H' : Hp}, Rep X.K (G.pin t (.lst vs)) ρ' loc' σ' H' → Rep X.K G ρ' loc' σ' H' ∧ ¬ Fb G.fb ρ' loc' t ∧ H' t = some (.lst vs) := fun {ρ' loc' σ' H'} R' => by
      obtain ⟨R2, e2⟩ := R'.unpin g0t gbt
      obtain ⟨R3, n3⟩ := R2.unplus R.bwS gft
      exact ⟨R3, n3, e2⟩
    have offA : ∀ {ρ' : List Slot} {loc' : Nat → Addr} {σ' : L2.St} {H' : Hp}, Rep X.K (G1.pin t (.lst vs)) ρ' loc' σ' H' → Rep X.K G ρ' loc' σ' H' ∧ (∀ b, Fb G.fb ρ' loc' b → Fb (G1.pin t (.lst vs)).fb ρ' loc' b) ∧ ¬ Fb G.fb ρ' loc' t ∧ H' t = some (.lst vs) := fun {ρ' loc' σ' H'} R' => by
      obtain ⟨R2, s2⟩ := pt.off hbT R'
      obtain ⟨R3, n3, e3⟩ := back R2
      exact ⟨R3, fun b z => s2 b (Fb.plus_sub b z), n3, e3⟩
    have gA : Grow (Fb G.fb ρ loc) (Fb (G1.pin t (.lst vs)).fb (ρ1.set i (.dat (.dict (adrD t)))) loc) H (upd H1 t (.lst vs)) := (g1.trans gT).trans put_grow
    have gB : Grow (Fb G1.fb ρ1 loc) (Fb (G1.pin t (.lst vs)).fb (ρ1.set i (.dat (.dict (adrD t)))) loc) H1 (upd H1 t (.lst vs)) := gT.trans put_grow
    have lr : ∀ {ρa : List Slot} {loca : Nat → Addr} {Ha : Hp}, Grow (Fb G.fb ρ loc) (Fb (G1.pin t (.lst vs)).fb ρa loca) H Ha → LandsR X.K (G1.pin t (.lst vs)) loca ρa Ha kk.rt E.rt := fun {ρa loca Ha} ga b d ρ' loc' σ' v H' R' g' dx nw q => by
      obtain ⟨R2, s2, _⟩ := offA R'
      refine l2 b d ρ' loc' σ' v H' R2 ((ga.trans g').weak s2) (dx.weak s2) (fun hb => ?_) q
      obtain ⟨pp, ws, xs, a1, a2, a3, a4, a5⟩ := (nw hb).weak s2
      refine ⟨pp, ws, xs, a1, a2, ?_, a4, a5⟩
      cases z : G.H0 pp with
      | none => rfl
      | some o =>
        have : upd G1.H0 t (.lst vs) pp = some o := upd_more t1 pp o (pk.same.1 pp o z)
        rw [show upd G1.H0 t (.lst vs) pp = none from a3] at this; cases this
    refine ⟨G1.pin t (.lst vs), loc, _, _, Rp, q1 t, fun ρ2 loc2 σ2 H2 R2 g2 q2 => ?_, lr gA, fun _ _ _ _ _ _ z => z.elim, fun _ _ _ _ _ _ z => z.elim⟩
    refine ⟨G1.pin t (.lst vs), loc2, ρ2, R2, ha.mono ρ2 _ _ (fun ds ρ3 q3 ws H3 R3 g3 d3 => ?_) q2⟩
    obtain ⟨due, rfl, hi3, q3⟩ := q3
    obtain ⟨v1, v2, rfl, dx1, dx2⟩ := dx_two d3
    have := dx1.adrA
    subst this
    obtain ⟨Ro, so, nt, et⟩ := offA R3
    have rd := (pt.read xss rfl hbT R3 ((gB.trans g2).trans g3)).weak (F' := Fb G.fb ρ3 loc2) Fb.plus_sub
    refine ⟨Fb G.fb ρ3 loc2, [.list (xss.map PyData.list), due], Ro.fbE, .cons (.lst nt et rd) (.cons (dx2.weak so) .nil), rfl, mF _ _ _ (fun b d q4 v H4 m4 d4 _ => ?_) q3⟩
    obtain ⟨b, rfl, q4⟩ := q4
    cases d4
    refine ⟨b, rfl, ?_⟩
    have R4 := R3.more m4
    have gF4 := ((gB.trans g2).trans g3).trans (more_grow m4)
    have gG4 := ((gA.trans g2).trans g3).trans (more_grow m4)
    cases b with
    | false =>
      rw [if_neg Bool.false_ne_true] at q4
      exact ⟨_, loc2, ρ3, _, R4, q4, fun _ _ _ _ _ _ z => z.elim, lr gG4, fun _ _ _ _ _ _ z => z.elim, fun _ _ _ _ _ _ z => z.elim⟩
    | true =>
      rw [if_pos rfl] at q4
      obtain ⟨vt, ht1, ht2⟩ := R4.dat i _ hi3
      have := ht2.adrA
      subst this
      obtain ⟨_, _, _, et4⟩ := offA R4
      refine ⟨.ref t, ht1, t, rfl, ⟨vs, .inl (.inl et4)⟩, fun idx m σ' H' => ∃ (loc' : Nat → Addr) (ρ' : List Slot) (Gk : Fr), m = vs.length - idx ∧ Rep X.K Gk ρ' loc' σ' H' ∧
        PutsOk X.K H1 (Fb G1.fb ρ1 loc) (G.pin t (.lst vs)) Gk (vs.drop idx) ((xss.drop idx).map Put.n) ∧ Grow (Fb G1.fb ρ1 loc) (Fb Gk.fb ρ' loc') H1 H' ∧ Grow (Fb G.fb ρ loc) (Fb Gk.fb ρ' loc') H H' ∧ nestLoop j mb (mR kk) (xss.drop idx) ρ',
        ⟨_, loc2, ρ3, _, rfl, R4, pt, gF4, gG4, q4⟩, ?_⟩
      rintro idx m σ5 H5 ⟨loc5, ρ5, Gk, hm5, R5, p5, gF5, gG5, q5⟩
      obtain ⟨Rt5, st5⟩ := p5.off hbT R5
      obtain ⟨Rb5, nb5, et5⟩ := back Rt5
      have lenE : vs.length = xss.length := by have := pk.len; simpa using this
      cases hv5 : vs[idx]? with
      | none =>
        have hl5 : vs.length ≤ idx := List.getElem?_eq_none_iff.mp hv5
        rw [List.drop_eq_nil_of_le (by omega)] at q5
        have gE := gG5.weak fun b z => st5 b (Fb.plus_sub b z)
        exact .inl ⟨⟨vs, .inl (.inl et5), hl5⟩, G, loc5, ρ5, kk, Rb5, q5, l1.on gE, l2.on gE, l3.on gE, l4.on gE⟩
      | some v =>
        obtain ⟨hl5, hv5'⟩ := List.getElem?_eq_some_iff.mp hv5
        have ev : vs.drop idx = v :: vs.drop (idx + 1) := by rw [← hv5']; exact List.drop_eq_getElem_cons hl5
        have ex : xss.drop idx = xss[idx]'(by omega) :: xss.drop (idx + 1) := List.drop_eq_getElem_cons (by omega)
        rw [ev, ex, List.map_cons] at p5
        rw [ex] at q5
        generalize xss[idx]'(by omega) = xs at p5 q5
        cases p5 with
        | @n _ _ pp ws _ _ _ hq0 nq hq dx r =>
          obtain ⟨G2, rfl, r2, h20, n2⟩ := r.first hq0 nq
          have bw2 : ∀ b, G2.bw b → G2.fb b := fun b z => by
            rcases R5.bwS b z with z' | z'
            · exact z'
            · have e1 : G2.bw = (G.pin t (.lst vs)).bw := r2.same.2
              rw [e1, z'] at z
              exact (nq (hbT pp z)).elim
          obtain ⟨R6, e6⟩ := R5.unpin h20 fun z => n2 (bw2 _ z)
          have R7 := R6.putN bw2 h20 n2 j e6 (dx.g gF5)
          refine .inr ⟨⟨vs, _, .inl (.inl et5), hv5⟩, fun σ' H' => ∃ (loc' : Nat → Addr) (ρ' : List Slot), Rep X.K G2 ρ' loc' σ' H' ∧ Grow (Fb G1.fb ρ1 loc) (Fb G2.fb ρ' loc') H1 H' ∧ Grow (Fb G.fb ρ loc) (Fb G2.fb ρ' loc') H H' ∧ nestLoop j mb (mR kk) (xss.drop (idx + 1)) ρ',
            fun σ' H' ⟨loc', ρ', a1, a2, a3, a4⟩ => ⟨_, by omega, loc', ρ', G2, rfl, a1, r2, a2, a3, a4⟩, fun z H6 hz => ?_⟩
          obtain ⟨rfl, hz⟩ := hz
          have := hz vs (.inl (.inl et5))
          rw [hv5] at this
          cases this
          have gF6 := gF5.weak fun b z => Fb_putN (ds := xs) (i := j) b z
          have gG6 := gG5.weak fun b z => Fb_putN (ds := xs) (i := j) b z
          have ln : Lands X.K G2 (lset loc5 j pp) (ρ5.set j (.own false xs)) H6 (nestLoop j mb (mR kk) (xss.drop (idx + 1))) (fun σ' H' => ∃ (loc' : Nat → Addr) (ρ' : List Slot), Rep X.K G2 ρ' loc' σ' H' ∧ Grow (Fb G1.fb ρ1 loc) (Fb G2.fb ρ' loc') H1 H' ∧ Grow (Fb G.fb ρ loc) (Fb G2.fb ρ' loc') H H' ∧ nestLoop j mb (mR kk) (xss.drop (idx + 1)) ρ') :=
            fun ρ8 loc8 σ8 H8 R8 g8 q8 => ⟨loc8, ρ8, R8, gF6.trans g8, gG6.trans g8, q8⟩
          exact ⟨G2, _, _, _, R7, q5, ln, fun _ _ _ _ _ _ _ _ _ _ _ z => z.elim, fun _ _ _ _ _ _ z => z.elim, ln⟩
end
end DL

/-! a + b of lists, as a new list -/
namespace DL
open PySem L2
def addN : D → D → (List D → Prop) → Prop
  | .list xs, .list ys, k => xs.length + ys.length ≤ sizeLine ∧ k (xs ++ ys)
  | _, _, _ => False
theorem addN_ll {xs ys : List D} {k : List D → Prop} : addN (.list xs) (.list ys) k = (xs.length + ys.length ≤ sizeLine ∧ k (xs ++ ys)) := rfl
theorem reprD_t {xs : List D} {k : D → Prop} : reprD [.tuple xs] k = (Shows (.tuple xs) ∧ k (.str (PyData.tuple xs).shown)) := rfl
theorem reprD_l {xs : List D} {k : D → Prop} : reprD [.list xs] k = (Shows (.list xs) ∧ k (.str (PyData.list xs).shown)) := rfl
theorem mulD_li {xs : List D} {j : Int} {k : D → Prop} : mulD (.list xs) (.int j) k = ((-(2 ^ 63) ≤ j ∧ j < 2 ^ 63 ∧ xs.length * j.toNat ≤ sizeLine) ∧ k (.list (List.replicate j.toNat xs).flatten)) := rfl
def mAddN (ma mb : M D) : M (List D) := fun ρ k => ma ρ fun a ρ1 => mb ρ1 fun b ρ2 => addN a b fun ds => k ds ρ2
section
variable {X : Cx} {a b : Expr} {ma mb : M D} {pos : Pos}
theorem nm_add (ha : EM X a ma) (hb : EM X b mb) : NM X (.BinOp a .Add b pos) (mAddN ma mb) := by
  refine ⟨fun ρ k k' w q => ha.mono ρ _ _ (fun d ρ1 q1 => hb.mono ρ1 _ _ (fun e ρ2 q2 => ?_) q1) q, pe_weak (pe_op op_cat ha.run hb.run) ?_⟩
  · cases d <;> cases e <;> first | exact q2.elim | exact ⟨q2.1, w _ _ q2.2⟩
  · rintro σ H Q ⟨G, loc, ρ, R, q⟩
    refine ⟨G, loc, ρ, R, ha.mono ρ _ _ (fun d ρ1 q1 v H1 R1 g1 d1 => ?_) q⟩
    refine ⟨G, loc, ρ1, R1, hb.mono ρ1 _ _ (fun e ρ2 q2 u H2 R2 g2 d2 => ?_) q1⟩
    cases d <;> cases e <;> first | exact (show False from q2).elim | skip
    obtain ⟨p, xs, rfl, e1, n1, dx⟩ := (d1.g g2).sql
    obtain ⟨p2, ys, rfl, e2, n2, dy⟩ := d2.sql
    refine ⟨p, p2, xs, ys, rfl, rfl, e1, e2, by rw [dx.length, dy.length]; exact q2.1, fun pp hp => ?_⟩
    obtain ⟨a1, a2, a3, a4, a5, a6⟩ := new_list R2 (dx.append dy) hp
    exact q2.2 pp _ _ a1 a2 a3 a4 ((g1.trans g2).trans a5) a6
theorem mReverse_own {i : Nat} {b : Bool} {bs : List D} {ρ : List Slot} {k : D → List Slot → Prop} (h : ρ[i]? = some (.own b bs)) : mReverse i ρ k = k .none (ρ.set i (.own b bs.reverse)) := by
  unfold mReverse withOwn; rw [h]
end
section
variable {X : Cx} {i : Nat} {x : Str} {p apos cpos : Pos}
theorem em_reverse (hv : PE X (.Name x p) (tVar i))
    (hbase : attributeBase (.Name x p) "reverse" X.env (eval (.Name x p) X.env) = eval (.Name x p) X.env := by rfl) (hline : (apos.endLine == cpos.line) = true := by rfl) :
    EM X (.Call (.Attribute (.Name x p) "reverse" apos) [] [] cpos) (mReverse i) := by
  refine ⟨fun ρ k k' w q => q.mono fun b bs q => w _ _ q, pe_weak (pe_bm0 PySem.F.plainAttrs_list PySem.F.slot_list_reverse PySem.F.type_list_reverse mt_reverse hv hbase hline) ?_⟩
  rintro σ H Q ⟨G, loc, ρ, R, q⟩
  obtain ⟨b, bs, e0, q⟩ := q.get
  obtain ⟨h1, ws, h2, h3⟩ := R.own i b bs e0
  obtain ⟨R2, g2⟩ := R.wr e0 h3.rev
  exact ⟨_, h1, .inl ⟨rfl, ws, .inl (.inl h2)⟩, loc i, ws, rfl, rfl, h2, q _ _ R2 g2 .non⟩
end
end DL

/-! what is shown is a text of good signs -/
namespace DL
open PySem L2 PyData
theorem okC {x : Str} : strOk x = true ↔ ∀ c ∈ x.cps.toList, c < 0x110000 := by
  unfold strOk
  rw [← Array.all_toList, List.all_eq_true]
  exact ⟨fun h c hc => of_decide_eq_true (h c hc), fun h c hc => decide_eq_true (h c hc)⟩
theorem ok_ofString (s : String) : strOk (Str.ofString s) = true := by
  rw [okC, Str.ofString_eq_toList]
  intro c hc
  obtain ⟨ch, _, rfl⟩ := List.mem_map.mp hc
  have := ch.valid
  simp only [UInt32.isValidChar, Nat.isValidChar] at this
  show ch.val.toNat < 0x110000
  omega
theorem ok_app {x y : Str} (a : strOk x = true) (b : strOk y = true) : strOk (x ++ y) = true := by
  rw [okC] at *
  intro c hc
  have e : (x ++ y).cps.toList = x.cps.toList ++ y.cps.toList := by
    show (x.cps ++ y.cps).toList = _
    simp
  rw [e, List.mem_append] at hc
  exact hc.elim (a c) (b c)
theorem ok_join {sep : Str} (hs : strOk sep = true) : ∀ {ts : List Str}, (∀ t ∈ ts, strOk t = true) → strOk (Str.join sep ts) = true
  | [], _ => (show strOk Str.empty = true by decide +kernel)
  | [x], h => h x (by simp)
  | x :: y :: r, h => by
    show strOk (x ++ sep ++ Str.join sep (y :: r)) = true
    exact ok_app (ok_app (h x (by simp)) hs) (ok_join hs fun t ht => h t (by simp [List.mem_cons.mp ht]))
theorem ok_reprChar {q c : Nat} (h : c < 0x110000) : ∀ d ∈ Builtin.Str.reprChar q c, d < 0x110000 := by
  have hex : ∀ w : Nat, ∀ d ∈ (List.replicate (w - ((Nat.toDigits 16 c).map Char.toNat).length) 48 ++ (Nat.toDigits 16 c).map Char.toNat), d < 0x110000 := by
    intro w d hd
    rcases List.mem_append.mp hd with hd | hd
    · rw [List.eq_of_mem_replicate hd]; decide
    · obtain ⟨ch, _, rfl⟩ := List.mem_map.mp hd
      have := ch.valid
      simp only [UInt32.isValidChar, Nat.isValidChar] at this
      show ch.val.toNat < 0x110000
      omega
  have two : ∀ a b : Nat, a < 0x110000 → b < 0x110000 → ∀ d ∈ [a, b], d < 0x110000 := by
    intro a b ha hb d hd
    rcases List.mem_cons.mp hd with rfl | hd
    · exact ha
    · rw [List.mem_singleton.mp hd]; exact hb
  unfold Builtin.Str.reprChar
  dsimp only
  intro d hd
  split at hd
  · exact two _ _ (by decide) h d hd
  split at hd
  · exact two _ _ (by decide) (by decide) d hd
  split at hd
  · exact two _ _ (by decide) (by decide) d hd
  split at hd
  · exact two _ _ (by decide) (by decide) d hd
  split at hd
  · rw [List.mem_singleton.mp hd]; exact h
  split at hd
  · exact (List.mem_append.mp hd).elim (two _ _ (by decide) (by decide) d) (hex _ d)
  split at hd
  · exact (List.mem_append.mp hd).elim (two _ _ (by decide) (by decide) d) (hex _ d)
  · exact (List.mem_append.mp hd).elim (two _ _ (by decide) (by decide) d) (hex _ d)
theorem ok_repr {x : Str} (h : strOk x = true) : strOk (reprText x) = true := by
  have hq : reprQuote x < 0x110000 := by unfold reprQuote; split <;> decide
  rw [okC] at h ⊢
  have fold : ∀ (l : List Nat) (acc : Array Nat), (∀ c ∈ l, c < 0x110000) → (∀ c ∈ acc.toList, c < 0x110000) → ∀ c ∈ (l.foldl (fun out c => out ++ (Builtin.Str.reprChar (reprQuote x) c).toArray) acc).toList, c < 0x110000 := by
    intro l
    induction l with
    | nil => exact fun acc _ ha => ha
    | cons a l ih =>
      intro acc hl ha
      rw [List.foldl_cons]
      refine ih _ (fun c hc => hl c (by simp [hc])) fun c hc => ?_
      rw [Array.toList_append, List.mem_append] at hc
      exact hc.elim (ha c) (ok_reprChar (hl a (by simp)) c)
  intro c hc
  unfold reprText at hc
  rw [Array.toList_push, List.mem_append] at hc
  rcases hc with hc | hc
  · rw [← Array.foldl_toList] at hc
    exact fold _ _ h (fun c hc => by rw [show c = reprQuote x by simpa using hc]; exact hq) c hc
  · rw [List.mem_singleton.mp hc]; exact hq
mutual
theorem ok_shown : ∀ d : PyData, d.canLay0 = true → strOk d.shown = true
  | .none, _ => by rw [shown_none]; exact ok_ofString _
  | .bool b, _ => by rw [shown_bool]; cases b <;> exact ok_ofString _
  | .int i, _ => by rw [shown_int]; exact ok_ofString _
  | .str x, h => by rw [shown_str]; exact ok_repr (by simpa [canLay0] using h)
  | .list xs, h => by
    rw [shown_list]
    exact ok_app (ok_app (ok_ofString _) (ok_join (ok_ofString _) (ok_shownAll xs (by simpa [canLay0] using h)))) (ok_ofString _)
  | .tuple xs, h => by
    rw [shown_tuple]
    exact ok_app (ok_app (ok_ofString _) (ok_join (ok_ofString _) (ok_shownAll xs (by simpa [canLay0] using h)))) (ok_ofString _)
  | .dict _, h => by simp [canLay0] at h
theorem ok_shownAll : ∀ xs : List PyData, canLayAll0 xs = true → ∀ t ∈ shownAll xs, strOk t = true
  | [], _ => by simp [shownAll]
  | x :: xs, h => by
    have h' : x.canLay0 = true ∧ canLayAll0 xs = true := by simpa [canLayAll0] using h
    intro t ht
    rw [shownAll_cons] at ht
    rcases List.mem_cons.mp ht with rfl | ht
    · exact ok_shown x h'.1
    · exact ok_shownAll xs h'.2 t ht
end
end DL

/-! A caught exception that a name holds behind the suite. -/
namespace DL
open PySem PySem.Spec PyProof.Rows L2
theorem exK_ok {P : Program} {w : World} {H : Hp} {h : Heap} {a : Addr} {cls : Value} {d : Option Addr} {oe : Obj} {vs : Array Value} (e : h.get? a = some oe) (z : Zc cls d oe) (q : oe.data = .fields vs) : ObjOk P w H h a (exK cls d a) :=
  ⟨⟨oe, vs, e, z, q⟩, ⟨oe, e⟩, fun _ _ ⟨o, v, x, y⟩ k => ⟨o, v, k o x, y⟩⟩
section
variable {X : Cx} {pins : List (Addr × Obj)} {σ : L2.St} {H : Hp} {s : Shared} {a : Addr} {φ : Heap → Prop}
/-- an object that was not tracked is, from here on -/
theorem adopt (J : Inv X pins σ H s) (na : H a = none) (n0 : X.s_0.heap.get? a = none) (nL : a ≠ X.env.locals) (nP : ∀ p ∈ X.pn ++ pins, p.1 ≠ a) (nC : ∀ x c, X.env.cells.lookup x = some c → c ≠ a)
    (ob : ObjOk X.prog X.w (upd H a (.ext φ)) s.heap a (.ext φ)) : Inv X pins σ (upd H a (.ext φ)) s := by
  have nb : ∀ {b : Addr} {u : Obj}, X.s_0.heap.get? b = some u → b ≠ a := fun {b u} e z => by
    rw [z, n0] at e
    cases e
  have nh : ∀ {b : Addr} {u : HO}, H b = some u → b ≠ a := fun {b u} e => ne_of_none e na
  have base : Un X.fs X.ex X.H_0 (upd H a (.ext φ)) X.s_0.heap s.heap := by
    refine ⟨J.base.keep, J.base.slot, ?_, J.base.there, ?_, ?_, ?_⟩
    · intro b u e q r
      rw [upd_ne (nb e)]
      exact J.base.free b u e q r
    · intro b xs e
      have q := J.base.tups b xs e
      rw [upd_ne (nh q)]
      exact q
    · intro b u xs e
      have q := J.base.frzs b u xs e
      rw [upd_ne (nh q)]
      exact q
    · intro b ps e
      obtain ⟨m, q⟩ := J.base.tbls b ps e
      refine ⟨m, ?_⟩
      rw [upd_ne (nh q)]
      exact q
  have hok : HOk X.prog X.w (upd H a (.ext φ)) s.heap := by
    intro b u e
    by_cases hb : b = a
    · subst hb
      rw [upd_same] at e
      cases e
      exact ob
    · rw [upd_ne hb] at e
      refine (J.hok b u e).stay (fun _ _ _ q => q) (fun c q => ?_) fun c xs q => ?_
      · rw [upd_ne (nh q)]
        exact q
      · rw [upd_ne (nh q)]
        exact q
  refine ⟨J.ok, J.os, J.bare, base, J.loc, J.cell, ?_, ?_, ?_, hok, J.len⟩
  · rw [upd_ne (Ne.symm nL)]
    exact J.free
  · intro x c e
    rw [upd_ne (nC x c e)]
    exact J.freeC x c e
  · intro p hp
    obtain ⟨z1, z2, z3⟩ := J.pin p hp
    refine ⟨z1, ?_, z3⟩
    rw [upd_ne (nP p hp)]
    exact z2
end
/-- what 'except C as n' wishes, its suite ending with the exception held on -/
def wKeep (K : PySem.W.Frag) (c : Value) (i : Nat) (ts : Addr → Value → Option Addr → TS) (D : Ends) : WX := fun cls d σ H => PySem.W.exmOne K cls c = some true ∧ ∀ a, H a = none →
  ts a cls d { nx := fun σ' H' => D.nx (σ'.set i none) (upd H' a (exK cls d a)), rt := fun _ _ => False, bk := fun _ _ => False, ct := fun _ _ => False } (σ.set i (some (.ref a))) H
section
variable {X : Cx} {x n : Str} {c : Value} {i : Nat} {body suite : List Stmt} {b₀ : Stmt} {np pos pos' : Pos} {tb : WX → TS} {ts : Addr → Value → Option Addr → TS}
theorem ps_try_keep (hx : X.ex = []) (hs : X.stack = X.env :: X.outer) (hf : X.env.frame = some X.env.locals) (hN : X.N.Nodup) (hi : X.N[i]? = some n) (hln : X.env.kindOf n = some .local) (hc : Names X x c)
    (hb : ∀ (W : WX) (pn : List (Addr × Obj)) (xe : Value → Shared → Prop), Takes (X.tr pn xe) W → PassesOwn (model X.prog X.w) X.A X.env xe → PSs (X.tr pn xe) body (tb W))
    (hsu : ∀ (a : Addr) (oe : Obj) (cls : Value) (d : Option Addr) (pn : List (Addr × Obj)), Zc cls d oe → (∃ vs, oe.data = .fields vs) → PSs (X.suite a ((a, oe) :: pn)) (b₀ :: suite) (ts a cls d)) :
    PS X (.Try body [.ExceptHandler (some (.Name x np)) (some n) (b₀ :: suite) pos'] [] [] pos) (fun D σ H => tb (wKeep X.K c i ts D) D σ H) := by
  constructor
  intro pins s σ H D I h
  have ok := I.ok
  have frames : X.A.frames = some (X.env :: X.outer) := ok.frames.trans (congrArg some hs)
  have isLoc : Loc X.env.scope n := .inl hln
  have run := (hb (wKeep X.K c i ts D) (X.pn ++ pins)
    (fun e t1 => wpAny (model X.prog X.w) X.A (noteFrame e X.env)
      (fun _ t2 => wpAny (model X.prog X.w) X.A (setFlight e none)
        (fun _ t3 => wpAny (model X.prog X.w) X.A
          (handleBy e X.env [.ExceptHandler (some (.Name x np)) (some n) (b₀ :: suite) pos'])
          (SP X pins D) X.xe t3) X.xe t2) X.xe t1) ?_ PassesOwn.looking).run [] s σ H D (I.toTry _) h
  · refine wpAny_Try_except (wpAny_mono run (fun f t hsp => ?_) fun _ _ z => z)
    match f, hsp with
    | .next, ⟨σ1, H1, J1, q⟩ => exact wpAny_execs_nil ⟨σ1, H1, J1.ofTry ok, q⟩
    | .brk, ⟨σ1, H1, J1, q⟩ => exact ⟨σ1, H1, J1.ofTry ok, q⟩
    | .cont, ⟨σ1, H1, J1, q⟩ => exact ⟨σ1, H1, J1.ofTry ok, q⟩
    | .ret u, ⟨v, σ1, H1, J1, r, q⟩ => exact ⟨v, σ1, H1, J1.ofTry ok, r, q⟩
  · rintro u t ⟨a, B, sI, pins1, σ1, H1, cls, d, rfl, J0, nb, up, sky, na, os, ag, yes, go⟩
    have J := J0.ofTry (pins := pins) ok
    rw [hs] at sky
    show wpAny (model X.prog X.w) X.A (noteFrame (.ref a) X.env) _ _ _
    refine Sky.land Zc.steady frames hf sky fun ha fa ua => ?_
    have Ja : Inv X pins σ1 H1 { t with heap := ha } := J.landed nb fa.1 (up.trans ua) os ag
    obtain ⟨oa, va, ea, za, da⟩ := fa.there
    have Bn : B.get? a = none := fa.2.1
    -- not among the frames
    have notin : a ∉ frs (X.env :: X.outer) := fun hm => by
      obtain ⟨_, o1, e1, nf⟩ := fa.2.2.1.mem hm
      rw [ea] at e1
      cases e1
      exact nf _ da
    have nL : a ≠ X.env.locals := fun z => notin (List.mem_filterMap.mpr ⟨X.env, by simp, by rw [hf, z]⟩)
    have nF : a ∉ X.fs := fun hm => by
      obtain ⟨e, he, q⟩ := List.mem_filterMap.mp hm
      exact notin (List.mem_filterMap.mpr ⟨e, by simp [he], q⟩)
    have nI : sI.heap.get? a = none := by
      cases z : sI.heap.get? a with
      | none => rfl
      | some o =>
        have := nb a o z (by rw [hs]; exact notin)
        rw [Bn] at this
        cases this
    have n0 : X.s_0.heap.get? a = none := by
      cases z : X.s_0.heap.get? a with
      | none => rfl
      | some o =>
        obtain ⟨o1, z1⟩ := J.base.there a o z (by rw [hx]; exact fun z => nomatch z)
        rw [nI] at z1
        cases z1
    have nP : ∀ p ∈ X.pn ++ pins, p.1 ≠ a := fun p hp z => by
      have z1 := (J.pin p hp).1
      rw [z, nI] at z1
      cases z1
    have nC : ∀ y k, X.env.cells.lookup y = some k → k ≠ a := fun y k e z => by
      obtain ⟨v, o, z1, _⟩ := J.cell y k e
      rw [z, nI] at z1
      cases z1
    have Sa := Ja.suite ea da na nL nF
    refine wpAny_handleBy_cons (codeAny_handlers_test ?_) fun q => nomatch q
    have types : PySem.W.Looks (model X.prog X.w) ha (typeOf (.ref a)) cls := fun A Q E s k q => by
      refine wpAny_typeOf_ref (k _ _ ea) ?_
      rw [za.1]
      exact q
    have match1 := PySem.W.exm_one (M := model X.prog X.w) Ja.kIn types yes
    have cName : ∀ {Q : Value → Shared → Prop} {E : Value → Shared → Prop}, Q c { t with heap := ha } → wpAny (model X.prog X.w) (X.A.mark (some (.ref a))) (eval (.Name x np) X.env) Q E { t with heap := ha } := by
      intro Q E q
      obtain ⟨hg, hd, gl | ⟨gl, bt, ne⟩⟩ := hc
      · exact ld_glob (X := X.suite a ((a, oa) :: (X.pn ++ pins))) Sa hg gl q hd
      · exact ld_blt (X := X.suite a ((a, oa) :: (X.pn ++ pins))) Sa hg gl bt q ne hd
    refine cName (match1.here (codeAny_handlers_suite_as (HandSPX.lands_againZ fa fun hb fb ub => ?_)))
    have Jb : Inv X pins σ1 H1 { t with heap := hb } := J.landed nb fb.1 ((up.trans ua).trans ub) os ag
    obtain ⟨ob, vb, eb, zb, db⟩ := fb.there
    have Sb := Jb.suite eb db na nL nF
    refine store_ok (X := X.suite a ((a, ob) :: (X.pn ++ pins))) (v := .ref a) Sb hN hi isLoc rfl (fun s5 S5 => ?_) (.inr hln)
    have R := (hsu a ob cls d (X.pn ++ pins) zb ⟨_, db⟩).run [] s5 _ H1 _ S5 (go a na)
    refine wpAny_mono R (fun f s6 hsp => ?_) fun _ _ z => z.elim
    match f, hsp with
    | .next, ⟨σ6, H6, S6, q6⟩ =>
      obtain ⟨e6, m6, _⟩ := S6.pin (a, ob) (by simp)
      have A6 := adopt (S6.unsuite ok) m6 n0 nL nP nC (exK_ok (cls := cls) (d := d) e6 zb db)
      exact gone_ok A6 hN hi hln fun s7 J7 => ⟨_, _, J7, q6⟩
    | .brk, ⟨_, _, _, z⟩ => exact z.elim
    | .cont, ⟨_, _, _, z⟩ => exact z.elim
    | .ret _, ⟨_, _, _, _, _, z⟩ => exact z.elim
end
end DL

/-! An own exception class whose __init__ calls ValueError's and keeps what it is given. -/
namespace DL
open PySem PySem.Spec PyProof.Rows L2
/-- what is written of it -/
structure XCls (K : PySem.W.Frag) (mg : Str → Option Value) (x qual : Str) (C fI : Addr) (fd : FuncData) (st : Stmt) : Prop where
  at_ : FnAt K x C
  gC : mg x = some (.ref C)
  oex : OexC K C
  iC : PySem.W.findIn K (.ref C) "__init__" = some (some (.ref fI))
  tI : PySem.W.typeIn K (.ref fI) = some (.type "function")
  no : PySem.W.findIn K (.ref C) "what" = some none
  xf : XfC K C
  ex : PySem.W.exmOne K (.ref C) (.ref C) = some true
  fn : Fun K "__init__" qual st fI fd
  bi : Binds K fd ["self", "what"] []
  nV : mg "ValueError" = none
  vV : PySem.W.findCls K (.type "ValueError") (.type "type") "__init__" = some (.val (.builtin "ValueError.__init__"))
def spInit (K : PySem.W.Frag) : Sp := fun vs H Q _ => ∃ (a C : Addr) (v : V), vs = [.ref a, v] ∧ OexC K C ∧ PySem.W.findIn K (.ref C) "what" = some none ∧ H a = some (exo a C none) ∧
  ∀ dx, H dx = none → dx ≠ a → Q .non (upd (upd H dx (exd dx [("what", v)])) a (exo a C (some dx)))
section
variable {P : Program} {w : World} {K : PySem.W.Frag} {mg : Str → Option Value} {base : Heap} {x qual msg : Str} {C fI : Addr} {fd : FuncData} {st : Stmt} {k : Nat}
def tInit (K : PySem.W.Frag) (msg : Str) : TS := tSeq (tDrop (tVeI K (tCons (tVar 0) (tCons (tC (.str msg)) tNil)))) (tOst K "what" (tVar 0) (tVar 1))
theorem init_ok (F : Fun K "__init__" qual st fI fd) (S : FnScope ["self", "what"] ["self", "what"] (defScope st))
    (hb : ∀ (cdv : Value) (A : Around) (outer : List Env) (s : Shared) (H : Hp) (E : XK), PSs (cxOf CX0 P w K mg base ["self", "what"] qual (defScope st) fI cdv A outer s H E).nox (defBody st) (tInit K msg)) :
    FnOk P w K mg base CX0 (k + 1) fI fd ["self", "what"] (spInit K) := by
  refine F.ok S (fun vs H Q E h => ?_) (fun cdv A outer s H vs Q E hr h => ⟨_, hb cdv A outer s H E, ?_⟩)
  · obtain ⟨a, C, v, rfl, _⟩ := h
    rfl
  · obtain ⟨a, C', v, rfl, oex, no, ha, q⟩ := h
    refine ⟨.ref a, rfl, a, C', [.str msg], rfl, by simp, oex, ha, ?_⟩
    exact ⟨v, rfl, .ref a, rfl, a, C', rfl, oex, no, .inl ⟨ha, fun dx hd ne => q dx hd ne⟩⟩
end
/-- an exception's data: plain -/
def flatW : D → Prop
  | .none => True
  | .bool _ => True
  | .int _ => True
  | .str _ => True
  | _ => False
theorem flV_of {K : PySem.W.Frag} {H : Hp} {F : AS} {v : V} {w : D} (f : flatW w) (h : Dx K H F v w) : FlV v w := by
  cases w <;> first | exact f.elim | skip
  · cases h; exact .non
  · cases h; exact .bl _
  · cases h; exact .int _
  · cases h; exact .str _
/-- C(e), made -/
def tMkD (K : PySem.W.Frag) (C : Addr) (m : M (List D)) : L2.St → Hp → XK → Prop := fun σ H Q => ∃ G loc ρ, Rep K G ρ loc σ H ∧ m ρ fun ds ρ1 => ∃ w, ds = [w] ∧ flatW w ∧
  ∀ v dd H1 H3, Rep K G ρ1 loc σ H1 → Grow (Fb G.fb ρ loc) (Fb G.fb ρ1 loc) H H1 → FlV v w → H1 dd = none → H3 dd = some (.xd [("what", v)]) → (∀ c o, H1 c = some o → H3 c = some o) → Q (.ref C) (some dd) H3
section
variable {X : Cx} {x qual : Str} {C fI : Addr} {fd : FuncData} {st : Stmt} {k : Nat} {e : Expr} {ma : M (List D)} {p pos : Pos}
theorem pmk_exc (T : XCls X.K X.mg x qual C fI fd st) (F1 : FnOk X.prog X.w X.K X.mg X.base CX0 k fI fd ["self", "what"] (spInit X.K)) (hr : Room (k + 1) X.A) (hg : Gl X x) (ha : AM X [e] ma)
    (hdb : (x == ("__debug__" : Str)) = false := by decide) (he : starEach (e :: []) X.env = (false, eval e X.env) :: starEach [] X.env := by rfl) (hpl : (backTo pos (starEach [] X.env)).any (·.1) = false := by rfl) :
    PMk X (.Call (.Name x p) [e] [] pos) (tMkD X.K C ma) := by
  have base := pmk_oex (p := p) (pos := pos) (dvs := []) (ds := []) T.oex T.iC T.tI F1 hr T.bi .nil pass0 hg T.gC ha.run hdb he hpl
  intro pins s σ H Q I h
  refine base pins s σ H Q I ?_
  obtain ⟨G, loc, ρ, R, q⟩ := h
  refine ⟨G, loc, ρ, R, ha.mono ρ _ _ (fun ds ρ1 q1 vs H1 R1 g1 d1 => ?_) q⟩
  obtain ⟨w, rfl, fw, q2⟩ := q1
  obtain ⟨v, rfl, dv⟩ := dx_one d1
  refine ⟨by simp, fun a na => ⟨a, C, v, rfl, T.oex, T.no, upd_same, fun dx hd ne => ⟨rfl, dx, [("what", v)], upd_same, ?_, ?_, ?_⟩⟩⟩
  · rw [upd_ne ne, upd_same]
  · rw [upd_ne ne] at hd
    exact hd
  · rw [upd_ne ne] at hd
    refine q2 v dx H1 _ R1 g1 (flV_of fw dv) hd upd_same fun c o e1 => ?_
    have n1 : c ≠ dx := ne_of_none e1 hd
    have n2 : c ≠ a := ne_of_none e1 na
    rw [upd_ne n1, del_ne n2, upd_ne n2, upd_ne n1, upd_ne n2]
    exact e1
end
end DL

/-! Defs that raise at their end; try: f(..) / except C as e: y = e. -/
namespace DL
open PySem PySem.Spec PyProof.Rows L2
section
variable {K : PySem.W.Frag} {G : Fr} {ρ : List Slot} {loc : Nat → Addr} {σ : L2.St} {H : Hp}
/-- a slot of which nothing is known any more -/
theorem Rep.lose (R : Rep K G ρ loc σ H) (i : Nat) (v : Option V) : Rep K G (ρ.set i .non) loc (σ.set i v) H ∧ Grow (Fb G.fb ρ loc) (Fb G.fb (ρ.set i .non) loc) H H := by
  have sub : ∀ a, Fb G.fb (ρ.set i .non) loc a → Fb G.fb ρ loc a := fun a => Fb_put (by intro _ _ z; cases z) a
  have at_ : ∀ {j : Nat} {u : Slot}, (ρ.set i .non)[j]? = some u → u ≠ .non → j ≠ i ∧ ρ[j]? = some u := fun {j u} e h => by
    rcases set_get e with ⟨_, z, _⟩ | z
    · exact absurd z h
    · exact z
  refine ⟨⟨by rw [List.length_set, List.length_set]; exact R.len, fun j d e => ?_, fun j b es e => ?_, fun j l b c es fs e e' z => ?_, fun j es e => ?_, fun j es e => ?_, R.ext, R.fbS, R.bwS, R.raw.put (by intro _ _ z; cases z) (fun b o e n => ⟨e, fun z => n (sub b z)⟩) fun _ _ _ e => e⟩, fun b o e n => ⟨e, fun z => n (sub b z)⟩⟩
  · obtain ⟨hj, e⟩ := at_ e (fun z => nomatch z)
    obtain ⟨u, x, y⟩ := R.dat j d e
    exact ⟨u, by rw [List.getElem?_set_ne (Ne.symm hj)]; exact x, y.weak sub⟩
  · obtain ⟨hj, e⟩ := at_ e (fun z => nomatch z)
    obtain ⟨x, ws, y, z⟩ := R.own j b es e
    exact ⟨by rw [List.getElem?_set_ne (Ne.symm hj)]; exact x, ws, y, z.weak sub⟩
  · exact R.apart j l b c es fs (at_ e fun z => nomatch z).2 (at_ e' fun z => nomatch z).2 z
  · exact R.brw j es (at_ e fun z => nomatch z).2
  · exact R.new j es (at_ e fun z => nomatch z).2
end
/-! ### what a def that may raise means -/
abbrev FX := List D → (Bool → D → Prop) → (D → Prop) → Prop
def KxB (C : Addr) (H : Hp) (E : XK) : D → Prop := fun w => ∀ v dd H', (∀ c o, H c = some o → H' c = some o) → FlV v w → H dd = none → H' dd = some (.xd [("what", v)]) → E (.ref C) (some dd) H'
def spX (K : PySem.W.Frag) (n : Nat) (C : Addr) (F : FX) : Sp := fun vs H Q E => ∃ (fb : AS) (ds : List D), (∀ b, fb b → ∃ o, H b = some o) ∧ DxAll K H fb vs ds ∧ ds.length = n ∧ F ds (KdB K fb H Q) (KxB C H E)
def PmX (F : FX) : Prop := ∀ ds (k k' : Bool → D → Prop) (x x' : D → Prop), (∀ b d, k b d → k' b d) → (∀ w, x w → x' w) → F ds k x → F ds k' x'
/-- S1; if t: raise C(w); S2 -/
def fxS (m1 : SMon) (mt : M Bool) (mw : M (List D)) (m2 : SMon) (extra : Nat) : FX := fun ds k kx => m1 ⟨fun ρ => mt ρ fun b ρ1 => if b = true then mw ρ1 fun ws _ => ∃ w, ws = [w] ∧ flatW w ∧ kx w
  else m2 ⟨fun _ => k false .none, fun b d _ => k b d, fun _ => False, fun _ => False⟩ ρ1, fun b d _ => k b d, fun _ => False, fun _ => False⟩ (ds.map Slot.dat ++ List.replicate extra Slot.non)
theorem pm_fxS {m1 m2 : SMon} {mt : M Bool} {mw : M (List D)} (h1 : SMono m1) (ht : Mono mt) (hw : Mono mw) (h2 : SMono m2) (n : Nat) : PmX (fxS m1 mt mw m2 n) := by
  intro ds k k' x x' hk hx q
  refine h1 _ _ _ ?_ q
  refine ⟨fun ρ q => ht _ _ _ (fun b ρ1 q1 => ?_) q, fun _ _ _ q => hk _ _ q, fun _ z => z, fun _ z => z⟩
  cases b with
  | true =>
    rw [if_pos rfl] at q1 ⊢
    exact hw _ _ _ (fun ws _ ⟨w, e, f, q⟩ => ⟨w, e, f, hx w q⟩) q1
  | false =>
    rw [if_neg Bool.false_ne_true] at q1 ⊢
    refine h2 _ _ _ ?_ q1
    exact ⟨fun _ q => hk _ _ q, fun _ _ _ q => hk _ _ q, fun _ z => z, fun _ z => z⟩
section
variable {P : Program} {w : World} {K : PySem.W.Frag} {mg : Str → Option Value} {base : Heap} {x qual : Str} {st : Stmt} {f C : Addr} {fd : FuncData} {N ps : List Str} {k : Nat} {m1 m2 : SMon} {mt : M Bool} {mw : M (List D)} {S1 S2 : Stmt} {t e : Expr} {pr pi : Pos}
theorem fnX (F : Fun K x qual st f fd) (S : FnScope N ps (defScope st)) (hd : defBody st = [S1, .If t [.Raise (some e) none pr] [] pi, S2])
    (h1 : ∀ (cdv : Value) (A : Around) (outer : List Env) (s : Shared) (H : Hp) (E : XK), Rm k (A.deeper (envOfC qual (defScope st) s.heap.objs.size f cdv)) → SM (cxOf (L2.CX P w) P w K mg base N qual (defScope st) f cdv A outer s H E) S1 m1)
    (ht : ∀ (cdv : Value) (A : Around) (outer : List Env) (s : Shared) (H : Hp) (E : XK), Rm k (A.deeper (envOfC qual (defScope st) s.heap.objs.size f cdv)) → TM (cxOf (L2.CX P w) P w K mg base N qual (defScope st) f cdv A outer s H E) t mt)
    (hw : ∀ (cdv : Value) (A : Around) (outer : List Env) (s : Shared) (H : Hp) (E : XK), Rm k (A.deeper (envOfC qual (defScope st) s.heap.objs.size f cdv)) → PMk (cxOf (L2.CX P w) P w K mg base N qual (defScope st) f cdv A outer s H E) e (tMkD K C mw)) (mwm : Mono mw)
    (h2 : ∀ (cdv : Value) (A : Around) (outer : List Env) (s : Shared) (H : Hp) (E : XK), Rm k (A.deeper (envOfC qual (defScope st) s.heap.objs.size f cdv)) → SM (cxOf (L2.CX P w) P w K mg base N qual (defScope st) f cdv A outer s H E) S2 m2) :
    FnG P w K mg base (L2.CX P w) (k + 1) f fd ps (spX K ps.length C (fxS m1 mt mw m2 (N.length - ps.length))) := by
  obtain ⟨oc, od, kV, doc, pm, an, cdv, ct, osl, rfl, look, code⟩ := F.ex
  refine fng_of look code S (fun vs H Q E h => ?_) (fun A outer s H vs Q E hr h => ?_)
  · obtain ⟨fb, ds, _, hd, e, _⟩ := h
    exact hd.len_sp e
  · obtain ⟨fb, ds, hf, dxs, el, q⟩ := h
    have R := rep_start0 (N := N) hf dxs
    rw [el] at R
    have tk : Takes (cxOf (L2.CX P w) P w K mg base N qual (defScope st) f cdv A outer s H E) (fun cls d _ H => E cls d H) := takes_of rfl rfl rfl rfl
    have T := ht cdv A outer s H E hr
    have B2 := h2 cdv A outer s H E hr
    rw [hd]
    refine ⟨_, pss_cons (h1 cdv A outer s H E hr).run (pss_cons (ps_if T.run (pss_one (ps_raise rfl tk (hw cdv A outer s H E hr))) pss_nil) (pss_one B2.run)), ?_⟩
    have old : ∀ {ρ' : List Slot} {loc' : Nat → Addr} {σ' : L2.St} {H' : Hp}, Rep K ⟨H, fb, fun _ => False, fun _ => 0⟩ ρ' loc' σ' H' → ∀ c o, H c = some o → H' c = some o := fun R' c o e => R'.ext c o e fun z => z
    refine ⟨_, _, _, _, R, q, fun ρ1 loc1 σ1 H1 R1 g1 q1 => ?_, ?_, fun _ _ _ _ _ _ z => z, fun _ _ _ _ _ _ z => z⟩
    · refine ⟨_, loc1, ρ1, R1, T.mono _ _ _ (fun b ρ2 q2 H2 R2 g2 => ?_) q1⟩
      cases b with
      | true =>
        rw [if_pos rfl] at q2 ⊢
        refine ⟨_, loc1, ρ2, R2, mwm _ _ _ (fun ws ρ3 ⟨wd, e1, fw, q3⟩ => ⟨wd, e1, fw, fun v dd H3 H4 R3 g3 fl hn e4 k4 => ?_⟩) q2⟩
        refine q3 v dd H4 (fun c o z => k4 c o (old R3 c o z)) fl ?_ e4
        cases z : H dd with
        | none => rfl
        | some o =>
          rw [old R3 dd o z] at hn
          cases hn
      | false =>
        rw [if_neg Bool.false_ne_true] at q2 ⊢
        refine ⟨_, loc1, ρ2, _, R2, q2, ?_, ?_, fun _ _ _ _ _ _ z => z, fun _ _ _ _ _ _ z => z⟩
        · exact fun ρ' loc' σ' H' R' g q => q .non H' (old R') .non (fun z => nomatch z)
        · exact fun b d ρ' loc' σ' v H' R' g dx nw q => q v H' (old R') (dx.weak fun c z => .inl z) fun z => (nw z).weak fun c z => .inl z
    · exact fun b d ρ' loc' σ' v H' R' g dx nw q => q v H' (old R') (dx.weak fun c z => .inl z) fun z => (nw z).weak fun c z => .inl z
end
end DL

/-! try: f(..) / except C as e: y = e; the exception's class, what it has. -/
namespace DL
open PySem PySem.Spec PyProof.Rows L2
section
variable {X : Cx} {CX : CXT} {k : Nat} {f : Addr} {fd : FuncData} {ps : List Str} {sp : Sp} {E : L2.St → XK} {x : Str} {p pos : Pos} {e : Expr} {es : List Expr} {t : TA}
theorem run_gS {pins : List (Addr × Obj)} {σ : L2.St} {H : Hp} {s : Shared} {Q : VK} {us : List Value} {vs : List V} (F : FnG X.prog X.w X.K X.mg X.base CX k f fd ps sp) (hr : Rm k X.A) (hb : Binds X.K fd ps []) (hx : PassesAt CX X σ (E σ))
    (I : Inv X pins σ H s) (r : Vals vs us) (h : sp vs H Q (E σ)) : wpAny (model X.prog X.w) X.A (call (.ref f) us) (EP X pins σ Q) X.xe s := by
  have many : us.length = ps.length := r.length.symm.trans (F.len _ _ _ _ h)
  have bt := hb s us I.kIn (by rw [List.append_nil]; exact many)
  rw [List.append_nil] at bt
  refine wpAny_call (codeAny_mono (F.run X.A X.stack s H ⟨us, []⟩ us vs Q (E σ) hr I.env0 bt r h) ?_)
  intro out s' got
  match out, got with
  | .error z, got => exact hx pins H s z s' I got
  | .ok (.ret u), got => exact I.after got
  | .ok .next, got => exact got.elim
  | .ok .brk, got => exact got.elim
  | .ok .cont, got => exact got.elim
theorem pe_callSG (F : FnG X.prog X.w X.K X.mg X.base CX k f fd ps sp) (hr : Rm k X.A) (hg : Gl X x) (hm : X.mg x = some (.ref f)) (hk : PySem.W.keepIn X.K (.ref f) = true) (hb : Binds X.K fd ps []) (hx : ∀ σ, PassesAt CX X σ (E σ))
    (ha : PA X (e :: es) t) (hdb : (x == ("__debug__" : Str)) = false := by decide) (he : starEach (e :: es) X.env = (false, eval e X.env) :: starEach es X.env := by rfl) (hpl : (backTo pos (starEach es X.env)).any (·.1) = false := by rfl) :
    PE X (.Call (.Name x p) (e :: es) [] pos) (tCallS sp E t) := by
  constructor
  intro pins s σ H Q I h
  refine wpAny_Call_Name_kw (ld_glob I hg hm ?_ hdb)
  refine PySem.W.callWith_K (h₀ := X.base) I.ok.mod.kin hk (thn (ha.run pos pins s σ H _ I h) ?_) he hpl
  rintro us s1 ⟨vs, H1, I1, r, q⟩
  exact ⟨I1.kIn, run_gS F hr hb (hx σ) I1 r q⟩
end
/-- try: f(ds) / except C as n (slot i): y (slot j) = n -/
def sTry (i j n : Nat) (cn : Str) (F : FX) (ma : M (List D)) : SMon := fun k ρ => ma ρ fun ds ρ1 => (ds.length = n ∧ i < ρ1.length) ∧ F ds (fun _ _ => k.nx ρ1) fun w => k.nx ((ρ1.set j (.dat (.dict (excD cn w)))).set i .non)
/-- try: z = f(ds) / .. -/
def sTryA (i j z n : Nat) (cn : Str) (F : FX) (ma : M (List D)) : SMon := fun k ρ => ma ρ fun ds ρ1 => (ds.length = n ∧ i < ρ1.length) ∧ F ds (fun _ d => k.nx (ρ1.set z (.dat d))) fun w => k.nx ((ρ1.set j (.dat (.dict (excD cn w)))).set i .non)
section
variable {X : Cx} {k n i j z : Nat} {f C fI : Addr} {fd fdI : FuncData} {st : Stmt} {ps : List Str} {x cn qual nm y zn : Str} {F : FX} {p pos pe pt ph pc py pn pa pz : Pos} {e : Expr} {es : List Expr} {ma : M (List D)}
/-- behind the suite -/
theorem kept_rep {K : PySem.W.Frag} {G : Fr} {ρ : List Slot} {loc : Nat → Addr} {σ : L2.St} {H H' : Hp} {i j : Nat} {a dd C : Addr} {cn : Str} {v : V} {w : D} (R : Rep K G ρ loc σ H) (hij : i ≠ j) (kk : ∀ c o, H c = some o → H' c = some o) (na : H' a = none) (fl : FlV v w) (hn : H dd = none)
    (e : H' dd = some (.xd [("what", v)])) (at_ : FnAt K cn C) :
    Rep K G ((ρ.set j (.dat (.dict (excD cn w)))).set i .non) loc (((σ.set i (some (.ref a))).set j (some (.ref a))).set i none) (upd H' a (exK (.ref C) (some dd) a)) ∧
      Grow (Fb G.fb ρ loc) (Fb G.fb ((ρ.set j (.dat (.dict (excD cn w)))).set i .non) loc) H (upd H' a (exK (.ref C) (some dd) a)) := by
  have more : ∀ c o, H c = some o → upd H' a (exK (.ref C) (some dd) a) c = some o := fun c o z => upd_more na c o (kk c o z)
  have R1 := R.more more
  have nfa : ¬ Fb G.fb ρ loc a := (R.more kk).notFb na
  have nfd : ¬ Fb G.fb ρ loc dd := R.notFb hn
  have nad : dd ≠ a := ne_of_none e na
  have dx : Dx K (upd H' a (exK (.ref C) (some dd) a)) (Fb G.fb ρ loc) (.ref a) (.dict (excD cn w)) := .exc rfl fl at_ nfa nfd upd_same (by rw [upd_ne nad]; exact e)
  obtain ⟨R2, g2⟩ := (R1.put j dx).lose i none
  have es : (((σ.set i (some (V.ref a))).set j (some (.ref a))).set i none : L2.St) = (σ.set j (some (.ref a))).set i none := by
    rw [List.set_comm _ _ hij, List.set_set]
  rw [es]
  exact ⟨R2, ((more_grow more).trans put_grow).trans g2⟩
theorem sm_try (hij : i ≠ j) (T : XCls X.K X.mg cn qual C fI fdI st) (Gf : FnG X.prog X.w X.K X.mg X.base (L2.CX X.prog X.w) k f fd ps (spX X.K n C F)) (mF : PmX F) (hr : Rm k X.A) (hg : Gl X x) (hm : X.mg x = some (.ref f)) (hk : PySem.W.keepIn X.K (.ref f) = true) (hb : Binds X.K fd ps [])
    (hx : X.ex = []) (hs : X.stack = X.env :: X.outer) (hfr : X.env.frame = some X.env.locals) (hN : X.N.Nodup) (hi : X.N[i]? = some nm) (hj : X.N[j]? = some y) (hln : X.env.kindOf nm = some .local) (hv : Vis X.env.scope nm) (hy : Loc X.env.scope y) (hyl : X.env.scope.names.lookup y = some .local)
    (hC : Gl X cn) (hCd : (cn == ("__debug__" : Str)) = false) (ha : ∀ pn xe, AM (X.tr pn xe) (e :: es) ma)
    (hd1 : (nm == ("__debug__" : Str)) = false := by decide) (hd2 : (nm == ("__classdict__" : Str)) = false := by decide)
    (hdb : (x == ("__debug__" : Str)) = false := by decide) (he : starEach (e :: es) X.env = (false, eval e X.env) :: starEach es X.env := by rfl) (hpl : (backTo pos (starEach es X.env)).any (·.1) = false := by rfl)
    (hsw : swapsWith (.Call (.Name x p) (e :: es) [] pos) none pe.line X.env = pure false := by rfl) (hsa : swapsWith (.Name nm pn) (some (.Name y py)) pa.line X.env = pure false := by rfl) :
    SM X (.Try [.Expr (.Call (.Name x p) (e :: es) [] pos) pe] [.ExceptHandler (some (.Name cn pc)) (some nm) [.Assign [.Name y py] (.Name nm pn) pa] ph] [] [] pt) (sTry i j n cn F ma) := by
  have am : Mono ma := (ha [] fun _ _ => True).mono
  refine ⟨fun kk kk' ρ l q => am ρ _ _ (fun ds ρ1 ⟨a, b⟩ => ⟨a, mF _ _ _ _ _ (fun _ _ z => l.nx _ z) (fun _ z => l.nx _ z) b⟩) q, ?_⟩
  refine ps_weak (ps_try_keep (tb := fun W => tDrop (tCallS (spX X.K n C F) (WE W) (TAof X.K ma))) (ts := fun a cls d => tAsg (tVar i) (gName j)) hx hs hfr hN hi hln ⟨hC, hCd, .inl T.gC⟩ (fun W pn xe tk _ => ?_) (fun a oe cls d pn hz hf => ?_)) ?_
  · exact pss_one (ps_expr (pe_callSG (X := X.tr pn xe) Gf hr hg hm hk hb (fun σ => passAt tk σ) (ha pn xe).run hdb he hpl) hsw)
  · exact pss_one (ps_set (X := X.suite a ((a, oe) :: pn)) hN hj hy (pe_var hi hv hd1 hd2) hsa (.inr hyl))
  · rintro D σ H ⟨G, loc, ρ, kk, R, q, l1, l2, l3, l4⟩
    refine ⟨G, loc, ρ, R, am ρ _ _ (fun ds ρ1 q1 vs H1 R1 g1 d1 => ?_) q⟩
    refine ⟨Fb G.fb ρ1 loc, ds, R1.fbE, d1, q1.1.1, mF _ _ _ _ _ (fun b d q2 v H2 m2 d2 _ => ?_) (fun w q2 v dd H2 m2 fl hn e2 => ?_) q1.2⟩
    · exact l1 _ _ _ _ (R1.more m2) (g1.trans (more_grow m2)) q2
    · refine ⟨T.ex, fun a na => ?_⟩
      have hlt : i < σ.length := by rw [R1.len]; exact q1.1.2
      refine ⟨.ref a, List.getElem?_set_self hlt, ?_⟩
      obtain ⟨R3, g3⟩ := kept_rep R1 hij m2 na fl hn e2 T.at_
      exact l1 _ _ _ _ R3 (g1.trans g3) q2
theorem sm_tryA (hij : i ≠ j) (T : XCls X.K X.mg cn qual C fI fdI st) (Gf : FnG X.prog X.w X.K X.mg X.base (L2.CX X.prog X.w) k f fd ps (spX X.K n C F)) (mF : PmX F) (hr : Rm k X.A) (hg : Gl X x) (hm : X.mg x = some (.ref f)) (hk : PySem.W.keepIn X.K (.ref f) = true) (hb : Binds X.K fd ps [])
    (hx : X.ex = []) (hs : X.stack = X.env :: X.outer) (hfr : X.env.frame = some X.env.locals) (hN : X.N.Nodup) (hi : X.N[i]? = some nm) (hj : X.N[j]? = some y) (hz : X.N[z]? = some zn) (hln : X.env.kindOf nm = some .local) (hv : Vis X.env.scope nm) (hy : Loc X.env.scope y) (hyl : X.env.scope.names.lookup y = some .local)
    (hzL : Loc X.env.scope zn) (hzl : X.env.scope.names.lookup zn = some .local)
    (hC : Gl X cn) (hCd : (cn == ("__debug__" : Str)) = false) (ha : ∀ pn xe, AM (X.tr pn xe) (e :: es) ma)
    (hd1 : (nm == ("__debug__" : Str)) = false := by decide) (hd2 : (nm == ("__classdict__" : Str)) = false := by decide)
    (hdb : (x == ("__debug__" : Str)) = false := by decide) (he : starEach (e :: es) X.env = (false, eval e X.env) :: starEach es X.env := by rfl) (hpl : (backTo pos (starEach es X.env)).any (·.1) = false := by rfl)
    (hsw : swapsWith (.Call (.Name x p) (e :: es) [] pos) (some (.Name zn pz)) pe.line X.env = pure false := by rfl) (hsa : swapsWith (.Name nm pn) (some (.Name y py)) pa.line X.env = pure false := by rfl) :
    SM X (.Try [.Assign [.Name zn pz] (.Call (.Name x p) (e :: es) [] pos) pe] [.ExceptHandler (some (.Name cn pc)) (some nm) [.Assign [.Name y py] (.Name nm pn) pa] ph] [] [] pt) (sTryA i j z n cn F ma) := by
  have am : Mono ma := (ha [] fun _ _ => True).mono
  refine ⟨fun kk kk' ρ l q => am ρ _ _ (fun ds ρ1 ⟨a, b⟩ => ⟨a, mF _ _ _ _ _ (fun _ _ z => l.nx _ z) (fun _ z => l.nx _ z) b⟩) q, ?_⟩
  refine ps_weak (ps_try_keep (tb := fun W => tAsg (tCallS (spX X.K n C F) (WE W) (TAof X.K ma)) (gName z)) (ts := fun a cls d => tAsg (tVar i) (gName j)) hx hs hfr hN hi hln ⟨hC, hCd, .inl T.gC⟩ (fun W pn xe tk _ => ?_) (fun a oe cls d pn hz hf => ?_)) ?_
  · exact pss_one (ps_set (X := X.tr pn xe) hN hz hzL (pe_callSG (X := X.tr pn xe) Gf hr hg hm hk hb (fun σ => passAt tk σ) (ha pn xe).run hdb he hpl) hsw (.inr hzl))
  · exact pss_one (ps_set (X := X.suite a ((a, oe) :: pn)) hN hj hy (pe_var hi hv hd1 hd2) hsa (.inr hyl))
  · rintro D σ H ⟨G, loc, ρ, kk, R, q, l1, l2, l3, l4⟩
    refine ⟨G, loc, ρ, R, am ρ _ _ (fun ds ρ1 q1 vs H1 R1 g1 d1 => ?_) q⟩
    refine ⟨Fb G.fb ρ1 loc, ds, R1.fbE, d1, q1.1.1, mF _ _ _ _ _ (fun b d q2 v H2 m2 d2 _ => ?_) (fun w q2 v dd H2 m2 fl hn e2 => ?_) q1.2⟩
    · exact l1 _ _ _ _ ((R1.more m2).put z d2) ((g1.trans (more_grow m2)).trans put_grow) q2
    · refine ⟨T.ex, fun a na => ?_⟩
      have hlt : i < σ.length := by rw [R1.len]; exact q1.1.2
      refine ⟨.ref a, List.getElem?_set_self hlt, ?_⟩
      obtain ⟨R3, g3⟩ := kept_rep R1 hij m2 na fl hn e2 T.at_
      exact l1 _ _ _ _ R3 (g1.trans g3) q2
end
/-! ### what it has -/
def mWhat (cn : Str) (m : M D) : M D := fun ρ k => m ρ fun d ρ1 => ∃ w, d = .dict (excD cn w) ∧ k w ρ1
theorem fnAt_one {K : PySem.W.Frag} {x : Str} {a b : Addr} (h : FnAt K x a) (h' : FnAt K x b) : a = b := by
  unfold FnAt at h h'
  rw [h] at h'
  simpa using h'
theorem dx_flat {K : PySem.W.Frag} {H : Hp} {F : AS} {v : V} {w : D} (h : FlV v w) : Dx K H F v w := by
  cases h with
  | non => exact .non
  | bl b => exact .bl b
  | int i => exact .int i
  | str x => exact .str x
section
variable {X : Cx} {e : Expr} {m : M D} {pos : Pos} {cn qual : Str} {C fI : Addr} {fdI : FuncData} {st : Stmt}
/-- the field of a kept exception -/
def tWhat (C : Addr) (te : TE) : TE := fun σ H Q => te σ H fun x H1 => ∃ (a dd : Addr) (v : V), x = .ref a ∧ H1 a = some (exK (.ref C) (some dd) a) ∧ H1 dd = some (.xd [("what", v)]) ∧ Q v H1
theorem pe_what {te : TE} (T : XCls X.K X.mg cn qual C fI fdI st) (he : PE X e te) (hb : attributeBase e "what" X.env (eval e X.env) = eval e X.env := by rfl) : PE X (.Attribute e "what" pos) (tWhat C te) := by
  constructor
  intro pins s σ H Q I h
  refine attr_of hb (thn (he.run pins s σ H _ I h) ?_)
  rintro u s1 ⟨x, H1, I1, rx, a, dd, v, rfl, ha, hd, q⟩
  cases rx
  obtain ⟨⟨oe, vs, ho, hz, hf⟩, _⟩ := I1.hok a _ ha
  obtain ⟨mA, ns, rel⟩ := I1.hok dd _ hd
  obtain ⟨od, hod, look⟩ := lookIn_ns ns
  have lk : List.lookup ("what" : Str) [(("what" : Str), v)] = some v := by simp [List.lookup]
  have rw1 := rel "what"
  rw [lk] at rw1
  obtain ⟨u, hu, ru⟩ := RelO.some_of (v := v) (o := mA "what") rw1
  have at_ : PySem.W.InstAt s1.heap a oe C (some od) := by
    refine ⟨ho, hz.1, ?_, ?_⟩
    · unfold PySem.W.notCls
      rw [hf]
    · rw [hz.2]
      exact hod
  refine HandSPX.exc_get I1.kIn at_ T.xf.ga T.xf.gg T.xf.exC (PySem.W.findObj_own T.xf.hdC T.no rfl ?_) (handed_of ru) ⟨v, H1, I1.tok _, ru, q⟩
  rw [look, hu]
theorem em_what (T : XCls X.K X.mg cn qual C fI fdI st) (he : EM X e m) (hb : attributeBase e "what" X.env (eval e X.env) = eval e X.env := by rfl) : EM X (.Attribute e "what" pos) (mWhat cn m) := by
  refine ⟨fun ρ k k' l q => he.mono ρ _ _ (fun d ρ1 ⟨w, e1, q1⟩ => ⟨w, e1, l _ _ q1⟩) q, pe_weak (pe_what T he.run hb) ?_⟩
  rintro σ H Q ⟨G, loc, ρ, R, q⟩
  refine ⟨G, loc, ρ, R, he.mono ρ _ _ (fun d ρ1 q1 v H1 R1 g1 d1 => ?_) q⟩
  obtain ⟨w, rfl, q2⟩ := q1
  obtain ⟨a, C', dd, u, rfl, fl, at_, _, _, ha, hd⟩ := d1.excA
  obtain rfl := fnAt_one at_ T.at_
  exact ⟨a, dd, u, rfl, ha, hd, q2 u H1 R1 g1 (dx_flat fl)⟩
end
end DL

/-! A dict of the module from texts to ints; text.split(sep); list.index. -/
namespace DL
open PySem PySem.Spec PyProof.Rows L2
/-- the entries of a dict from texts to ints -/
def TabIs : List DictEntry → List (Str × Int) → Prop
  | [], [] => True
  | e :: es, (x, i) :: r => (∃ t, e.key = .str x t) ∧ (∃ t, e.val = .int i t) ∧ TabIs es r
  | _, _ => False
def TabI (K : PySem.W.Frag) (w : World) (a : Addr) (tbl : List (Str × Int)) : Prop :=
  (a == sysModules) = false ∧ ∃ es n, K.lookup a = some ⟨.type "dict", none, .dict es n, #[]⟩ ∧ PySem.W.KeysLit w.params es.toList ∧ TabIs es.toList tbl
theorem tabIs_nil : TabIs [] [] := trivial
theorem tabIs_cons {e : DictEntry} {es : List DictEntry} {x : Str} {i : Int} {t u : Tok} {r : List (Str × Int)} (h1 : e.key = .str x t) (h2 : e.val = .int i u) (h : TabIs es r) : TabIs (e :: es) ((x, i) :: r) := ⟨⟨t, h1⟩, ⟨u, h2⟩, h⟩
theorem tabIs_find (z : Str) : ∀ {es : List DictEntry} {tbl : List (Str × Int)}, TabIs es tbl →
    (match txLook tbl z with | some i => ∃ t, (es.find? fun e => Value.isStrOf z e.key).map (·.val) = some (.int i t) | none => (es.find? fun e => Value.isStrOf z e.key).map (·.val) = none)
  | [], [], _ => rfl
  | e :: es, (x, i) :: r, ⟨⟨t, h1⟩, ⟨u, h2⟩, h3⟩ => by
    unfold txLook
    by_cases hz : x = z
    · subst hz
      rw [if_pos rfl]
      refine ⟨u, ?_⟩
      have e1 : Value.isStrOf x e.key = true := by rw [h1]; exact keyIs_str x t
      rw [List.find?_cons_of_pos (by simpa using e1)]
      simp [h2]
    · rw [if_neg hz]
      have e1 : Value.isStrOf z e.key = false := by
        cases q : Value.isStrOf z e.key with
        | false => rfl
        | true =>
          obtain ⟨u, hu⟩ := Value.isStrOf_shape q
          rw [h1] at hu
          exact absurd (Value.str.inj hu).1 hz
      rw [List.find?_cons_of_neg (by simp [e1])]
      exact tabIs_find z h3
def rTabI (K : PySem.W.Frag) (w : World) (tbl : List (Str × Int)) : R2 := fun x y H Q => ∃ a z i, x = .ref a ∧ y = .str z ∧ TabI K w a tbl ∧ txLook tbl z = some i ∧ Q (.int i) H
def rInI (K : PySem.W.Frag) (w : World) (tbl : List (Str × Int)) : R2 := fun x y H Q => ∃ a z, x = .str z ∧ y = .ref a ∧ TabI K w a tbl ∧ Q (.bl (txLook tbl z).isSome) H
section
variable {X : Cx} {tbl : List (Str × Int)}
theorem ix_tabI : IxR X (rTabI X.K X.w tbl) := by
  intro value slice pins s σ H x y v u Q I rx ry h hs
  obtain ⟨p, z, i, rfl, rfl, ⟨_, es, n, hl, hk, ht⟩, e, q⟩ := h
  obtain rfl : v = Value.ref p := rx
  obtain ⟨t, rfl⟩ := ry
  have hm := PySem.W.mapOf_K (prog := X.prog) (w := X.w) I.kIn hl hk
  have hf := tabIs_find z ht
  rw [e] at hf
  obtain ⟨t2, h1⟩ := hf
  have h3 : findBy Value.isStrOf es z = some (.int i t2) := by
    obtain ⟨l⟩ := es
    unfold findBy
    rw [List.find?_toArray]
    exact h1
  exact tail_any hm.typeIs slot_dict_getitem.lookup (wpAny_getItem_of (strKind_is X.prog X.w z t) hm h3 ⟨.int i, H, I.tok _, ⟨_, rfl⟩, q⟩) hs
theorem op_inI : OpR X (compareOp .In) (rInI X.K X.w tbl) := by
  intro pins s σ H x y v u Q I rx ry h
  obtain ⟨p, z, rfl, rfl, ⟨hsm, es, n, hl, hk, ht⟩, q⟩ := h
  obtain rfl : u = Value.ref p := ry
  obtain ⟨t, rfl⟩ := rx
  have hm := PySem.W.mapOf_K (prog := X.prog) (w := X.w) I.kIn hl hk
  have h3 : (findBy Value.isStrOf es z).isSome = (txLook tbl z).isSome := by
    have hf := tabIs_find z ht
    obtain ⟨l⟩ := es
    unfold findBy
    rw [List.find?_toArray]
    cases e : txLook tbl z with
    | none => rw [e] at hf; rw [show (l.find? fun e => Value.isStrOf z e.key).map (·.val) = none from hf]; rfl
    | some y => rw [e] at hf; obtain ⟨f, h1⟩ := hf; rw [show (l.find? fun e => Value.isStrOf z e.key).map (·.val) = some (.int y f) from h1]; rfl
  refine wpAny_in_of (strKind_is X.prog X.w z t) hsm hm ?_
  rw [h3]
  exact ⟨.bl _, H, I.tok _, rfl, q⟩
end
def mTabI (tbl : List (Str × Int)) (m : M D) : M D := fun ρ k => m ρ fun d ρ1 => match d with
  | .str x => ∃ i, txLook tbl x = some i ∧ k (.int i) ρ1
  | _ => False
def mInI (tbl : List (Str × Int)) (m : M D) : M D := fun ρ k => m ρ fun d ρ1 => match d with
  | .str x => k (.bool (txLook tbl x).isSome) ρ1
  | _ => False
section
variable {X : Cx} {x : Str} {p pos : Pos} {i : Expr} {m : M D} {a : Addr} {tbl : List (Str × Int)}
theorem em_tabI (ht : TabI X.K X.w a tbl) (hm : X.mg x = some (.ref a)) (hi : EM X i m) (hs : PlainIx i) (hg : Gl X x := by rfl) (hd : (x == ("__debug__" : Str)) = false := by decide) : EM X (.Subscript (.Name x p) i pos) (mTabI tbl m) := by
  refine ⟨fun ρ k k' w q => hi.mono ρ _ _ (fun d ρ1 q1 => by
    cases d <;> first | exact (show False from q1).elim | skip
    exact ⟨q1.choose, q1.choose_spec.1, w _ _ q1.choose_spec.2⟩) q, pe_weak (pe_ix (ix_tabI (tbl := tbl)) (pe_glob (v := .ref a) hg hm rfl hd) hi.run hs) ?_⟩
  rintro σ H Q ⟨G, loc, ρ, R, q⟩
  refine ⟨G, loc, ρ, R, hi.mono ρ _ _ (fun d ρ1 q1 v H1 R1 g1 d1 => ?_) q⟩
  cases d <;> first | exact (show False from q1).elim | skip
  cases d1
  obtain ⟨y, e, q2⟩ := q1
  exact ⟨a, _, y, rfl, rfl, ht, e, q2 _ H1 R1 g1 (.int _)⟩
theorem mono_inI (h : Mono m) : Mono (mInI tbl m) := fun ρ k k' w q => h ρ _ _ (fun d ρ1 q1 => by
    cases d <;> first | exact (show False from q1).elim | skip
    exact w _ _ q1) q
theorem em_inI (ht : TabI X.K X.w a tbl) (hm : X.mg x = some (.ref a)) (hi : EM X i m) (hb : behindInMarks .In (.Name x p) = false := by rfl) (hg : Gl X x := by rfl) (hd : (x == ("__debug__" : Str)) = false := by decide) : EM X (.Compare i [.In] [.Name x p] pos) (mInI tbl m) := by
  refine ⟨mono_inI hi.mono, pe_weak (pe_cmpR (op_inI (tbl := tbl)) hi.run (pe_glob (v := .ref a) hg hm rfl hd) hb) ?_⟩
  rintro σ H Q ⟨G, loc, ρ, R, q⟩
  refine ⟨G, loc, ρ, R, hi.mono ρ _ _ (fun d ρ1 q1 v H1 R1 g1 d1 => ?_) q⟩
  cases d <;> first | exact (show False from q1).elim | skip
  cases d1
  exact ⟨a, _, rfl, rfl, ht, q1 _ H1 R1 g1 (.bl _)⟩
theorem tm_inI (ht : TabI X.K X.w a tbl) (hm : X.mg x = some (.ref a)) (hi : EM X i m) (hb : behindInMarks .In (.Name x p) = false := by rfl) (hg : Gl X x := by rfl) (hd : (x == ("__debug__" : Str)) = false := by decide) : TM X (.Compare i [.In] [.Name x p] pos) (mTest (mInI tbl m)) := by
  have mm : Mono (mInI tbl m) := mono_inI hi.mono
  refine ⟨mono_test mm, pt_weak (pt_cmpR (op_inI (tbl := tbl)) hi.run (pe_glob (v := .ref a) hg hm rfl hd) hb) fun σ H Q h => ?_⟩
  obtain ⟨G, loc, ρ, R, q⟩ := tt_te mm h
  refine ⟨G, loc, ρ, R, hi.mono ρ _ _ (fun d ρ1 q1 v H1 R1 g1 d1 => ?_) q⟩
  cases d <;> first | exact (show False from q1).elim | skip
  cases d1
  exact ⟨a, _, rfl, rfl, ht, q1 _ H1 R1 g1 (.bl _)⟩
end
/-! ### text.split(sep) -/
def mSplit (m : M D) (ms : M (List D)) : M (List D) := fun ρ k => m ρ fun d ρ1 => match d with
  | .str a => ms ρ1 fun ds ρ2 => ∃ b, ds = [.str b] ∧ (b.length == 0) = false ∧ a.length + 2 ≤ sizeLine ∧ k ((Txt.split a b).map PyData.str) ρ2
  | _ => False
section
variable {X : Cx} {o e : Expr} {m : M D} {ms : M (List D)} {apos cpos : Pos}
theorem nm_split (ho : EM X o m) (ha : AM X [e] ms)
    (hbase : attributeBase o "split" X.env (eval o X.env) = eval o X.env := by rfl)
    (hfew : ((backTo cpos (starEach [e] X.env)).all (fun x => !x.1) && (backToKw cpos (keywordEach [] X.env)).all (fun x => x.1.isSome)
      && decide ([e].length + ([] : List Keyword).length + (if ([] : List Keyword).isEmpty then 0 else 1) < 30)) = true := by rfl)
    (hline : (apos.endLine == cpos.line) = true := by rfl) (hs : starEach [e] X.env = (false, eval e X.env) :: starEach [] X.env := by rfl) (hplain : (backTo cpos (starEach [] X.env)).any (·.1) = false := by rfl) :
    NM X (.Call (.Attribute o "split" apos) [e] [] cpos) (mSplit m ms) := by
  refine ⟨fun ρ k k' w q => ho.mono ρ _ _ (fun d ρ1 q1 => ?_) q, pe_weak (pe_bm PySem.F.plainAttrs_str PySem.F.slot_str_split PySem.F.type_str_split mt_split ho.run ha.run hbase hfew hline hs hplain) ?_⟩
  · cases d <;> first | exact q1.elim | skip
    exact ha.mono ρ1 _ _ (fun ds ρ2 ⟨b, e2, e3, e4, q2⟩ => ⟨b, e2, e3, e4, w _ _ q2⟩) q1
  · rintro σ H Q ⟨G, loc, ρ, R, q⟩
    refine ⟨G, loc, ρ, R, ho.mono ρ _ _ (fun d ρ1 q1 v H1 R1 g1 d1 => ?_) q⟩
    cases d <;> first | exact (show False from q1).elim | skip
    cases d1
    refine ⟨rfl, G, loc, ρ1, R1, ha.mono ρ1 _ _ (fun ds ρ2 q2 vs H2 R2 g2 d2 => ?_) q1⟩
    obtain ⟨b, rfl, e3, e4, q3⟩ := q2
    obtain ⟨u, rfl, du⟩ := dx_one d2
    cases du
    refine ⟨_, b, rfl, rfl, e3, e4, fun p hp => ?_⟩
    obtain ⟨a1, a2, a3, a4, a5, a6⟩ := new_list R2 (dx_strs (Txt.split _ b)) hp
    exact q3 p _ _ a1 a2 a3 a4 ((g1.trans g2).trans a5) a6
end
end DL

/-! a, *b = a list; list.index; len of a set comprehension. -/
namespace DL
open PySem PySem.Spec PyProof.Rows L2

section
variable {prog : Program} {w : World} {A : Around} {E : Value → Shared → Prop} {s : Shared}
theorem draw_listOne {it l : Addr} {items : Array Value} {x : Value} {Q : List Value → Shared → Prop} (hit : s.heap.IsListIter it l 0) (hl : s.heap.IsList l items) (h0 : items[0]? = some x)
    (hQ : ∀ h', h'.IsListIter it l 1 → Heap.SameBut it s.heap h' → Q [x] { s with heap := h' }) : wpAny (model prog w) A (draw (.ref it) 1) Q E s := by
  show wpAny _ _ (pyNext (.ref it) >>= _) Q E s
  refine wpAny_bind (wpAny_pyNext_list_item hit hl h0 fun h1 hit1 hs1 => ?_)
  exact wpAny_bind (wpAny_holding (wpAny_pure (wpAny_pure (hQ h1 hit1 hs1))))
theorem star_oneL {t : Addr} {items : Array Value} {x : Value} {Q : List Value → Shared → Prop} (hh : A.handled = none) (ht : s.heap.IsList t items) (h0 : items[0]? = some x) (hz : items.size ≤ sizeLine)
    (hQ : ∀ (h' : Heap) (tk : Nat), (∀ b o, b ≠ s.heap.objs.size → s.heap.get? b = some o → h'.get? b = some o) → Q [x, .ref h'.objs.size] { s with heap := h'.push { cls := .type "list", data := .seq (items.toList.drop 1).toArray }, toks := tk }) :
    wpAny (model prog w) A (unpackItems (.ref t) 2 (some 1)) Q E s := by
  have hlt : t ≠ s.heap.objs.size := by obtain ⟨o, ho, _⟩ := ht; exact Nat.ne_of_lt (Heap.lt_size ho)
  have hs1 : 1 ≤ items.size := by
    have := (Array.getElem?_eq_some_iff.mp h0).1
    omega
  unfold unpackItems
  refine wpAny_bind ?_
  unfold notIterableAtAll
  refine wpAny_bind (wpAny_specialOf ht.typeIs slot_list_iter.lookup ?_)
  refine wpAny_pure ?_
  simp only [Bool.false_eq_true, if_false]
  refine wpAny_bind (wpAny_holding (wpAny_pyIter_list ht ?_))
  refine wpAny_bind (wpAny_holding (draw_listOne (items := items) (x := x) ⟨_, Heap.get?_push_size _ rfl, rfl, rfl⟩ (ht.push _) h0 fun h₁ hit₁ hs₁ => ?_))
  have ht₁ : h₁.IsList t items := (ht.push _).extBut hs₁.extBut hlt
  obtain ⟨oi, hoi, _⟩ := id hit₁
  obtain ⟨ol, hol, _⟩ := id ht₁
  show wpAny _ _ (if ([x] : List Value).length < 1 then _ else _) _ _ _
  rw [if_neg (by simp)]
  refine wpAny_bind (wpAny_holding (PySem.W.kun_collect (s := { s with heap := h₁ }) (T := "list_iterator") (.inr (.inr (.inl rfl))) (Walks.list (A := A.in1) hh s.heap.objs.size t hlt items) (fun j u st => st.1.typeIs) (k := 1) hs1 ⟨hit₁, ht₁⟩ (Heap.lt_size hoi) (Heap.lt_size hol) (fun h₂ tk hk => ?_) hz))
  show wpAny _ _ (if (items.toList.drop 1).length < 0 then _ else _) _ _ _
  rw [if_neg (by omega)]
  show wpAny _ _ (newList ((items.toList.drop 1).take ((items.toList.drop 1).length - 0)) >>= fun d => pure ([x] ++ [d] ++ (items.toList.drop 1).drop ((items.toList.drop 1).length - 0))) _ _ _
  rw [Nat.sub_zero, List.take_length, List.drop_length]
  refine wpAny_bind (wpAny_newObj_type (wpAny_pure ?_) (by show (items.toList.drop 1).toArray.size ≤ sizeLine; simp; omega))
  exact hQ h₂ tk fun b o hb e => hk b o hb (hs₁.extBut b o hb (Heap.get?_push_of_some _ e))
end
def tStarL (K : PySem.W.Frag) (i j : Nat) (te : TE) : TS := fun D σ H => te σ H fun v H1 => ∃ a x xs, v = .ref a ∧ SqL K H1 a (x :: xs) ∧ ∀ p, H1 p = Option.none → D.nx ((σ.set i (some x)).set j (some (.ref p))) (upd H1 p (.lst xs))
theorem ps_starL {X : Cx} {i j : Nat} {x y : Str} {e : Expr} {te : TE} {px py sy tpos pos : Pos} {kt : Nat} (hc : X.calm = true) (hN : X.N.Nodup) (hi : X.N[i]? = some x) (hj : X.N[j]? = some y) (hx : Loc X.env.scope x) (hy : Loc X.env.scope y) (he : PE X e te)
    (hfx : X.fn x = true ∨ X.env.scope.names.lookup x = some .local := by first | exact .inl rfl | exact .inr rfl) (hfy : X.fn y = true ∨ X.env.scope.names.lookup y = some .local := by first | exact .inl rfl | exact .inr rfl)
    (hs : swapsWithSole [.Tuple [.Name x px, .Starred (.Name y py) sy] kt tpos] e pos.line X.env = pure false := by rfl) (hw : swappedStores [.Tuple [.Name x px, .Starred (.Name y py) sy] kt tpos] e X.env = pure none := by rfl)
    (h1 : (assignEach [.Tuple [.Name x px, .Starred (.Name y py) sy] kt tpos] X.env).map (·.2) = [assign (.Tuple [.Name x px, .Starred (.Name y py) sy] kt tpos) X.env] := by rfl)
    (h2 : assignEach [.Name x px, .Starred (.Name y py) sy] X.env = [(false, assign (.Name x px) X.env), (true, assign (.Name y py) X.env)] := by rfl) :
    PS X (.Assign [.Tuple [.Name x px, .Starred (.Name y py) sy] kt tpos] e pos) (tStarL X.K i j te) := by
  refine ⟨fun pins s σ H D I h => ?_⟩
  refine wpAny_Assign_stores (thn (he.run pins s σ H _ I h) fun v s1 ⟨u, H1, I1, r1, a, x0, xs, eu, hq, q⟩ => ?_) hs hw
  subst eu
  cases r1
  rw [h1]
  show wpAny _ _ (assign (.Tuple [.Name x px, .Starred (.Name y py) sy] kt tpos) X.env (.ref a)) _ _ _
  obtain ⟨its, rv, pl, hz⟩ := I1.list hq
  have ht := pl.isList
  cases rv with
  | cons r rr =>
    rename_i u us
    rw [assign_Tuple]
    refine wpAny_bind (wpAny_standAt ?_)
    unfold unpack
    rw [h2]
    have hl := rr.length
    refine wpAny_bind (wpAny_holding (star_oneL (I1.ok.hd hc) ht (x := u) (by simp) (by simp; simp at hz; omega) fun h' tk hk => ?_))
    have I2 : L2.Inv X pins σ H1 { s1 with heap := h', toks := tk } := I1.kept (t' := tk) fun b o e => hk b o (Nat.ne_of_lt (Heap.lt_size e)) e
    have hn : H1 h'.objs.size = Option.none := I2.hok.fresh (Nat.le_refl _)
    have I3 : L2.Inv X pins σ (upd H1 h'.objs.size (.lst xs)) { s1 with heap := h'.push { cls := .type "list", data := .seq us.toArray }, toks := tk } := I2.lnew (t' := tk) rr (by simp at hz; omega)
    have e3 : ((u :: us).toArray.toList.drop 1).toArray = us.toArray := by simp
    rw [e3]
    show wpAny _ _ (assignInOrder [assign (.Name x px) X.env, assign (.Name y py) X.env] [u, .ref h'.objs.size]) _ _ _
    refine assignInOrder_cons (wpAny_assign_Name (store_ok I3 hN hi hx r (fun s4 I4 => ?_) hfx))
    refine assignInOrder_cons (wpAny_assign_Name (store_ok (v := V.ref h'.objs.size) I4 hN hj hy rfl (fun s5 I5 => ?_) hfy))
    exact assignInOrder_nil ⟨_, _, I5, q _ hn⟩
def sStarL (i j : Nat) (m : M D) : SMon := fun k ρ => m ρ fun d ρ1 => match d with
  | .list (x :: xs) => k.nx ((ρ1.set i (.dat x)).set j (.own false xs))
  | _ => False
theorem sm_starL {X : Cx} {i j : Nat} {x y : Str} {e : Expr} {m : M D} {px py sy tpos pos : Pos} {kt : Nat} (hc : X.calm = true) (hN : X.N.Nodup) (hi : X.N[i]? = some x) (hj : X.N[j]? = some y) (hx : Loc X.env.scope x) (hy : Loc X.env.scope y) (he : EM X e m)
    (hfx : X.fn x = true ∨ X.env.scope.names.lookup x = some .local := by first | exact .inl rfl | exact .inr rfl) (hfy : X.fn y = true ∨ X.env.scope.names.lookup y = some .local := by first | exact .inl rfl | exact .inr rfl)
    (hs : swapsWithSole [.Tuple [.Name x px, .Starred (.Name y py) sy] kt tpos] e pos.line X.env = pure false := by rfl) (hw : swappedStores [.Tuple [.Name x px, .Starred (.Name y py) sy] kt tpos] e X.env = pure none := by rfl)
    (h1 : (assignEach [.Tuple [.Name x px, .Starred (.Name y py) sy] kt tpos] X.env).map (·.2) = [assign (.Tuple [.Name x px, .Starred (.Name y py) sy] kt tpos) X.env] := by rfl)
    (h2 : assignEach [.Name x px, .Starred (.Name y py) sy] X.env = [(false, assign (.Name x px) X.env), (true, assign (.Name y py) X.env)] := by rfl) :
    SM X (.Assign [.Tuple [.Name x px, .Starred (.Name y py) sy] kt tpos] e pos) (sStarL i j m) := by
  refine ⟨fun k k' ρ l q => he.mono ρ _ _ (fun d ρ1 q1 => by
    cases d <;> first | exact q1.elim | skip
    rename_i ds
    cases ds with
    | nil => exact q1.elim
    | cons a r => exact l.nx _ q1) q, ps_weak (ps_starL hc hN hi hj hx hy he.run hfx hfy hs hw h1 h2) ?_⟩
  rintro E σ H ⟨G, loc, ρ, k, R, q, l1, l2, l3, l4⟩
  refine ⟨G, loc, ρ, R, he.mono ρ _ _ (fun d ρ1 q1 v H1 R1 g1 d1 => ?_) q⟩
  cases d <;> first | exact (show False from q1).elim | skip
  rename_i ds
  cases ds with
  | nil => exact (show False from q1).elim
  | cons b r =>
    obtain ⟨a, xs, rfl, z1, z2, da⟩ := d1.sql
    have e1 : SqL X.K H1 a xs := .inl (.inl z1)
    cases da with
    | cons dv dr =>
      rename_i v vs
      refine ⟨a, v, vs, rfl, e1, fun p hp => ?_⟩
      have R2 := R1.put i dv
      obtain ⟨a1, a2, a3, a4, a5, a6⟩ := new_list R2 (dr.weak fun b z => Fb_put (by intro _ _ z; cases z) b z) hp
      exact l1 _ _ _ _ (a4.putN R.bwS a1 a2 j a3 a6) ((g1.trans put_grow).trans (a5.weak fun b z => Fb_putN b z)) q1
/-! ### list.index -/
def mIndexL (m : M D) (ms : M (List D)) : M D := fun ρ k => m ρ fun d ρ1 => match d with
  | .list xs => ms ρ1 fun ds ρ2 => ∃ (ys : List Str) (z : Str) (j : Nat), ds = [.str z] ∧ strsOf xs = some ys ∧ ys[j]? = some z ∧ (∀ (m : Nat) (y : Str), m < j → ys[m]? = some y → (y == z) = false) ∧ k (.int (j : Nat)) ρ2
  | _ => False
section
variable {X : Cx} {o e : Expr} {m : M D} {ms : M (List D)} {apos cpos : Pos}
theorem em_indexL (ho : EM X o m) (ha : AM X [e] ms)
    (hbase : attributeBase o "index" X.env (eval o X.env) = eval o X.env := by rfl)
    (hfew : ((backTo cpos (starEach [e] X.env)).all (fun x => !x.1) && (backToKw cpos (keywordEach [] X.env)).all (fun x => x.1.isSome)
      && decide ([e].length + ([] : List Keyword).length + (if ([] : List Keyword).isEmpty then 0 else 1) < 30)) = true := by rfl)
    (hline : (apos.endLine == cpos.line) = true := by rfl) (hs : starEach [e] X.env = (false, eval e X.env) :: starEach [] X.env := by rfl) (hplain : (backTo cpos (starEach [] X.env)).any (·.1) = false := by rfl) :
    EM X (.Call (.Attribute o "index" apos) [e] [] cpos) (mIndexL m ms) := by
  refine ⟨fun ρ k k' w q => ho.mono ρ _ _ (fun d ρ1 q1 => ?_) q, pe_weak (pe_bm PySem.F.plainAttrs_list PySem.F.slot_list_index PySem.F.type_list_index mt_index ho.run ha.run hbase hfew hline hs hplain) ?_⟩
  · cases d <;> first | exact q1.elim | skip
    exact ha.mono ρ1 _ _ (fun ds ρ2 ⟨ys, z, j, e1, e2, e3, e4, q2⟩ => ⟨ys, z, j, e1, e2, e3, e4, w _ _ q2⟩) q1
  · rintro σ H Q ⟨G, loc, ρ, R, q⟩
    refine ⟨G, loc, ρ, R, ho.mono ρ _ _ (fun d ρ1 q1 v H1 R1 g1 d1 => ?_) q⟩
    cases d <;> first | exact (show False from q1).elim | skip
    obtain ⟨a, xs, rfl, z1, z2, da⟩ := d1.sql
    refine ⟨.inl ⟨rfl, xs, .inl (.inl z1)⟩, G, loc, ρ1, R1, ha.mono ρ1 _ _ (fun ds ρ2 q2 vs H2 R2 g2 d2 => ?_) q1⟩
    obtain ⟨ys, z, j, rfl, e2, e3, e4, q3⟩ := q2
    obtain ⟨u, rfl, du⟩ := dx_one d2
    cases du
    rw [strsOf_eq e2] at da
    have ev := da.strs
    subst ev
    obtain ⟨z3, z4⟩ := g2 a _ z1 z2
    refine ⟨a, ys.map V.str, .str z, j, .str z, rfl, rfl, .inl (.inl z3), rfl, ?_, ?_, ?_, ?_, q3 _ _ R2 (g1.trans g2) (.int _)⟩
    · rw [List.all_eq_true]
      intro y hy
      obtain ⟨w, _, rfl⟩ := List.mem_map.mp hy
      rfl
    · rw [List.getElem?_map, e3]; rfl
    · show (z == z) = true
      exact beq_self_eq_true z
    · intro n y' hn hy
      rw [List.getElem?_map] at hy
      cases hc : ys[n]? with
      | none => rw [hc] at hy; cases hy
      | some y =>
        rw [hc] at hy
        cases hy
        exact e4 n y hn hc
end
end DL

/-! len of a set comprehension of texts. -/
namespace DL
open PySem PySem.Spec PyProof.Rows L2
def rLenW (w : World) : List V → Hp → VK → Prop := fun vs H Q => ∃ (a : Addr) (xs : List Str), vs = [V.ref a] ∧ H a = some (SetWO w a (xs.map Sum.inr)) ∧ Q (.int (xs.length : Nat)) H
theorem cr_lenW {X : Cx} : CallR X (.builtin "len") (rLenW X.w) := by
  intro pins s σ H xs us Q I r h
  obtain ⟨a, ys, rfl, ha, q⟩ := h
  obtain ⟨u, rfl, r1⟩ := vals1 r
  cases r1
  obtain ⟨o, es, ep, t, ho, hex, hd, _, pm, _, sz, fit, _, _⟩ := setWO_get I ha
  have le : es.size = ys.length := by
    have := pm.length_eq
    simpa using this
  have hb : scanBound ≤ 2 ^ 40 := by decide
  exact call_len_set ho hex hd fit (by omega) ⟨.int _, H, I.tok _, ⟨_, by rw [le]⟩, q⟩
def mLenSc (mi : M (List D)) (g : GMn) (tt : M Bool) (te : M D) (vs : List Nat) : M D := fun ρ k => mi ρ fun ds ρ1 => scLoop g tt te vs (fun acc ρ' => k (.int (acc.length : Nat)) ρ') ds [] (wipeS ρ1 vs)
theorem mono_lsc {mi : M (List D)} {g : GMn} {tt : M Bool} {te : M D} {vs : List Nat} (hi : Mono mi) (hg : ∀ d ρ (k k' : List Slot → Prop), (∀ ρ', k ρ' → k' ρ') → g d ρ k → g d ρ k') (ht : Mono tt) (he : Mono te) : Mono (mLenSc mi g tt te vs) :=
  fun ρ k k' w q => hi ρ _ _ (fun ds ρ1 q1 => mono_scLoop hg ht he (fun a ρ q2 => w _ _ q2) ds _ _ q1) q
theorem lsc_meets {P : Program} {w : World} {K : PySem.W.Frag} {mi : M (List D)} {g : GMn} {tt : M Bool} {te : M D} {vs : List Nat} (hi : Mono mi) (hg : ∀ d ρ (k k' : List Slot → Prop), (∀ ρ', k ρ' → k' ρ') → g d ρ k → g d ρ k') (ht : Mono tt) (he : Mono te)
    {σ : L2.St} {H : Hp} {Q : VK} (h : TEof K (mLenSc mi g tt te vs) σ H Q) : tCB (rLenW w) (tCons (tSetW (wayW P w) (TIof K mi) (TGof K vs g) (TTof K tt) (TEof K te) vs) tNil) σ H Q := by
  obtain ⟨G, loc, ρ, R, q⟩ := h
  refine ⟨G, loc, ρ, R, hi ρ _ _ (fun ds ρ1 q1 J H1 R1 g1 gv D hD => ?_) q⟩
  obtain ⟨h0, np, RD, gD⟩ := new_any (o := SetWO w D []) R1 hD
  have bs := R.bwS
  let KK : List Str → List Slot → Prop := fun acc ρ' => ∀ v H', Rep K G ρ' loc σ H' → Grow (Fb G.fb ρ loc) (Fb G.fb ρ' loc) H H' → Dx K H' (Fb G.fb ρ' loc) v (.int (acc.length : Nat)) → Q v H'
  refine ⟨fun i m H2 => ∃ ρ2 acc, m = ds.length - i ∧ Rep K (G.plus D) ρ2 loc (wipe σ vs) H2 ∧ H2 D = some (SetWO w D (acc.map Sum.inr)) ∧ Grow (Fb G.fb ρ1 loc) (Fb (G.plus D).fb ρ2 loc) H1 H2 ∧ scLoop g tt te vs KK (ds.drop i) acc ρ2,
    ⟨_, wipeS ρ1 vs, [], rfl, RD.wipe (wipe_wipe σ vs).symm, upd_same, gD.weak fun b z => Fb_wipe b z, by simpa using q1⟩, ?_⟩
  rintro i m H2 ⟨ρ2, acc, hm, R2, e2, g2, q2⟩
  obtain ⟨gv1, gv2⟩ := gv i _ H2 g2 R2.fbE
  cases hd : ds[i]? with
  | none =>
    have hl : ds.length ≤ i := List.getElem?_eq_none_iff.mp hd
    rw [List.drop_eq_nil_of_le hl] at q2
    have q3 : KK acc (wipeS ρ2 vs) := q2
    refine .inl ⟨gv2 hl, D, acc, rfl, e2, ?_⟩
    obtain ⟨R3, n3⟩ := R2.unplus bs np
    have R4 := R3.wipe (vs := vs) (wipe_wipe σ vs)
    have g3 : Grow (Fb G.fb ρ1 loc) (Fb G.fb (wipeS ρ2 vs) loc) H1 H2 := g2.weak fun b z => by
      rcases Fb_wipe b z with z' | z'
      · exact .inl (.inl z')
      · exact .inr z'
    exact q3 _ H2 R4 (g1.trans g3) (.int _)
  | some d =>
    obtain ⟨hl, hd'⟩ := List.getElem?_eq_some_iff.mp hd
    have e : ds.drop i = d :: ds.drop (i + 1) := by rw [← hd']; exact List.drop_eq_getElem_cons hl
    rw [e] at q2
    obtain ⟨go, yl⟩ := gv1 d hd
    refine .inr ⟨go, fun H3 => ∃ ρ3 acc, Rep K (G.plus D) ρ3 loc (wipe σ vs) H3 ∧ H3 D = some (SetWO w D (acc.map Sum.inr)) ∧ Grow (Fb G.fb ρ1 loc) (Fb (G.plus D).fb ρ3 loc) H1 H3 ∧ scLoop g tt te vs KK (ds.drop (i + 1)) acc ρ3,
      fun H3 ⟨ρ3, acc, a1, a2, a4, a5⟩ => ⟨_, by omega, ρ3, acc, rfl, a1, a2, a4, a5⟩, fun x H3 y3 => ?_⟩
    obtain ⟨m3, d3⟩ := yl x H3 y3
    have R3 := (R2.more m3).pin (m3 _ _ e2)
    refine ⟨G.pin D (SetWO w D (acc.map Sum.inr)), loc, ρ2, d, R3, d3, hg _ _ _ _ (fun ρ4 q4 σ4 H4 R4 g4 w4 => ⟨w4.trans (wipe_wipe σ vs), ?_⟩) q2⟩
    refine ⟨G.pin D (SetWO w D (acc.map Sum.inr)), loc, ρ4, R4, ht _ _ _ (fun b ρ5 q5 H5 R5 g5 => ?_) q4⟩
    have w4' : L2.wipe σ4 vs = L2.wipe (L2.wipe σ vs) vs := w4
    have g25 : Grow (Fb (G.plus D).fb ρ2 loc) (Fb (G.plus D).fb ρ5 loc) H2 H5 := (more_grow m3).trans (g4.trans g5)
    cases b with
    | false =>
      rw [if_neg Bool.false_ne_true] at q5
      show if false = true then _ else _
      rw [if_neg Bool.false_ne_true]
      obtain ⟨R6, e6⟩ := R5.unpin h0 fun z => np (bs _ z)
      exact ⟨wipeS ρ5 vs, acc, R6.wipe w4', e6, (g2.trans g25).weak fun b z => Fb_wipe b z, q5⟩
    | true =>
      rw [if_pos rfl] at q5
      show if true = true then _ else _
      rw [if_pos rfl]
      refine ⟨G.pin D (SetWO w D (acc.map Sum.inr)), loc, ρ5, R5, he _ _ _ (fun y ρ6 ⟨z, ey, hz, q6⟩ v H6 R6 g6 d6 => ?_) q5⟩
      have g26 : Grow (Fb (G.plus D).fb ρ2 loc) (Fb (G.plus D).fb ρ6 loc) H2 H6 := g25.trans g6
      obtain ⟨R7, e7⟩ := R6.unpin h0 fun z => np (bs _ z)
      obtain ⟨R8, g8⟩ := R7.wrP (o := SetWO w D ((insS z acc).map Sum.inr)) h0 np bs
      subst ey
      cases d6
      refine ⟨acc.map Sum.inr, (insS z acc).map Sum.inr, e7, ⟨.inr z, rfl, (ins_inr z acc).symm, by rw [List.length_map]; exact hz⟩, wipeS ρ6 vs, insS z acc, R8.wipe w4', upd_same, ((g2.trans g26).trans g8).weak fun b z => Fb_wipe b z, q6⟩
section
variable {X : Cx} {elt tg iter : Expr} {ifs : List Expr} {scope : Scope} {pos cpos p : Pos} {mi : M (List D)} {g : GMn} {tt : M Bool} {te : M D}
theorem em_lenSc (own : List (Str × Nat)) (hm : X.mg "len" = none) (hc : X.calm = true) (hN : X.N.Nodup) (hi : IM X tg iter mi) (ok : blkC X.N X.env.scope scope own = true)
    (hg : ∀ (s : Shared) (H : Hp) (C : Addr) (cl : List (Str × Addr)) (fp : List Addr), GM (X.blk s H scope (compEnvC scope cl C X.env) fp) (own.map (·.2)) tg g)
    (ht : ∀ (s : Shared) (H : Hp) (C : Addr) (cl : List (Str × Addr)) (fp : List Addr), TsM (X.blk s H scope (compEnvC scope cl C X.env) fp) ifs tt)
    (he : ∀ (s : Shared) (H : Hp) (C : Addr) (cl : List (Str × Addr)) (fp : List Addr), EM (X.blk s H scope (compEnvC scope cl C X.env) fp) elt te) (hgl : Gl X "len" := by rfl) (hs : ∀ x, foldedSetIterable iter X.env x = pure x := by intro _; rfl)
    (h1 : starEach [.SetComp elt [⟨tg, iter, ifs, 0⟩] scope pos] X.env = [(false, eval (.SetComp elt [⟨tg, iter, ifs, 0⟩] scope pos) X.env)] := by rfl) (hpl : (backTo cpos (starEach [] X.env)).any (·.1) = false := by rfl) :
    EM X (.Call (.Name "len" p) [.SetComp elt [⟨tg, iter, ifs, 0⟩] scope pos] [] cpos) (mLenSc mi g tt te (own.map (·.2))) := by
  have z1 := (hg X.s_0 X.H_0 0 [] []).mono
  have z2 := (ht X.s_0 X.H_0 0 [] []).mono
  have z3 := (he X.s_0 X.H_0 0 [] []).mono
  refine ⟨mono_lsc hi.mono z1 z2 z3, pe_weak (pe_callB (cr_lenW) hgl hm (by decide +kernel) (pa_cons (pe_setW (wayW X.prog X.w) (wi := TIof X.K mi) (g := TGof X.K (own.map (·.2)) g) (tt := TTof X.K tt) (te := TEof X.K te) hc hN hi.run (blkOk_by ok) (fun s H C cl fp => (hg s H C cl fp).run) (fun s H C cl fp => (ht s H C cl fp).run) (fun s H C cl fp => (he s H C cl fp).run) hs) pa_nil h1) (by decide) (by decide) h1 hpl) fun σ H Q h => lsc_meets hi.mono z1 z2 z3 h⟩
end
end DL

/-! "..".replace("..", ".."), all written. -/
namespace DL
open PySem PySem.Spec PyProof.Rows L2
section
variable {X : Cx} {a y z : Str} {j0 j1 j2 : Nat} {p0 p1 p2 apos pos : Pos}
theorem em_replC (hyz : (y == z) = false) (hl : a.length + (a.length + 1) * z.length ≤ 16777216)
    (hst : starEach [.Constant (.str y) j1 p1, .Constant (.str z) j2 p2] X.env = [(false, eval (.Constant (.str y) j1 p1) X.env), (false, eval (.Constant (.str z) j2 p2) X.env)] := by rfl)
    (hbase : attributeBase (.Constant (.str a) j0 p0) "replace" X.env (eval (.Constant (.str a) j0 p0) X.env) = eval (.Constant (.str a) j0 p0) X.env := by rfl) (hline : (apos.endLine == pos.line) = true := by rfl) :
    EM X (.Call (.Attribute (.Constant (.str a) j0 p0) "replace" apos) [.Constant (.str y) j1 p1, .Constant (.str z) j2 p2] [] pos) (mPure (.str (Txt.replace a y z))) := by
  refine em_c (v := .str (Txt.replace a y z)) ⟨fun pins s σ H Q I h => ?_⟩ fun _ _ => .str _
  refine PySem.Call_method2 hbase hst hline (Calls.Constant_str ?_)
  refine ⟨"str", _, F.plainAttrs_str, F.slot_str_replace, F.type_str_replace, typeIs_str _ _ _, (fun _ e => nomatch e), Calls.callWith_builtin rfl (Calls.evalArgs_plain (Calls.spliced_cons ?_))⟩
  refine Calls.Constant_str ?_
  refine Calls.spliced_cons (Calls.Constant_str ?_)
  refine Calls.spliced_nil ?_
  refine PySem.SC.replace ?_ ?_ ?_ hyz hl fun t' k => ⟨.str (Txt.replace a y z), H, I.tok k, ⟨t', rfl⟩, h⟩
  · exact Nat.succ_ne_zero s.toks
  · exact Nat.succ_ne_zero (s.toks + 1)
  · exact Nat.ne_of_lt (Nat.lt_succ_self (s.toks + 1))
end
end DL

/-! f(e, .., nm=e'), f a def of the text. -/
namespace DL
open PySem PySem.Spec PyProof.Rows L2
def mFnK (n : Nat) (F : FS) (m : M (List D)) (m' : M D) : M D := fun ρ k => m ρ fun ds ρ1 => m' ρ1 fun d ρ2 => (ds ++ [d]).length = n ∧ F (ds ++ [d]) fun _ r => k r ρ2
/-- how its arguments bind: j by place, the last one by name -/
def BindsK (K : PySem.W.Frag) (fd : FuncData) (ps : List Str) (nm : Str) : Prop := ∀ (s : Shared) (us : List Value) (w : Value), K.In s.heap → (us ++ [w]).length = ps.length → BindsTo s fd ⟨us, [(nm, w)]⟩ (ps.zip (us ++ [w]))
section
variable {X : Cx} {k n : Nat} {f : Addr} {fd : FuncData} {ps : List Str} {x nm : Str} {p pos kpos : Pos} {e e' : Expr} {es : List Expr} {m : M (List D)} {m' : M D} {F : FS}
theorem em_fnK (G : FnG X.prog X.w X.K X.mg X.base CX0 k f fd ps (sp0 X.K n F)) (mF : PmS F) (hr : Rm k X.A) (hg : Gl X x) (hm : X.mg x = some (.ref f)) (hk : PySem.W.keepIn X.K (.ref f) = true) (hb : BindsK X.K fd ps nm)
    (ha : AM X (e :: es) m) (hc : EM X e' m') (hdb : (x == ("__debug__" : Str)) = false := by decide)
    (he : starEach (e :: es) X.env = (false, eval e X.env) :: starEach es X.env := by rfl)
    (hpl : ((backTo pos (starEach (e :: es) X.env)).any (·.1) || (backToKw pos (keywordEach [⟨some nm, e', kpos⟩] X.env)).any (·.1.isNone)) = false := by rfl)
    (hall : (backToKw pos (keywordEach [⟨some nm, e', kpos⟩] X.env)).all (·.1.isSome) = true := by rfl) (hks : (backToKw pos (keywordEach [⟨some nm, e', kpos⟩] X.env)).filterMap (·.1) = [nm] := by rfl) :
    EM X (.Call (.Name x p) (e :: es) [⟨some nm, e', kpos⟩] pos) (mFnK n F m m') := by
  refine ⟨fun ρ k k' w q => ha.mono ρ _ _ (fun ds ρ1 q1 => hc.mono ρ1 _ _ (fun d ρ2 q2 => ⟨q2.1, mF _ _ _ (fun b d q3 => w _ _ q3) q2.2⟩) q1) q, ⟨?_⟩⟩
  intro pins s σ H Q I h
  obtain ⟨G', loc, ρ, R, q⟩ := h
  refine wpAny_Call_Name_kw (ld_glob I hg hm ?_ hdb)
  refine PySem.W.callWith_KW (h₀ := X.base) I.ok.mod.kin hk hall ?_ hpl he
  refine thn (ha.run.run pos pins s σ H (fun vs H1 => ∃ (ρ1 : List Slot) (ds : List D), Rep X.K G' ρ1 loc σ H1 ∧ Grow (Fb G'.fb ρ loc) (Fb G'.fb ρ1 loc) H H1 ∧ DxAll X.K H1 (Fb G'.fb ρ1 loc) vs ds ∧
      m' ρ1 fun d ρ2 => (ds ++ [d]).length = n ∧ F (ds ++ [d]) fun _ r => (fun r ρ' => ∀ v H', Rep X.K G' ρ' loc σ H' → Grow (Fb G'.fb ρ loc) (Fb G'.fb ρ' loc) H H' → Dx X.K H' (Fb G'.fb ρ' loc) v r → Q v H') r ρ2) I
    ⟨G', loc, ρ, R, ha.mono ρ _ _ (fun ds ρ1 q1 vs H1 R1 g1 d1 => ⟨ρ1, ds, R1, g1, d1, q1⟩) q⟩) ?_
  rintro us s1 ⟨vs, H1, I1, r1, ρ1, ds, R1, g1, d1, q1⟩
  refine thn ((pk_cons hc.run pk_nil).run pos pins s1 σ H1 (fun zs H2 => ∃ (ρ2 : List Slot) (d : D) (z : V), zs = [z] ∧ Rep X.K G' ρ2 loc σ H2 ∧ Grow (Fb G'.fb ρ1 loc) (Fb G'.fb ρ2 loc) H1 H2 ∧ Dx X.K H2 (Fb G'.fb ρ2 loc) z d ∧
      ((ds ++ [d]).length = n ∧ F (ds ++ [d]) fun _ r => ∀ v H', Rep X.K G' ρ2 loc σ H' → Grow (Fb G'.fb ρ loc) (Fb G'.fb ρ2 loc) H H' → Dx X.K H' (Fb G'.fb ρ2 loc) v r → Q v H')) I1
    ⟨G', loc, ρ1, R1, hc.mono ρ1 _ _ (fun d ρ2 q2 z H2 R2 g2 d2 => ⟨ρ2, d, z, rfl, R2, g2, d2, q2⟩) q1⟩) ?_
  rintro ws s2 ⟨zs, H2, I2, r2, ρ2, d, z, rfl, R2, g2, d2, q2⟩
  refine ⟨I2.kIn, ?_⟩
  obtain ⟨wv, rfl, rw1⟩ := vals1 r2
  rw [hks]
  have dall : DxAll X.K H2 (Fb G'.fb ρ2 loc) (vs ++ [z]) (ds ++ [d]) := (d1.g g2).append (.cons d2 .nil)
  have rel : Vals (vs ++ [z]) (us ++ [wv]) := r1.append (.cons rw1 .nil)
  have prom : sp0 X.K n F (vs ++ [z]) H2 Q (fun _ _ _ => False) := ⟨Fb G'.fb ρ2 loc, ds ++ [d], R2.fbE, dall, q2.1, mF _ _ _ (fun b r q3 v H3 m3 d3 _ => q3 v H3 (R2.more m3) ((g1.trans g2).trans (more_grow m3)) d3) q2.2⟩
  have many : (us ++ [wv]).length = ps.length := rel.length.symm.trans (G.len _ _ _ _ prom)
  refine wpAny_call (codeAny_mono (G.run X.A X.stack s2 H2 ⟨us, [(nm, wv)]⟩ (us ++ [wv]) (vs ++ [z]) Q _ hr I2.env0 (hb s2 us wv I2.kIn many) rel prom) ?_)
  intro out s' got
  match out, got with
  | .error err, got => exact (show False from got).elim
  | .ok (.ret u), got => exact I2.after got
  | .ok .next, got => exact got.elim
  | .ok .brk, got => exact got.elim
  | .ok .cont, got => exact got.elim
end
end DL

/-! An exception class of the text, out of what is written of it. -/
namespace DL
open PySem PySem.Spec PyProof.Rows L2
/-- a class's first def -/
def clsInit (s : Stmt) : Stmt := match s with
  | .ClassDef _ _ _ body _ _ _ _ _ _ _ => body.getD 0 (.Pass ⟨0, 0, 0, 0⟩)
  | s => s
theorem exm_own {K : PySem.W.Frag} {S : Addr} (h1 : PySem.W.subIn K (.ref S) (.type "BaseException") = some true) (h2 : PySem.W.isClsIn K S = true) (h3 : PySem.W.typeIn K (.ref S) = some (.type "type")) (h4 : PySem.W.subIn K (.ref S) (.ref S) = some true) :
    PySem.W.exmOne K (.ref S) (.ref S) = some true := by
  have h2' : (PySem.W.clsIn K S).isSome = true := h2
  unfold PySem.W.exmOne PySem.W.kitCls
  simp [h1, h2', h3, h4]
theorem xcls_of {K : PySem.W.Frag} {mg : Str → Option Value} {x qual nm q : Str} {C fI N : Addr} {fd : FuncData} {st : Stmt} {bs : List Value} {sn : List Str} {sub : List Value} {ab : Bool} {col : Option Bool} {dd : Option Addr} {m0 m1 m2 m3 m5 : Option Value}
    (aC : FnAt K x C) (gC : mg x = some (.ref C)) (xL : K.lookup C = some (excClassObj nm q C N bs [.type "ValueError", .type "Exception", .type "BaseException", .type "object"] true sn sub ab col dd m0 m1 m2 m3 m5 "ValueError.__new__"))
    (sa : PySem.W.findIn K (.ref C) "__setattr__" = some (some (.builtin "object.__setattr__"))) (ga : PySem.W.findIn K (.ref C) "__getattribute__" = some (some (.builtin "BaseException.__getattribute__"))) (gg : PySem.W.findIn K (.ref C) "__getattr__" = some none)
    (nb : PySem.W.findIn K (.ref C) "what" = some none) (a1 : PySem.W.findIn K (.ref C) "__init__" = some (some (.ref fI))) (t1 : PySem.W.typeIn K (.ref fI) = some (.type "function"))
    (kC : PySem.W.keepIn K (.ref C) = true) (eC : PySem.W.subIn K (.ref C) (.type "BaseException") = some true) (tC : PySem.W.typeIn K (.ref C) = some (.type "type")) (hC : PySem.W.hasDictIn K C = true) (iC : PySem.W.isClsIn K C = true) (sC : PySem.W.subIn K (.ref C) (.ref C) = some true)
    (F : Fun K "__init__" qual st fI fd) (b : Binds K fd ["self", "what"] []) (nV : mg "ValueError" = none) (vV : PySem.W.findCls K (.type "ValueError") (.type "type") "__init__" = some (.val (.builtin "ValueError.__init__"))) : XCls K mg x qual C fI fd st :=
  ⟨aC, gC, ⟨⟨nm, q, N, bs, _, sn, sub, ab, col, dd, m0, m1, m2, m3, m5, xL, by decide +kernel⟩, sa, eC, tC, kC⟩, a1, t1, nb, ⟨ga, gg, eC, hC⟩, exm_own eC iC tC sC, F, b, nV, vV⟩
/-- the __init__ of such a class, walked -/
theorem init_run {X : Cx} {p1 p2 p3 p4 p5 p6 q1 q2 q3 q4 : Pos} {k4 : Nat} {msg : Str} {pl : Sem Bool} (hg : Gl X "ValueError") (hm : X.mg "ValueError" = none) (vV : PySem.W.findCls X.K (.type "ValueError") (.type "type") "__init__" = some (.val (.builtin "ValueError.__init__")))
    (h0 : X.N[0]? = some ("self" : Str)) (h1 : X.N[1]? = some ("what" : Str)) (v0 : Vis X.env.scope "self") (v1 : Vis X.env.scope "what")
    (hc : eval (.Call (.Attribute (.Name "ValueError" p1) "__init__" p2) [.Name "self" p3, .Constant (.str msg) k4 p4] [] p5) X.env = (do
      let ov ← eval (.Name "ValueError" p1) X.env
      standAt p2.atName
      let (f, first) ← holding [ov] (getMethod ov "__init__" pl)
      callWith p5 f first (backTo p5 (starEach [.Name "self" p3, .Constant (.str msg) k4 p4] X.env)) (backToKw p5 (keywordEach [] X.env))))
    (he : starEach [.Name "self" p3, .Constant (.str msg) k4 p4] X.env = (false, eval (.Name "self" p3) X.env) :: starEach [.Constant (.str msg) k4 p4] X.env) (he2 : starEach [.Constant (.str msg) k4 p4] X.env = (false, eval (.Constant (.str msg) k4 p4) X.env) :: starEach [] X.env)
    (hpl : (backTo p5 (starEach [.Constant (.str msg) k4 p4] X.env)).any (·.1) = false)
    (hs1 : swapsWith (.Call (.Attribute (.Name "ValueError" p1) "__init__" p2) [.Name "self" p3, .Constant (.str msg) k4 p4] [] p5) none p6.line X.env = pure false) (hs2 : swapsWith (.Name "what" q3) (some (.Attribute (.Name "self" q1) "what" q2)) q4.line X.env = pure false) :
    PSs X [.Expr (.Call (.Attribute (.Name "ValueError" p1) "__init__" p2) [.Name "self" p3, .Constant (.str msg) k4 p4] [] p5) p6, .Assign [.Attribute (.Name "self" q1) "what" q2] (.Name "what" q3) q4] (tInit X.K msg) :=
  pss_cons (ps_expr (pe_veinit hg hm vV (pa_cons (pe_var h0 v0) (pa_cons pe_str pa_nil he2) he) hc he hpl) hs1) (pss_one (ps_ost (pe_var h0 v0) (pe_var h1 v1) hs2))
end DL

/-! A def that may raise and what it means, as one. -/
namespace DL
open PySem PySem.Spec PyProof.Rows L2
structure OkX (P : Program) (w : World) (K : PySem.W.Frag) (mg : Str → Option Value) (base : Heap) (k : Nat) (f : Addr) (fd : FuncData) (ps : List Str) (n : Nat) (C : Addr) (F : FX) : Prop where
  ok : FnG P w K mg base (L2.CX P w) k f fd ps (spX K n C F)
  pm : PmX F
section
variable {P : Program} {w : World} {K : PySem.W.Frag} {mg : Str → Option Value} {base : Heap} {x qual : Str} {st : Stmt} {f C : Addr} {fd : FuncData} {N ps : List Str} {k : Nat} {m1 m2 : SMon} {mt : M Bool} {mw : M (List D)} {S1 S2 : Stmt} {t fe e' : Expr} {pr pi pc : Pos}
theorem okX_of (hk : k ≤ 300) (F : Fun K x qual st f fd) (S : FnScope N ps (defScope st)) (hd : defBody st = [S1, .If t [.Raise (some (.Call fe [e'] [] pc)) none pr] [] pi, S2])
    (h1 : ∀ (cdv : Value) (A : Around) (outer : List Env) (s : Shared) (H : Hp) (E : XK), Rm k (A.deeper (envOfC qual (defScope st) s.heap.objs.size f cdv)) → SM (cxOf (L2.CX P w) P w K mg base N qual (defScope st) f cdv A outer s H E) S1 m1)
    (ht : ∀ (cdv : Value) (A : Around) (outer : List Env) (s : Shared) (H : Hp) (E : XK), Rm k (A.deeper (envOfC qual (defScope st) s.heap.objs.size f cdv)) → TM (cxOf (L2.CX P w) P w K mg base N qual (defScope st) f cdv A outer s H E) t mt)
    (hw : ∀ (cdv : Value) (A : Around) (outer : List Env) (s : Shared) (H : Hp) (E : XK), Rm k (A.deeper (envOfC qual (defScope st) s.heap.objs.size f cdv)) → PMk (cxOf (L2.CX P w) P w K mg base N qual (defScope st) f cdv A outer s H E) (.Call fe [e'] [] pc) (tMkD K C mw))
    (ha : ∀ (cdv : Value) (A : Around) (outer : List Env) (s : Shared) (H : Hp) (E : XK), Rm k (A.deeper (envOfC qual (defScope st) s.heap.objs.size f cdv)) → AM (cxOf (L2.CX P w) P w K mg base N qual (defScope st) f cdv A outer s H E) [e'] mw)
    (h2 : ∀ (cdv : Value) (A : Around) (outer : List Env) (s : Shared) (H : Hp) (E : XK), Rm k (A.deeper (envOfC qual (defScope st) s.heap.objs.size f cdv)) → SM (cxOf (L2.CX P w) P w K mg base N qual (defScope st) f cdv A outer s H E) S2 m2) :
    OkX P w K mg base (k + 1) f fd ps ps.length C (fxS m1 mt mw m2 (N.length - ps.length)) := by
  have z1 := (h1 .none { guards := some [] } [] {} (fun _ => none) (fun _ _ _ => False) (room0 hk _)).mono
  have z2 := (ht .none { guards := some [] } [] {} (fun _ => none) (fun _ _ _ => False) (room0 hk _)).mono
  have z3 := (ha .none { guards := some [] } [] {} (fun _ => none) (fun _ _ _ => False) (room0 hk _)).mono
  have z4 := (h2 .none { guards := some [] } [] {} (fun _ => none) (fun _ _ _ => False) (room0 hk _)).mono
  exact ⟨fnX F S hd h1 ht hw z3 h2, pm_fxS z1 z2 z3 z4 _⟩
theorem bindsK_of {nm : Str} {j : Nat} (F : Fun K x qual st f fd) (hj : ps.length = j + 1) (h : ∀ (kV doc pm : Value) (an : Option Addr) (cdv ct : Value) (us : List Value) (v : Value), us.length = j → bindArgs (PySem.W.fnOf x qual (defArgs st) (defBody st) (defScope st) .none kV doc pm an cdv ct) ⟨us, [(nm, v)]⟩ = pure (ps.zip (us ++ [v]))) : BindsK K fd ps nm := by
  obtain ⟨oc, od, kV, doc, pm, an, cdv, ct, osl, rfl, lk, hcd⟩ := F.ex
  exact fun s us v _ hl => .of_eq (h kV doc pm an cdv ct us v (by rw [List.length_append, hj] at hl; simpa using hl))
end
end DL

/-! sum(lists, list). -/
namespace DL
open PySem PySem.Spec PyProof.Rows L2
theorem sub_list_str : isSubtype (.type "list") (.type "str") = pure false := by rw [isSubtype_type]; kernel_rfl
theorem sub_list_bytes : isSubtype (.type "list") (.type "bytes") = pure false := by rw [isSubtype_type]; kernel_rfl
theorem sub_list_bytearray : isSubtype (.type "list") (.type "bytearray") = pure false := by rw [isSubtype_type]; kernel_rfl
theorem args_sum2 (a v : Value) : argsOk "sum" ⟨[a, v], []⟩ := by unfold argsOk; kernel_rfl
section
variable {prog : Program} {w : World} {A : Around} {E : Value → Shared → Prop}
theorem sumL_loop {R : Result → Shared → Prop} {S I l : Addr} {items : Array Value} (hh : A.handled = none) (hlI : l ≠ I) (hSI : S ≠ I) (hSl : S ≠ l) :
    ∀ (rest : List (Addr × List Value)) (i : Nat) (tot : Addr) (acc : List Value) (n c : Nat) (s : Shared), items.size = i + rest.length →
      (∀ (j : Nat) (q : Addr × List Value), rest[j]? = some q → items[i + j]? = some (.ref q.1) ∧ q.1 ≠ S ∧ q.1 ≠ I ∧ ∃ m, IsL s.heap q.1 q.2.toArray m) →
      acc.length + (rest.map (·.2.length)).sum ≤ sizeLine → tot ≠ S → tot ≠ I → IsL s.heap tot acc.toArray n →
      s.heap.IsListIter I l i → s.heap.IsList l items → s.heap.get? S = some { cls := .type "list", dict := none, data := .seq #[.ref tot] c, slots := #[] } →
      (∀ h' tk tot' m, IsL h' tot' (acc ++ (rest.map (·.2)).flatten).toArray m → (rest = [] ∧ tot' = tot ∨ s.heap.objs.size ≤ tot') → (∀ b o, b ≠ S → b ≠ I → s.heap.get? b = some o → h'.get? b = some o) → R (.ok (.ret (.ref tot'))) { s with heap := h', toks := tk }) →
      codeAny (model prog w) A (.builtin "sum.loop" ⟨[.ref I, .ref S, rawInt 2, rawInt 0], []⟩) R s
  | [], i, tot, acc, n, c, s, hsz, ht, hlen, htS, htI, htot, hit, hl, hS, hR => by
    refine codeAny_builtin F.entry_sum_loop ?_
    rw [Around.under_plainId F.plain_sum_loop _]
    show wpAny _ A.in1 (seqItems? (.ref S) >>= _) _ _ s
    refine wpAny_bind (wpAny_seqItems hS rfl ?_)
    show wpAny _ A.in1 (tryCatch (pyNext (.ref I)) _ >>= _) _ _ s
    refine wpAny_bind (wpAny_tryCatch (wpAny_pyNext_list_end (A := A.in1) hh hit hl (by first | exact Array.getElem?_eq_none (Nat.le_of_eq hsz) | (simp at hsz; simp; omega)) fun h' he => ?_))
    refine wpAny_pure (hR h' s.toks tot n ?_ (.inl ⟨rfl, rfl⟩) fun b o _ hb e => he b o hb e)
    simpa using he tot _ htI htot
  | q :: rest, i, tot, acc, n, c, s, hsz, ht, hlen, htS, htI, htot, hit, hl, hS, hR => by
    obtain ⟨hb, hbS, hbI, m, hq⟩ := ht 0 q rfl
    rw [List.length_cons] at hsz
    rw [List.map_cons, List.sum_cons] at hlen
    refine codeAny_builtin F.entry_sum_loop ?_
    rw [Around.under_plainId F.plain_sum_loop _]
    show wpAny _ A.in1 (seqItems? (.ref S) >>= _) _ _ s
    refine wpAny_bind (wpAny_seqItems hS rfl ?_)
    show wpAny _ A.in1 (tryCatch (pyNext (.ref I)) _ >>= _) _ _ s
    refine wpAny_bind (wpAny_tryCatch (wpAny_pyNext_list_item (x := .ref q.1) hit hl (by simpa using hb) fun h1 hit1 hs1 => ?_))
    have hq1 : IsL h1 q.1 q.2.toArray m := hs1.extBut q.1 _ hbI hq
    have htot1 : IsL h1 tot acc.toArray n := hs1.extBut tot _ htI htot
    have hl1 : h1.IsList l items := hl.extBut hs1.extBut hlI
    have hS1 := hs1.extBut S _ hSI hS
    show wpAny _ A.in1 ((holding [Value.ref q.1] (binaryOp .Add (.ref tot) (.ref q.1))).attempt >>= _) _ _ _
    refine wpAny_bind (wpAny_attempt (wpAny_holding (PySem.P.add_list htot1 hq1 ?_ (by rw [List.size_toArray, List.size_toArray]; omega))))
    have hSl' : ∀ x : Addr, (∃ o, h1.get? x = some o) → x ≠ h1.objs.size := fun x ⟨o, e⟩ => Nat.ne_of_lt (Heap.lt_size e)
    have pS : h1.objs.size ≠ S := Ne.symm (hSl' S ⟨_, hS1⟩)
    have pI : h1.objs.size ≠ I := Ne.symm (hSl' I (let ⟨o, ho, _⟩ := hit1; ⟨o, ho⟩))
    have e0 : acc.toArray ++ q.2.toArray = (acc ++ q.2).toArray := by simp
    have S2 : (h1.push { cls := .type "list", data := .seq (acc.toArray ++ q.2.toArray) }).get? S = some { cls := .type "list", dict := none, data := .seq #[.ref tot] c, slots := #[] } := Heap.get?_push_of_some _ hS1
    dsimp only
    refine wpAny_bind (wpAny_updateSeq S2 rfl ?_)
    have S3 := Heap.get?_update_self (Obj.mapSeq fun _ => #[Value.ref h1.objs.size]) S2 rfl
    refine wpAny_bind (wpAny_letGo ?_)
    refine wpAny_bind (wpAny_updateSeq S3 rfl ?_)
    have keep : ∀ b o, b ≠ S → (h1.push { cls := .type "list", data := .seq (acc.toArray ++ q.2.toArray) }).get? b = some o → (((h1.push { cls := .type "list", data := .seq (acc.toArray ++ q.2.toArray) }).update S (Obj.mapSeq fun _ => #[Value.ref h1.objs.size])).update S (Obj.mapSeq fun _ => #[Value.ref h1.objs.size])).get? b = some o := fun b o hb e =>
      (Heap.get?_update_other _ _ (Ne.symm hb)).trans ((Heap.get?_update_other _ _ (Ne.symm hb)).trans e)
    have keep1 : ∀ b o, b ≠ S → h1.get? b = some o → (((h1.push { cls := .type "list", data := .seq (acc.toArray ++ q.2.toArray) }).update S (Obj.mapSeq fun _ => #[Value.ref h1.objs.size])).update S (Obj.mapSeq fun _ => #[Value.ref h1.objs.size])).get? b = some o := fun b o hb e => keep b o hb (Heap.get?_push_of_some _ e)
    have S4 := Heap.get?_update_self (Obj.mapSeq fun _ => #[Value.ref h1.objs.size]) S3 rfl
    refine wpAny_pure ⟨plainId_quiet F.plain_sum_loop _, sumL_loop (items := items) hh hlI hSI hSl rest (i + 1) h1.objs.size (acc ++ q.2) 0 _ _ (by omega) (fun j q' e => ?_) ?_ pS pI ?_ (hit1.at fun o' e => keep1 I o' (Ne.symm hSI) e) (hl1.at fun o' e => keep1 l o' (Ne.symm hSl) e) S4 fun h' tk tot' m' e1 e2 e3 => ?_⟩
    · obtain ⟨z1, z2, z3, m', z4⟩ := ht (j + 1) q' (by simpa using e)
      exact ⟨by rw [show i + 1 + j = i + (j + 1) by omega]; exact z1, z2, z3, m', keep1 _ _ z2 (hs1.extBut _ _ z3 z4)⟩
    · rw [List.length_append]; omega
    · rw [← e0]
      exact keep _ _ pS (Heap.get?_push_size _ rfl)
    · have z1 : s.heap.objs.size = h1.objs.size := hs1.1.symm
      refine hR h' tk tot' m' ?_ (.inr ?_) fun b o hb1 hb2 e => e3 b o hb1 hb2 (keep1 b o hb1 (hs1.extBut b o hb2 e))
      · rw [List.map_cons, List.flatten_cons, ← List.append_assoc]; exact e1
      · rcases e2 with ⟨_, rfl⟩ | e2
        · omega
        · have z2 := ((Heap.SameBut.update (h1.push { cls := .type "list", data := .seq (acc.toArray ++ q.2.toArray) }) S (Obj.mapSeq fun _ => #[Value.ref h1.objs.size])).trans (Heap.SameBut.update _ S (Obj.mapSeq fun _ => #[Value.ref h1.objs.size]))).1
          have z3 : h1.objs.size < (h1.push { cls := .type "list", data := .seq (acc.toArray ++ q.2.toArray) }).objs.size := Heap.lt_size (Heap.get?_push_size _ rfl)
          have e2 := Nat.le_trans (Nat.le_of_eq z2.symm) e2
          omega
theorem sumL_raw {s : Shared} {a b : Addr} {its : List (Addr × List Value)} {st : List Value} {m : Nat} {Q : Value → Shared → Prop} (hh : A.handled = none) (hl : s.heap.IsList a (its.map fun q => Value.ref q.1).toArray) (hst : IsL s.heap b st.toArray m)
    (ht : ∀ q ∈ its, ∃ m, IsL s.heap q.1 q.2.toArray m) (hlen : st.length + (its.map (·.2.length)).sum ≤ sizeLine)
    (h : ∀ h' tk tot' m, IsL h' tot' (st ++ (its.map (·.2)).flatten).toArray m → (its = [] ∧ tot' = b ∨ s.heap.objs.size ≤ tot') → (∀ b o, s.heap.get? b = some o → h'.get? b = some o) → Q (.ref tot') { s with heap := h', toks := tk }) :
    wpAny (model prog w) A (call (.builtin "sum") [.ref a, .ref b]) Q E s := by
  refine call_function_tree F.kind_sum F.plain_sum F.entry_sum (args_sum2 _ _) ?_
  unfold Builtin.«sum»
  simp only [List.length_cons, List.length_nil]
  rw [if_neg (by decide)]
  refine wpAny_bind (wpAny_of_eq (show Builtin.Builtins.bindParams "sum" ["start"] 0 ⟨[.ref b], []⟩ = pure [some (.ref b)] from rfl) ?_)
  refine wpAny_bind (wpAny_pyIter_list hl ?_)
  dsimp only
  refine wpAny_bind (wpAny_pure ?_)
  simp only [List.forIn_cons, List.forIn_nil]
  have k1 : ∀ c o, s.heap.get? c = some o → (s.heap.push { cls := .type "list_iterator", data := .fields #[.ref a, .int 0 0] }).get? c = some o := fun c o e => Heap.get?_push_of_some _ e
  have hT : ({ s with heap := s.heap.push { cls := .type "list_iterator", data := .fields #[.ref a, .int 0 0] } } : Shared).TypeIs (.ref b) "list" := ⟨_, k1 _ _ hst, rfl⟩
  refine wpAny_bind (wpAny_bind (wpAny_bind (wpAny_isInstance (T := "list") (b := false) hT sub_list_str ?_)))
  simp only [Bool.false_eq_true, if_false]
  refine wpAny_pure (wpAny_bind (wpAny_bind (wpAny_isInstance (T := "list") (b := false) hT sub_list_bytes ?_)))
  simp only [Bool.false_eq_true, if_false]
  refine wpAny_pure (wpAny_bind (wpAny_bind (wpAny_isInstance (T := "list") (b := false) hT sub_list_bytearray ?_)))
  simp only [Bool.false_eq_true, if_false]
  refine wpAny_pure (wpAny_pure ?_)
  refine wpAny_bind (wpAny_newObj_type ?_)
  have it0 : (s.heap.push { cls := .type "list_iterator", data := .fields #[.ref a, .int 0 0] }).get? s.heap.objs.size = some { cls := .type "list_iterator", data := .fields #[.ref a, .int 0 0] } := Heap.get?_push_size _ rfl
  have hSz : s.heap.objs.size < (s.heap.push { cls := .type "list_iterator", data := .fields #[.ref a, .int 0 0] }).objs.size := Heap.lt_size it0
  have old : ∀ c o, s.heap.get? c = some o → c ≠ (s.heap.push { cls := .type "list_iterator", data := .fields #[.ref a, .int 0 0] }).objs.size ∧ c ≠ s.heap.objs.size := fun c o e => ⟨Nat.ne_of_lt (Nat.lt_trans (Heap.lt_size e) hSz), Nat.ne_of_lt (Heap.lt_size e)⟩
  obtain ⟨oa, ha, ra⟩ := hl
  have k2 : ∀ c o, s.heap.get? c = some o → ((s.heap.push { cls := .type "list_iterator", data := .fields #[.ref a, .int 0 0] }).push { cls := .type "list", data := .seq #[.ref b] }).get? c = some o := fun c o e => Heap.get?_push_of_some _ (k1 c o e)
  refine wpAny_pure ⟨plainId_quiet F.plain_sum_loop _, sumL_loop (items := (its.map fun q => Value.ref q.1).toArray) (l := a) hh (old _ _ ha).2 (Ne.symm (Nat.ne_of_lt hSz)) (Ne.symm (old _ _ ha).1) its 0 b st m 0 _ (by simp) (fun j q e => ?_) hlen (old _ _ hst).1 (old _ _ hst).2 (k2 _ _ hst) ⟨_, Heap.get?_push_of_some _ it0, rfl, rfl⟩ ⟨oa, k2 _ _ ha, ra⟩ (Heap.get?_push_size _ rfl) fun h' tk tot' m' e1 e2 e3 => ?_⟩
  · obtain ⟨m', hm⟩ := ht q (List.mem_of_getElem? e)
    refine ⟨?_, (old _ _ hm).1, (old _ _ hm).2, m', k2 _ _ hm⟩
    rw [Nat.zero_add, List.getElem?_toArray, List.getElem?_map, e]; rfl
  · refine h h' tk tot' m' e1 ?_ fun c o e => e3 c o (old c o e).1 (old c o e).2 (k2 c o e)
    rcases e2 with e2 | e2
    · exact .inl e2
    · right
      have z : (s.heap.push { cls := .type "list_iterator", data := .fields #[.ref a, .int 0 0] }).objs.size < ((s.heap.push { cls := .type "list_iterator", data := .fields #[.ref a, .int 0 0] }).push { cls := .type "list", data := .seq #[.ref b] }).objs.size := Heap.lt_size (Heap.get?_push_size _ rfl)
      have e2 : ((s.heap.push { cls := .type "list_iterator", data := .fields #[.ref a, .int 0 0] }).push { cls := .type "list", data := .seq #[.ref b] }).objs.size ≤ tot' := e2
      omega
end
/-! ### the rule, by values and by data -/
def rSumL (K : PySem.W.Frag) : List V → Hp → VK → Prop := fun vs H Q => ∃ (a b : Addr) (ps : List Addr) (xss : List (List V)) (st : List V), vs = [V.ref a, V.ref b] ∧ SqL K H a (ps.map V.ref) ∧ H b = some (.lst st) ∧ ps.length = xss.length ∧
  (∀ (j : Nat) (p : Addr) (xs : List V), ps[j]? = some p → xss[j]? = some xs → H p = some (.lst xs)) ∧ st.length + (xss.map (·.length)).sum ≤ sizeLine ∧
  (ps = [] → Q (.ref b) H) ∧ ∀ p, H p = none → Q (.ref p) (upd H p (.lst (st ++ xss.flatten)))
theorem sum_of {X : Cx} {pins : List (Addr × Obj)} {σ : L2.St} {H : Hp} {s : Shared} (I : L2.Inv X pins σ H s) : ∀ (ps : List Addr) (xss : List (List V)), ps.length = xss.length → (∀ (j : Nat) (p : Addr) (xs : List V), ps[j]? = some p → xss[j]? = some xs → H p = some (.lst xs)) →
    ∃ its : List (Addr × List Value), its.map (·.1) = ps ∧ Vals xss.flatten (its.map (·.2)).flatten ∧ (its.map (·.2.length)) = xss.map (·.length) ∧ ∀ q ∈ its, ∃ m, IsL s.heap q.1 q.2.toArray m
  | [], [], _, _ => ⟨[], rfl, .nil, rfl, fun _ h => nomatch h⟩
  | [], _ :: _, h, _ => nomatch h
  | _ :: _, [], h, _ => nomatch h
  | p :: ps, xs :: xss, hl, h => by
    obtain ⟨its, h1, h2, h3, h4⟩ := sum_of I ps xss (by simpa using hl) fun j p' xs' e1 e2 => h (j + 1) p' xs' (by simpa using e1) (by simpa using e2)
    obtain ⟨_, vs, n, rv, lv, e⟩ := I.lstM (h 0 p xs rfl rfl)
    refine ⟨(p, vs) :: its, by rw [List.map_cons, h1], ?_, by rw [List.map_cons, List.map_cons, h3, lv], fun q hq => ?_⟩
    · rw [List.flatten_cons, List.map_cons, List.flatten_cons]
      exact rv.append h2
    · rcases List.mem_cons.mp hq with rfl | hq
      · exact ⟨n, e⟩
      · exact h4 q hq
theorem cr_sumL {X : Cx} (hc : X.calm = true) : CallR X (.builtin "sum") (rSumL X.K) := by
  intro pins s σ H vs us Q I r h
  obtain ⟨a, b, ps, xss, st, rfl, hs, hb, hlen, hp, hz, q0, q⟩ := h
  obtain ⟨its, rv, hl, _⟩ := I.list hs
  have := refs_at rv
  subst this
  obtain ⟨L, e1, e2, e3, e4⟩ := sum_of I ps xss hlen hp
  obtain ⟨_, sv, n, rs, ls, es⟩ := I.lstM hb
  have hu : us = [Value.ref a, Value.ref b] := by
    cases r with
    | cons r1 t =>
      cases r1
      cases t with
      | cons r2 t2 => cases r2; cases t2; rfl
  subst hu
  have el : (ps.map Value.ref) = L.map fun q => Value.ref q.1 := by rw [← e1, List.map_map]; rfl
  rw [el] at hl
  refine sumL_raw (its := L) (st := sv) (I.ok.hd hc) hl.isList es e4 (by rw [e3, ← ls]; exact hz) fun h' tk tot' m f1 f2 f3 => ?_
  rcases f2 with ⟨rfl, rfl⟩ | f2
  · exact ⟨.ref tot', H, I.kept f3, rfl, q0 e1.symm⟩
  · refine ⟨.ref tot', upd H tot' (.lst (st ++ xss.flatten)), I.laid (t' := tk) f3 f2 ⟨?_, _, m, rs.append e2, f1⟩, rfl, q _ (I.hok.fresh f2)⟩
    rw [List.length_append, List.length_flatten]
    exact hz
/-- lists of lists -/
def listsOf : List D → Option (List (List D))
  | [] => some []
  | .list b :: ds => (listsOf ds).map (b :: ·)
  | _ => none
theorem listsOf_eq : ∀ {xs : List D} {bs : List (List D)}, listsOf xs = some bs → xs = bs.map PyData.list
  | [], bs, h => by cases h; rfl
  | d :: ds, bs, h => by
    cases d <;> first | (cases h; done) | skip
    obtain ⟨cs, h1, rfl⟩ := Option.map_eq_some_iff.mp (show (listsOf ds).map _ = some bs from h)
    rw [listsOf_eq h1]; rfl
theorem listsOf_map : ∀ ns : List (List D), listsOf (ns.map PyData.list) = some ns
  | [] => rfl
  | n :: r => by show (listsOf (r.map PyData.list)).map _ = _; rw [listsOf_map r]; rfl
def sumLD : PC1 := fun ds k => match ds with
  | [.list xs, .list st] => ∃ xss, listsOf xs = some xss ∧ st.length + (xss.map (·.length)).sum ≤ sizeLine ∧ k (.list (st ++ xss.flatten))
  | _ => False
theorem pm_sumL (ds : List D) : Pm1 (sumLD ds) := fun k k' w q => by
  unfold sumLD at q ⊢
  split at q
  · obtain ⟨xss, e, z, q⟩ := q
    exact ⟨xss, e, z, w _ q⟩
  · exact q.elim
theorem dx_lists {K : PySem.W.Frag} {F : AS} {H : Hp} : ∀ {vs : List V} {xss : List (List D)}, DxAll K H F vs (xss.map PyData.list) →
    ∃ (ps : List Addr) (vss : List (List V)), vs = ps.map V.ref ∧ ps.length = vss.length ∧ (∀ (j : Nat) (p : Addr) (xs : List V), ps[j]? = some p → vss[j]? = some xs → H p = some (.lst xs)) ∧ DxAll K H F vss.flatten xss.flatten ∧ vss.map (·.length) = xss.map (·.length)
  | vs, [], h => by
    cases h
    exact ⟨[], [], rfl, rfl, fun j p xs e => by simp at e, .nil, rfl⟩
  | vs, x :: xss, h => by
    cases h with
    | cons h1 h2 =>
      obtain ⟨p, ws, rfl, e1, _, d1⟩ := h1.sql
      obtain ⟨ps, vss, rfl, l1, l2, l3, l4⟩ := dx_lists h2
      refine ⟨p :: ps, ws :: vss, rfl, by simp [l1], fun j p' xs' z1 z2 => ?_, by rw [List.flatten_cons, List.flatten_cons]; exact d1.append l3, by rw [List.map_cons, List.map_cons, l4, d1.length]⟩
      cases j with
      | zero => cases z1; cases z2; exact e1
      | succ j => exact l2 j p' xs' (by simpa using z1) (by simpa using z2)
theorem prim_sumL {K : PySem.W.Frag} : PrimC K (rSumL K) sumLD := by
  intro F H vs ds Q hF hd h
  unfold sumLD at h
  split at h
  · obtain ⟨xss, e, z, q⟩ := h
    have := listsOf_eq e
    subst this
    cases hd with
    | cons h1 hr =>
      cases hr with
      | cons h2 hr =>
        cases hr
        obtain ⟨a, ws, rfl, e1, n1, d1⟩ := h1.sql
        obtain ⟨b, ss, rfl, e2, n2, d2⟩ := h2.sql
        obtain ⟨ps, vss, rfl, l1, l2, l3, l4⟩ := dx_lists d1
        refine ⟨a, b, ps, vss, ss, rfl, .inl (.inl e1), e2, l1, l2, by rw [l4, d2.length]; exact z, fun hn => ?_, ?_⟩
        · subst hn
          have : vss = [] := List.eq_nil_of_length_eq_zero l1.symm
          subst this
          have : xss = [] := by
            cases xss with
            | nil => rfl
            | cons x r => exact absurd l4 (by simp)
          subst this
          rw [List.flatten_nil, List.append_nil] at q
          exact Kd.now (d := .list _) q (.lst n2 e2 d2)
        · exact new_lst hF (d2.append l3) q
  · exact h.elim
section
variable {X : Cx} {p pos : Pos} {e e2 : Expr} {m : M (List D)}
theorem em_sumL (hc : X.calm = true) (hm : X.mg "sum" = none) (ha : AM X [e, e2] m) (hg : Gl X "sum" := by rfl) (he : starEach [e, e2] X.env = (false, eval e X.env) :: starEach [e2] X.env := by rfl) (hpl : (backTo pos (starEach [e2] X.env)).any (·.1) = false := by rfl) :
    EM X (.Call (.Name "sum" p) [e, e2] [] pos) (mCall sumLD m) := em_callB (cr_sumL hc) prim_sumL pm_sumL hg hm (by decide +kernel) ha (he := he) (hpl := hpl)
end
end DL

/-! dict(zip(texts, texts)), d[x], d.get(x, y) of texts to texts. -/
namespace DL
open PySem PySem.Spec PyProof.Rows L2
def tDictZip (K : PySem.W.Frag) (ta : TA) : TE := fun σ H Q => ta σ H fun vs H1 => ∃ (a b : Addr) (ks : List Str) (ys : List V), vs = [V.ref a, V.ref b] ∧ SqL K H1 a (ks.map V.str) ∧ SqL K H1 b ys ∧
  ∀ p, H1 p = none → Q (.ref p) (upd H1 p (.dK (mergeK [] ((ks.map fun x => (Sum.inr x : Key)).zip ys))))
theorem strs_get : ∀ {ks : List Str} {its : List Value} {i : Nat} {u : Value}, Vals (ks.map V.str) its → its[i]? = some u → ∃ x, ks[i]? = some x ∧ RelV (V.str x) u
  | [], its, i, u, r, e => by
    cases r
    simp at e
  | k :: ks, its, i, u, r, e => by
    cases r with
    | cons h t =>
      cases i with
      | zero =>
        cases e
        exact ⟨k, rfl, h⟩
      | succ i => exact strs_get (ks := ks) t (i := i) (by simpa using e)
theorem kv_zip : ∀ (ks : List Str) {ys : List V} {its : List Value}, Vals ys its → KV ((ks.map fun x => (Sum.inr x : Key)).zip ys) ((ks.map fun x => (Sum.inr x : Key)).zip its)
  | [], ys, its, r => .nil
  | k :: ks, ys, its, r => by
    cases r with
    | nil => exact .nil
    | cons h t => exact .cons ⟨rfl, h⟩ (kv_zip ks t)
theorem pe_dictZip {X : Cx} {e e2 : Expr} {ta : TA} {p p1 pos pos1 : Pos} (hc : X.calm = true) (hmd : X.mg "dict" = none) (hmz : X.mg "zip" = none) (ha : PA X [e, e2] ta) (hgd : Gl X "dict" := by rfl) (hgz : Gl X "zip" := by rfl)
    (hs : starEach [e, e2] X.env = (false, eval e X.env) :: starEach [e2] X.env := by rfl) (hpl : (backTo pos1 (starEach [e2] X.env)).any (·.1) = false := by rfl)
    (hs2 : starEach [.Call (.Name "zip" p1) [e, e2] [] pos1] X.env = (false, eval (.Call (.Name "zip" p1) [e, e2] [] pos1) X.env) :: starEach [] X.env := by rfl) (hpl2 : (backTo pos (starEach [] X.env)).any (·.1) = false := by rfl) :
    PE X (.Call (.Name "dict" p) [.Call (.Name "zip" p1) [e, e2] [] pos1] [] pos) (tDictZip X.K ta) := by
  refine ⟨fun pins s σ H Q I h => ?_⟩
  refine Call_ (ld_blt I hgd hmd PyProof.Rows.boot_dict (PyProof.Rows.callWith_type1 ?_ hs2 hpl2))
  rw [hs2]
  refine Calls.spliced_cons ?_
  refine Call_ (ld_blt I hgz hmz PyProof.Rows.boot_zip (PyProof.Rows.callWith_type1 (thn (ha.run pos1 pins s σ H _ I h) fun us s1 ⟨vs, H1, I1, r1, q1⟩ => ?_) hs hpl))
  obtain ⟨a, b, ks, ys, ex, hqx, hqy, q⟩ := q1
  subst ex
  cases r1 with
  | cons r rr =>
    cases rr with
    | cons r' rr =>
      cases rr
      cases r
      cases r'
      obtain ⟨its, rv, pl1, z1⟩ := I1.list hqx
      obtain ⟨its2, rv2, pl2, z2⟩ := I1.list hqy
      refine call_zip_2 pl1.isList pl2.isList fun h' hz hTI hTO h1 h2 hsz hk => ?_
      refine Calls.spliced_nil ?_
      have D := PySem.W.ktu_apart s1.heap.objs.size a b pl1.lt pl2.lt
      have P := PairArg.zip (prog := X.prog) (w := X.w) (s1.heap.objs.size + 4) (s1.heap.objs.size + 2) (s1.heap.objs.size + 3) s1.heap.objs.size (s1.heap.objs.size + 1) a b D its.toArray its2.toArray
      have hl1 : h'.IsList a its.toArray := pl1.isList.at fun o e => hk _ o e
      have hl2 : h'.IsList b its2.toArray := pl2.isList.at fun o e => hk _ o e
      have I2 : L2.Inv X pins σ H1 { s1 with heap := h' } := I1.kept (t' := s1.toks) hk
      have kv := kv_zip ks rv2
      have lits : its.length = ks.length := by have := rv.length; rw [List.length_map] at this; exact this.symm
      refine PySem.call_dict_pairs (knd := mixKind X.prog X.w) (kvs := (ks.map fun x => (Sum.inr x : Key)).zip its2) P (I1.ok.hd hc) ⟨hz, hTI, ⟨_, _, hTO⟩, h1, h2, hl1, hl2⟩ ⟨?_, fun i key v hrel => ?_⟩ ?_ fun h2 tk hd' hkk => ?_
      · rw [List.length_zip, List.length_map, List.size_toArray, List.size_toArray, lits]
      · obtain ⟨e1, e2⟩ := hrel
        rw [List.getElem?_toArray] at e1 e2
        obtain ⟨x, e3, rx⟩ := strs_get rv e1
        refine ⟨Sum.inr x, ?_, kV_is (P := X.prog) (w := X.w) (k := Sum.inr x) rx⟩
        rw [List.getElem?_zip_eq_some]
        exact ⟨by rw [List.getElem?_map, e3]; rfl, e2⟩
      · rw [List.size_toArray, List.size_toArray, lits]
        rw [List.length_map] at z1
        exact Nat.le_trans (Nat.min_le_left _ _) z1
      · have hk2 : ∀ c o, s1.heap.get? c = some o → h2.get? c = some o := fun c o e => by
          refine hkk c o (fun hm => ?_) (hk c o e)
          have lt := Heap.lt_size e
          simp only [List.mem_cons, List.not_mem_nil, or_false] at hm
          rcases hm with rfl | rfl | rfl | rfl
          · exact Nat.not_lt_of_le (Nat.le_add_right _ _) lt
          · exact Nat.not_lt_of_le (Nat.le_add_right _ _) lt
          · exact Nat.lt_irrefl _ lt
          · exact Nat.not_lt_of_le (Nat.le_add_right _ _) lt
        have hle : s1.heap.objs.size ≤ h'.objs.size := by omega
        have hm : (h'.objs.size == sysModules) = false := beq_eq_false_iff_ne.mpr (Nat.ne_of_gt (Nat.lt_of_lt_of_le I1.big hle))
        have hlen : (mergeK [] ((ks.map fun x => (Sum.inr x : Key)).zip ys)).length ≤ sizeLine := by
          refine Nat.le_trans (length_mergeK _ []) ?_
          rw [List.length_nil, Nat.zero_add, List.length_zip, List.length_map]
          rw [List.length_map] at z1
          exact Nat.le_trans (Nat.min_le_left _ _) z1
        exact ⟨.ref h'.objs.size, upd H1 h'.objs.size (.dK (mergeK [] ((ks.map fun x => (Sum.inr x : Key)).zip ys))), I1.laid (t' := tk) hk2 hle (show ObjOk X.prog X.w _ _ _ (.dK (mergeK [] ((ks.map fun x => (Sum.inr x : Key)).zip ys))) from ⟨hlen, hm, merged [] _, KV.merge kv .nil, hd'⟩), rfl, q _ (I1.hok.fresh hle)⟩
/-! ### by data -/
theorem merge_new : ∀ (more kvs : List (Key × V)), ((kvs ++ more).map (·.1)).Nodup → mergeK kvs more = kvs ++ more
  | [], kvs, _ => by rw [List.append_nil]; rfl
  | p :: more, kvs, h => by
    show mergeK (putK kvs p.1 p.2) more = _
    have hn : (kvs.any fun kv => decide (kv.1 = p.1)) = false := by
      rw [List.any_eq_false]
      intro kv hkv z
      have z := of_decide_eq_true z
      rw [List.map_append, List.nodup_append] at h
      exact h.2.2 kv.1 (List.mem_map.mpr ⟨kv, hkv, rfl⟩) p.1 (by simp) z
    unfold putK
    rw [hn, if_neg Bool.false_ne_true]
    have e : kvs ++ [(p.1, p.2)] ++ more = kvs ++ p :: more := by simp
    rw [merge_new more (kvs ++ [(p.1, p.2)]) (by rw [e]; exact h), e]
theorem new_dst {K : PySem.W.Frag} {F : AS} {H : Hp} (hF : ∀ c, F c → ∃ o, H c = some o) {l : List (Str × Str)} {Q : VK} (q : Kd K F H Q (.dict (dstD l))) : ∀ p, H p = none → Q (.ref p) (upd H p (.dK (dstV l))) := fun p hp =>
  q _ _ (fun b o e => upd_more hp b o e) (.dst l rfl (fresh_new hF hp) upd_same)
def mDictZip (m : M (List D)) : M D := fun ρ k => m ρ fun ds ρ1 => ∃ (xs ys : List D) (ks vs : List Str), ds = [.list xs, .list ys] ∧ strsOf xs = some ks ∧ strsOf ys = some vs ∧ ks.Nodup ∧ k (.dict (dstD (ks.zip vs))) ρ1
theorem em_dictZip {X : Cx} {e e2 : Expr} {m : M (List D)} {p p1 pos pos1 : Pos} (hc : X.calm = true) (hmd : X.mg "dict" = none) (hmz : X.mg "zip" = none) (ha : AM X [e, e2] m) (hgd : Gl X "dict" := by rfl) (hgz : Gl X "zip" := by rfl)
    (hs : starEach [e, e2] X.env = (false, eval e X.env) :: starEach [e2] X.env := by rfl) (hpl : (backTo pos1 (starEach [e2] X.env)).any (·.1) = false := by rfl)
    (hs2 : starEach [.Call (.Name "zip" p1) [e, e2] [] pos1] X.env = (false, eval (.Call (.Name "zip" p1) [e, e2] [] pos1) X.env) :: starEach [] X.env := by rfl) (hpl2 : (backTo pos (starEach [] X.env)).any (·.1) = false := by rfl) :
    EM X (.Call (.Name "dict" p) [.Call (.Name "zip" p1) [e, e2] [] pos1] [] pos) (mDictZip m) := by
  refine ⟨fun ρ k k' w q => ha.mono ρ _ _ (fun ds ρ1 ⟨xs, ys, ks, vs, e, e1, e2, nd, q1⟩ => ⟨xs, ys, ks, vs, e, e1, e2, nd, w _ _ q1⟩) q, pe_weak (pe_dictZip hc hmd hmz ha.run hgd hgz hs hpl hs2 hpl2) ?_⟩
  rintro σ H Q ⟨G, loc, ρ, R, q⟩
  refine ⟨G, loc, ρ, R, ha.mono ρ _ _ (fun ds ρ1 q1 vs H1 R1 g1 d1 => ?_) q⟩
  obtain ⟨xs, ys, ks, us, rfl, e1, e2, nd, q2⟩ := q1
  have := strsOf_eq e1
  subst this
  have := strsOf_eq e2
  subst this
  cases d1 with
  | cons h1 hr =>
    cases hr with
    | cons h2 hr =>
      cases hr
      obtain ⟨a, ws, rfl, f1, n1, dd1⟩ := h1.sql
      obtain ⟨b, zs, rfl, f2, n2, dd2⟩ := h2.sql
      have := dd1.strs
      subst this
      have := dd2.strs
      subst this
      refine ⟨a, b, ks, us.map V.str, rfl, .inl (.inl f1), .inl (.inl f2), fun p hp => ?_⟩
      have em : mergeK [] ((ks.map fun x => (Sum.inr x : Key)).zip (us.map V.str)) = dstV (ks.zip us) := by
        have ez : (ks.map fun x => (Sum.inr x : Key)).zip (us.map V.str) = dstV (ks.zip us) := by
          unfold dstV
          rw [List.zip_map]; rfl
        rw [merge_new, List.nil_append, ez]
        rw [List.nil_append]
        have sub : (((ks.map fun x => (Sum.inr x : Key)).zip (us.map V.str)).map (·.1)).Sublist (ks.map fun x => (Sum.inr x : Key)) := by
          have : ∀ (l : List Key) (l' : List V), ((l.zip l').map (·.1)).Sublist l := by
            intro l
            induction l with
            | nil => intro l'; exact List.Sublist.refl _
            | cons x l ih =>
              intro l'
              cases l' with
              | nil => exact List.nil_sublist _
              | cons y l' => exact (ih l').cons_cons x
          exact this _ _
        refine List.Nodup.sublist sub ?_
        exact List.pairwise_map.mpr (nd.imp fun h e => h (Sum.inr.inj e))
      rw [em]
      exact new_dst R1.fbE (fun w H4 m4 d4 => q2 w H4 (R1.more m4) (g1.trans (more_grow m4)) d4) p hp
/-! ### d[x], d.get(x, y) -/
theorem dstV_val (l : List (Str × Str)) (x : Str) : valV (dstV l) (Sum.inr x : Key) = ((l.find? fun kv => decide (kv.1 = x)).map fun kv => V.str kv.2) := by
  unfold valV dstV
  rw [List.find?_map]
  have : ((fun kv : Key × V => decide (kv.1 = (Sum.inr x : Key))) ∘ fun p : Str × Str => ((Sum.inr p.1 : Key), V.str p.2)) = fun kv => decide (kv.1 = x) := by
    funext kv
    show decide ((Sum.inr kv.1 : Key) = Sum.inr x) = decide (kv.1 = x)
    exact decide_eq_decide.mpr ⟨fun z => Sum.inr.inj z, fun z => by rw [z]⟩
  rw [this, Option.map_map]; rfl
def getS (l : List (Str × Str)) (x : Str) : Option Str := (l.find? fun kv => decide (kv.1 = x)).map (·.2)
def dgetTD : P2 := fun a b k => ∃ l x y, a = .dict (dstD l) ∧ b = .str x ∧ getS l x = some y ∧ k (.str y)
theorem pm_dgetT (a b : D) : Pm1 (dgetTD a b) := fun k k' w ⟨l, x, y, e1, e2, e3, q⟩ => ⟨l, x, y, e1, e2, e3, w _ q⟩
theorem em_dgetT {X : Cx} {o i : Expr} {mo mi : M D} {pos : Pos} (hu : X.A.units + 1 < cLine) (ho : EM X o mo) (hi : EM X i mi) (hs : NoSl i) : EM X (.Subscript o i pos) (mBin dgetTD mo mi) := by
  refine ⟨mono_bin pm_dgetT ho.mono hi.mono, pe_weak (pe_dget hu ho.run hi.run hs) ?_⟩
  rintro σ H Q ⟨G, loc, ρ, R, q⟩
  refine ⟨G, loc, ρ, R, ho.mono ρ _ _ (fun a ρ1 q1 v H1 R1 g1 d1 => ?_) q⟩
  refine ⟨G, loc, ρ1, R1, hi.mono ρ1 _ _ (fun b ρ2 q2 u H2 R2 g2 d2 => ?_) q1⟩
  obtain ⟨l, x, y, rfl, rfl, f, q3⟩ := q2
  obtain ⟨p, rfl, e1, _⟩ := (d1.g g2).dstA
  cases d2
  refine ⟨p, .str y, rfl, .inl ⟨_, Sum.inr _, .inl e1, rfl, ?_⟩, q3 _ H2 R2 (g1.trans g2) (.str y)⟩
  rw [dstV_val]
  unfold getS at f
  obtain ⟨kv, h1, h2⟩ := Option.map_eq_some_iff.mp f
  rw [h1, ← h2]; rfl
/-- d.get(x, y) -/
def mGetT (mo mi md : M D) : M D := fun ρ k => mo ρ fun a ρ1 => ∃ l, a = .dict (dstD l) ∧ mi ρ1 fun b ρ2 => md ρ2 fun c ρ3 => ∃ x z, b = .str x ∧ c = .str z ∧ k (.str ((getS l x).getD z)) ρ3
theorem em_getT {X : Cx} {o e f : Expr} {mo mi md : M D} {apos cpos : Pos} (hu : X.A.units + 1 < cLine) (ho : EM X o mo) (he : EM X e mi) (hf : EM X f md)
    (base : attributeBase o "get" X.env (eval o X.env) = eval o X.env := by rfl)
    (few : ((backTo cpos (starEach [e, f] X.env)).all (fun x => !x.1) && (backToKw cpos (keywordEach [] X.env)).all (fun x => x.1.isSome)
      && decide (([e, f] : List Expr).length + ([] : List Keyword).length + (if ([] : List Keyword).isEmpty then 0 else 1) < 30)) = true := by rfl)
    (line : (apos.endLine == cpos.line) = true := by rfl)
    (trees : backTo cpos (starEach [e, f] X.env) = [(false, eval e X.env), (false, eval f X.env)] := by rfl) : EM X (.Call (.Attribute o "get" apos) [e, f] [] cpos) (mGetT mo mi md) := by
  refine ⟨fun ρ k k' w q => ho.mono ρ _ _ (fun a ρ1 ⟨l, e1, q1⟩ => ⟨l, e1, he.mono ρ1 _ _ (fun b ρ2 q2 => hf.mono ρ2 _ _ (fun c ρ3 ⟨x, z, e2, e3, q3⟩ => ⟨x, z, e2, e3, w _ _ q3⟩) q2) q1⟩) q, pe_weak (pe_dget2 hu ho.run he.run hf.run ⟨base, few, line, trees⟩) ?_⟩
  rintro σ H Q ⟨G, loc, ρ, R, q⟩
  refine ⟨G, loc, ρ, R, ho.mono ρ _ _ (fun a ρ1 q1 v H1 R1 g1 d1 => ?_) q⟩
  obtain ⟨l, rfl, q1⟩ := q1
  obtain ⟨p, rfl, e1, n1⟩ := d1.dstA
  refine ⟨p, rfl, .inl ⟨_, .inl e1⟩, G, loc, ρ1, R1, he.mono ρ1 _ _ (fun b ρ2 q2 u H2 R2 g2 d2 => ?_) q1⟩
  refine ⟨G, loc, ρ2, R2, hf.mono ρ2 _ _ (fun c ρ3 q3 w H3 R3 g3 d3 => ?_) q2⟩
  obtain ⟨x, z, rfl, rfl, q4⟩ := q3
  obtain ⟨e2, n2⟩ := g2 _ _ e1 n1
  obtain ⟨e3, n3⟩ := g3 _ _ e2 n2
  cases d2
  cases d3
  refine ⟨valV (dstV l) (Sum.inr x : Key), .inl ⟨_, Sum.inr x, .inl e3, rfl, rfl⟩, ?_⟩
  have e4 : (valV (dstV l) (Sum.inr x : Key)).getD (V.str z) = V.str ((getS l x).getD z) := by
    rw [dstV_val]
    unfold getS
    cases l.find? fun kv => decide (kv.1 = x) with
    | none => rfl
    | some kv => rfl
  rw [e4]
  exact q4 _ H3 R3 ((g1.trans g2).trans g3) (.str _)
end DL

/-! A tuple of texts by its name; a call that leaves a keyword-only parameter to its default. -/
namespace DL
open PySem PySem.Spec PyProof.Rows L2
theorem dxs_strs {K : PySem.W.Frag} {H : Hp} {F : AS} : ∀ xs : List Str, DxAll K H F (xs.map V.str) (xs.map PyData.str)
  | [] => .nil
  | x :: xs => .cons (.str x) (dxs_strs xs)
theorem em_tupC {X : Cx} {x : Str} {p : Pos} {a : Addr} {xs : List Str} (ht : SqTK X.K a (xs.map V.str)) (hm : X.mg x = some (.ref a)) (hg : Gl X x := by rfl) (hd : (x == ("__debug__" : Str)) = false := by decide) :
    EM X (.Name x p) (mPure (.tuple (xs.map PyData.str))) := by
  refine ⟨mono_pure, pe_weak (pe_glob (v := .ref a) hg hm rfl hd) ?_⟩
  rintro σ H Q ⟨G, loc, ρ, R, q⟩
  exact q _ H R Grow.refl (.tupK ht (dxs_strs xs))
/-- the last argument is the default -/
def mFnD (n : Nat) (F : FS) (d : D) (m : M (List D)) : M D := fun ρ k => m ρ fun ds ρ1 => (ds ++ [d]).length = n ∧ F (ds ++ [d]) fun _ r => k r ρ1
section
variable {X : Cx} {k n : Nat} {f : Addr} {fd : FuncData} {ps : List Str} {x : Str} {p pos : Pos} {e : Expr} {es : List Expr} {m : M (List D)} {F : FS} {u : Value} {v : V} {dd : D}
theorem em_fnD (G : FnG X.prog X.w X.K X.mg X.base CX0 k f fd ps (sp0 X.K n F)) (mF : PmS F) (hr : Rm k X.A) (hg : Gl X x) (hm : X.mg x = some (.ref f)) (hk : PySem.W.keepIn X.K (.ref f) = true) (hb : Binds X.K fd ps [u]) (hv : RelV v u) (hdd : ∀ H F, Dx X.K H F v dd)
    (ha : AM X (e :: es) m) (hdb : (x == ("__debug__" : Str)) = false := by decide) (he : starEach (e :: es) X.env = (false, eval e X.env) :: starEach es X.env := by rfl) (hpl : (backTo pos (starEach es X.env)).any (·.1) = false := by rfl) :
    EM X (.Call (.Name x p) (e :: es) [] pos) (mFnD n F dd m) := by
  refine ⟨fun ρ k k' w q => ha.mono ρ _ _ (fun ds ρ1 q1 => ⟨q1.1, mF _ _ _ (fun b d q2 => w _ _ q2) q1.2⟩) q, pe_weak (pe_callG G hr hg hm hk hb (.cons hv .nil) pass0 ha.run hdb he hpl) ?_⟩
  rintro σ H Q ⟨G', loc, ρ, R, q⟩
  refine ⟨G', loc, ρ, R, ha.mono ρ _ _ (fun ds ρ1 q1 vs H1 R1 g1 d1 => ?_) q⟩
  refine ⟨Fb G'.fb ρ1 loc, ds ++ [dd], R1.fbE, d1.append (.cons (hdd _ _) .nil), q1.1, mF _ _ _ (fun b d q2 v H2 m2 d2 _ => ?_) q1.2⟩
  exact q2 v H2 (R1.more m2) (g1.trans (more_grow m2)) d2
end
/-- how it binds: the default stands in the dict at D -/
theorem bindsD_of {K : PySem.W.Frag} {fd : FuncData} {ps : List Str} {nm : Str} {D : Addr} {u : Value} {j : Nat} (hj : ps.length = j + 1) (hn : PySem.W.nsIn K D nm = some (some u))
    (h : ∀ us : List Value, us.length = j → KwChain D [(nm, u)] (bindArgs fd ⟨us, []⟩) (ps.zip (us ++ [u]))) : Binds K fd ps [u] := fun s us X hl =>
  BindsTo.of_looks fun M => KwChain.looks X (fun q hq => by rw [List.mem_singleton.mp hq]; exact hn) (h us (by rw [List.length_append, hj] at hl; simpa using hl))
end DL

/-! text.strip(signs), text.upper(); + and - of tuples of any length and of truths; str of truths; tuple(text), list(text); repr of anything; dict displays of texts to ints. -/
namespace DL
open PySem PySem.Spec PyProof.Rows L2
/-! ### strip, upper -/
def stripD (z : Str) : PC1
  | [.str b], k => z.length ≤ sizeLine ∧ k (.str (Txt.stripChars z b))
  | _, _ => False
def upperD (z : Str) : PC1
  | [], k => z.length ≤ 5592405 ∧ k (.str (Txt.upper z))
  | _, _ => False
theorem pm_strip (z : Str) (ds : List D) : Pm1 (stripD z ds) := fun k k' w q => by
  unfold stripD at q ⊢
  split at q
  · exact ⟨q.1, w _ q.2⟩
  · exact q.elim
theorem pm_upper (z : Str) (ds : List D) : Pm1 (upperD z ds) := fun k k' w q => by
  unfold upperD at q ⊢
  split at q
  · exact ⟨q.1, w _ q.2⟩
  · exact q.elim
theorem prim_strip {K : PySem.W.Frag} : PrimM K (fun x xs H Q => ∃ a b, x = .str a ∧ xs = [.str b] ∧ a.length ≤ sizeLine ∧ Q (.str (Txt.stripChars a b)) H) stripD := by
  intro F H z vs ds Q hF hd h
  unfold stripD at h
  split at h
  · obtain ⟨v, rfl, dv⟩ := dx_one hd
    cases dv
    exact ⟨z, _, rfl, rfl, h.1, h.2.now (.str _)⟩
  · exact h.elim
theorem prim_upper {K : PySem.W.Frag} : PrimM K (fun x xs H Q => ∃ a, x = .str a ∧ xs = [] ∧ a.length ≤ 5592405 ∧ Q (.str (Txt.upper a)) H) upperD := by
  intro F H z vs ds Q hF hd h
  unfold upperD at h
  split at h
  · cases hd
    exact ⟨z, rfl, rfl, h.1, h.2.now (.str _)⟩
  · exact h.elim
section
variable {X : Cx} {o e : Expr} {m : M D} {ms : M (List D)} {apos cpos : Pos}
theorem em_strip (ho : EM X o m) (ha : AM X [e] ms)
    (hbase : attributeBase o "strip" X.env (eval o X.env) = eval o X.env := by rfl)
    (hfew : ((backTo cpos (starEach [e] X.env)).all (fun x => !x.1) && (backToKw cpos (keywordEach [] X.env)).all (fun x => x.1.isSome)
      && decide ([e].length + ([] : List Keyword).length + (if ([] : List Keyword).isEmpty then 0 else 1) < 30)) = true := by rfl)
    (hline : (apos.endLine == cpos.line) = true := by rfl) (hs : starEach [e] X.env = (false, eval e X.env) :: starEach [] X.env := by rfl) (hplain : (backTo cpos (starEach [] X.env)).any (·.1) = false := by rfl) :
    EM X (.Call (.Attribute o "strip" apos) [e] [] cpos) (mMeth stripD m ms) := em_meth PySem.F.slot_str_strip PySem.F.type_str_strip mt_stripChars prim_strip pm_strip ho ha hbase hfew hline hs hplain
theorem em_upper (ho : EM X o m) (hbase : attributeBase o "upper" X.env (eval o X.env) = eval o X.env := by rfl) (hline : (apos.endLine == cpos.line) = true := by rfl) :
    EM X (.Call (.Attribute o "upper" apos) [] [] cpos) (mMeth upperD m mNil) := em_meth0 PySem.F.slot_str_upper PySem.F.type_str_upper mt_upper prim_upper pm_upper ho hbase hline
end
/-! ### + and - -/
def b2 (b : Bool) : Int := if b = true then 1 else 0
def addAD : P2
  | .tuple xs, .tuple ys, k => xs.length + ys.length ≤ sizeLine ∧ k (.tuple (xs ++ ys))
  | .bool b, .int j, k => k (.int (b2 b + j))
  | .int i, .int j, k => k (.int (i + j))
  | .str x, .str y, k => x.length + y.length ≤ sizeLine ∧ k (.str (x ++ y))
  | .list xs, .list ys, k => xs.length + ys.length ≤ sizeLine ∧ k (.list (xs ++ ys))
  | _, _, _ => False
def subAD : P2
  | .int i, .int j, k => k (.int (i - j))
  | .bool b, .int j, k => k (.int (b2 b - j))
  | _, _, _ => False
theorem pm_addA (a b : D) : Pm1 (addAD a b) := fun k k' h q => by
  cases a <;> cases b <;> first | exact q.elim | exact h _ q | exact ⟨q.1, h _ q.2⟩
theorem pm_subA (a b : D) : Pm1 (subAD a b) := fun k k' h q => by
  cases a <;> cases b <;> first | exact q.elim | exact h _ q | exact ⟨q.1, h _ q.2⟩
def rBI (g : Int → Int → Int) : R2 := fun x y H Q => ∃ b j, x = .bl b ∧ y = .int j ∧ Q (.int (g (b2 b) j)) H
theorem op_addBI {X : Cx} : OpR X (binaryOp .Add) (rBI (· + ·)) := by
  intro pins s σ H x y v u Q I rx ry h
  obtain ⟨b, j, rfl, rfl, q⟩ := h
  cases rx
  obtain ⟨t, rfl⟩ := ry
  exact PySem.IntBool.add_bool_int ⟨.int _, H, I.tok _, ⟨_, rfl⟩, q⟩
theorem op_subBI {X : Cx} : OpR X (binaryOp .Sub) (rBI (· - ·)) := by
  intro pins s σ H x y v u Q I rx ry h
  obtain ⟨b, j, rfl, rfl, q⟩ := h
  cases rx
  obtain ⟨t, rfl⟩ := ry
  exact PySem.IntBool.sub_bool_int ⟨.int _, H, I.tok _, ⟨_, rfl⟩, q⟩
def rAddA (K : PySem.W.Frag) : R2 := fun x y H Q => (rAddU K x y H Q ∨ rCatA K x y H Q) ∨ rBI (· + ·) x y H Q
theorem op_addA {X : Cx} : OpR X (binaryOp .Add) (rAddA X.K) := OpR.or (OpR.or op_addU op_catA) op_addBI
def rSubA : R2 := fun x y H Q => rI0 (fun i j => .int (i - j)) x y H Q ∨ rBI (· - ·) x y H Q
theorem op_subA {X : Cx} : OpR X (binaryOp .Sub) rSubA := OpR.or op_sub op_subBI
theorem prim_addA {K : PySem.W.Frag} : Prim2 K (rAddA K) addAD := by
  intro F H x y a b Q hF hx hy h
  cases a <;> cases b <;> first | exact (show False from h).elim | skip
  · cases hx; cases hy
    exact .inr ⟨_, _, rfl, rfl, Kd.now (d := .int _) h (.int _)⟩
  · exact .inl (.inl (prim_add F H x y _ _ Q hF hx hy h))
  · exact .inl (.inl (prim_add F H x y _ _ Q hF hx hy h))
  · exact .inl (.inl (prim_add F H x y _ _ Q hF hx hy h))
  · obtain ⟨p, xs, rfl, e1, d1⟩ := hx.sqt
    obtain ⟨q, ys, rfl, e2, d2⟩ := hy.sqt
    refine .inl (.inr ⟨p, q, xs, ys, rfl, rfl, e1, e2, by rw [d1.length, d2.length]; exact h.1, fun z => ?_, fun _ z => ?_, fun _ _ => new_tup hF (d1.append d2) h.2⟩)
    · have z2 := d1.nil_iff.mp z
      subst z2
      have h2 := h.2
      rw [List.nil_append] at h2
      exact h2.now hy
    · have z2 := d2.nil_iff.mp z
      subst z2
      have h2 := h.2
      rw [List.append_nil] at h2
      exact h2.now hx
theorem prim_subA {K : PySem.W.Frag} : Prim2 K rSubA subAD := by
  intro F H x y a b Q hF hx hy h
  cases a <;> cases b <;> first | exact (show False from h).elim | skip
  · cases hx; cases hy
    exact .inr ⟨_, _, rfl, rfl, Kd.now (d := .int _) h (.int _)⟩
  · exact .inl (prim_sub F H x y _ _ Q hF hx hy h)
theorem em_addA {X : Cx} {a b : Expr} {ma mb : M D} {pos : Pos} (ha : EM X a ma) (hb : EM X b mb) : EM X (.BinOp a .Add b pos) (mBin addAD ma mb) := em_op op_addA prim_addA pm_addA ha hb
theorem em_subA {X : Cx} {a b : Expr} {ma mb : M D} {pos : Pos} (ha : EM X a ma) (hb : EM X b mb) : EM X (.BinOp a .Sub b pos) (mBin subAD ma mb) := em_op op_subA prim_subA pm_subA ha hb
/-! ### str of a truth -/
def strAD : PC1
  | [.int i], k => i.natAbs.log2 < 1920 ∧ k (.str (toString i))
  | [.bool b], k => k (.str (if b = true then "True" else "False"))
  | _, _ => False
theorem pm_strA : ∀ ds, Pm1 (strAD ds) := by
  intro ds k k' w q
  unfold strAD at q ⊢
  split at q
  · exact ⟨q.1, w _ q.2⟩
  · exact w _ q
  · exact q.elim
theorem call_strA {X : Cx} : CallR X (.type "str") (fun xs H Q => (∃ i, xs = [.int i] ∧ i.natAbs.log2 < 1920 ∧ Q (.str (toString i)) H) ∨ ∃ b, xs = [.bl b] ∧ Q (.str (if b = true then "True" else "False")) H) := by
  intro pins s σ H xs us Q I r h
  rcases h with h | ⟨b, rfl, q⟩
  · exact call_str_int pins s σ H xs us Q I r h
  · obtain ⟨u, rfl, rfl⟩ := vals1 r
    exact PySem.P.str_of_bool ⟨.str _, H, I.tok _, ⟨_, rfl⟩, q⟩
theorem prim_strA {K : PySem.W.Frag} : PrimC K (fun xs H Q => (∃ i, xs = [V.int i] ∧ i.natAbs.log2 < 1920 ∧ Q (.str (toString i)) H) ∨ ∃ b, xs = [V.bl b] ∧ Q (.str (if b = true then "True" else "False")) H) strAD := by
  intro F H vs ds Q hF hd h
  unfold strAD at h
  split at h
  · obtain ⟨v, rfl, dv⟩ := dx_one hd
    cases dv
    exact .inl ⟨_, rfl, h.1, h.2.now (.str _)⟩
  · obtain ⟨v, rfl, dv⟩ := dx_one hd
    cases dv
    exact .inr ⟨_, rfl, Kd.now (d := .str _) h (.str _)⟩
  · exact h.elim
theorem em_strA {X : Cx} {p pos : Pos} {e : Expr} {m : M (List D)} (hm : X.mg "str" = none) (ha : AM X [e] m) (hg : Gl X "str" := by rfl) (he : starEach [e] X.env = (false, eval e X.env) :: starEach [] X.env := by rfl) (hpl : (backTo pos (starEach [] X.env)).any (·.1) = false := by rfl) : EM X (.Call (.Name "str" p) [e] [] pos) (mCall strAD m) :=
  em_callTy call_strA prim_strA pm_strA hg hm PyProof.Rows.boot_str ha (he := he) (hpl := hpl)
/-! ### repr of anything -/
def ShowsA : D → Prop
  | .none => True
  | .bool _ => True
  | .int i => i.natAbs.log2 < 1920
  | .str x => (reprText x).length ≤ sizeLine
  | d => Shows d
def reprAD : PC1
  | [d], k => ShowsA d ∧ k (.str d.shown)
  | _, _ => False
theorem pm_reprA : ∀ ds, Pm1 (reprAD ds) := by
  intro ds k k' w q
  match ds with
  | [] => exact q
  | [d] => exact ⟨q.1, w _ q.2⟩
  | d :: e :: r => exact q
def rReprA (K : PySem.W.Frag) : List V → Hp → VK → Prop := fun xs H Q => ∃ v d, xs = [v] ∧ Dp K H v d ∧ ShowsA d ∧ Q (.str d.shown) H
theorem call_reprA {X : Cx} (gd : X.A.guards = some []) (un : X.A.units + 64 < PySem.cLine) : CallR X (.builtin "repr") (rReprA X.K) := by
  intro pins s σ H xs us Q I r h
  obtain ⟨v, d, rfl, hd, hs, q⟩ := h
  cases d with
  | none =>
    cases hd
    obtain ⟨u, rfl, rfl⟩ := vals1 r
    rw [PyData.shown_none] at q
    exact PySem.P.repr_of_none ⟨.str _, H, I.tok _, ⟨_, rfl⟩, q⟩
  | bool b =>
    cases hd
    obtain ⟨u, rfl, rfl⟩ := vals1 r
    rw [PyData.shown_bool] at q
    exact PySem.P.repr_of_bool ⟨.str _, H, I.tok _, ⟨_, rfl⟩, by cases b <;> exact q⟩
  | int i =>
    cases hd
    obtain ⟨u, rfl, t, rfl⟩ := vals1 r
    rw [PyData.shown_int] at q
    exact PySem.P.repr_of_int hs ⟨.str _, H, I.tok _, ⟨_, rfl⟩, q⟩
  | str x =>
    cases hd
    obtain ⟨u, rfl, t, rfl⟩ := vals1 r
    rw [PyData.shown_str] at q
    exact PySem.P.repr_of_str ⟨.str _, H, I.tok _, ⟨_, rfl⟩, q⟩ hs
  | list ds =>
    cases hd with
    | lst e a => exact call_repr gd un pins s σ H _ us Q I r ⟨_, _, rfl, .lst e a, hs, q⟩
  | tuple ds =>
    cases hd with
    | tup e a => exact call_repr gd un pins s σ H _ us Q I r ⟨_, _, rfl, .tup e a, hs, q⟩
  | dict l => cases hd
theorem prim_reprA {K : PySem.W.Frag} : PrimC K (rReprA K) reprAD := by
  intro F H vs ds Q hF hd h
  match ds with
  | [] => exact (show False from h).elim
  | d :: e :: r => exact (show False from h).elim
  | [d] =>
    obtain ⟨v, rfl, dx⟩ := dx_one hd
    refine ⟨v, d, rfl, ?_, h.1, h.2.now (.str _)⟩
    cases d with
    | none => cases dx; exact .non
    | bool b => cases dx; exact .bl b
    | int i => cases dx; exact .int i
    | str x => cases dx; exact .str x
    | list ds => exact Dx.dp _ _ (show Shows _ from h.1).lay dx
    | tuple ds => exact Dx.dp _ _ (show Shows _ from h.1).lay dx
    | dict l => exact Dx.dp _ _ (show Shows _ from h.1).lay dx
theorem em_reprA {X : Cx} {p pos : Pos} {e : Expr} {m : M (List D)} {k : Nat} (hr : Rm k X.A) (hm : X.mg "repr" = none) (ha : AM X [e] m) (hg : Gl X "repr" := by rfl) (he : starEach [e] X.env = (false, eval e X.env) :: starEach [] X.env := by rfl) (hpl : (backTo pos (starEach [] X.env)).any (·.1) = false := by rfl) :
    EM X (.Call (.Name "repr" p) [e] [] pos) (mCall reprAD m) :=
  em_callB (call_reprA hr.gd hr.units) prim_reprA pm_reprA hg hm (by decide +kernel) ha (he := he) (hpl := hpl)
end DL

/-! tuple(text), list(text); x[::-1] of texts and tuples; dict displays of texts to ints, d.get(x, i). -/
namespace DL
open PySem PySem.Spec PyProof.Rows L2
/-! ### tuple(text), list(text) -/
def signsL (z : Str) : List Str := z.cps.toList.map fun c => ⟨#[c]⟩
theorem signs_vals {z : Str} {acc : Array Value} (h : ItemsOf (SignAt z) acc z.cps.size) : Vals ((signsL z).map V.str) acc.toList := by
  have e : ∀ i, i < z.cps.size → ∃ c u, z.cps[i]? = some c ∧ acc.toList[i]? = some (.str ⟨#[c]⟩ u) := fun i hi => by
    have hi' : i < acc.size := by rw [h.1]; exact hi
    obtain ⟨c, u, h1, h2⟩ := h.2 i acc[i] (Array.getElem?_eq_getElem hi')
    exact ⟨c, u, h1, by rw [Array.getElem?_toList, Array.getElem?_eq_getElem hi', h2]⟩
  have : ∀ (cs : List Nat) (vs : List Value), vs.length = cs.length → (∀ i, i < cs.length → ∃ c u, cs[i]? = some c ∧ vs[i]? = some (.str ⟨#[c]⟩ u)) → Vals (cs.map fun c => V.str ⟨#[c]⟩) vs := by
    intro cs
    induction cs with
    | nil => intro vs hl _; cases vs with | nil => exact .nil | cons _ _ => cases hl
    | cons c cs ih =>
      intro vs hl h
      cases vs with
      | nil => cases hl
      | cons v vs =>
        obtain ⟨c', u, e1, e2⟩ := h 0 (by simp)
        cases e1
        cases e2
        exact .cons ⟨u, rfl⟩ (ih vs (by simpa using hl) fun i hi => h (i + 1) (by simpa using hi))
  have l := h.1
  have := this z.cps.toList acc.toList (by rw [Array.length_toList, Array.length_toList, h.1]) fun i hi => by
    obtain ⟨c, u, h1, h2⟩ := e i (by simpa using hi)
    exact ⟨c, u, by rw [Array.getElem?_toList]; exact h1, h2⟩
  unfold signsL
  rw [List.map_map]; exact this
theorem signs_len (z : Str) : ((signsL z).map V.str).length = z.length := by
  unfold signsL
  rw [List.length_map, List.length_map, Array.length_toList]; rfl
def rTupS : List V → Hp → VK → Prop := fun xs H Q => ∃ z, xs = [V.str z] ∧ z.length ≤ sizeLine ∧ ∀ p, H p = none → Q (.ref p) (upd H p (.tup ((signsL z).map V.str)))
def rLstS : List V → Hp → VK → Prop := fun xs H Q => ∃ z, xs = [V.str z] ∧ z.length ≤ sizeLine ∧ ∀ p, H p = none → Q (.ref p) (upd H p (.lst ((signsL z).map V.str)))
theorem call_tupS {X : Cx} (hc : X.calm = true) : CallR X (.type "tuple") rTupS := by
  intro pins s σ H xs us Q I r h
  obtain ⟨z, rfl, hz, q⟩ := h
  obtain ⟨u, rfl, t, rfl⟩ := vals1 r
  refine call_tuple_str (I.ok.hd hc) z t (fun h' tk acc kp ha => ?_) hz
  have I1 : Inv X pins σ H { s with heap := h', toks := tk } := I.kept kp
  have I2 : Inv X pins σ (upd H h'.objs.size (.tup ((signsL z).map V.str))) { s with heap := h'.push { cls := .type "tuple", data := .seq acc }, toks := tk } :=
    I1.laid (t' := tk) (fun b o e => Heap.get?_push_of_some _ e) (Nat.le_refl _) (show ObjOk X.prog X.w _ _ _ (.tup ((signsL z).map V.str)) from ⟨by rw [signs_len]; exact hz, acc.toList, signs_vals ha, by simpa using IsTup.new h' acc⟩)
  exact ⟨.ref h'.objs.size, _, I2, rfl, q _ (I1.hok.fresh (Nat.le_refl _))⟩
theorem call_lstS {X : Cx} (hc : X.calm = true) : CallR X (.type "list") rLstS := by
  intro pins s σ H xs us Q I r h
  obtain ⟨z, rfl, hz, q⟩ := h
  obtain ⟨u, rfl, t, rfl⟩ := vals1 r
  refine call_list_str (I.ok.hd hc) z t (fun h' tk acc c' kp e ha => ?_) hz
  exact ⟨.ref s.heap.objs.size, _, I.laid (t' := tk) kp (Nat.le_refl _) (show ObjOk X.prog X.w _ h' _ (.lst ((signsL z).map V.str)) from ⟨by rw [signs_len]; exact hz, acc.toList, c', signs_vals ha, by simpa using e⟩), rfl, q _ (I.hok.fresh (Nat.le_refl _))⟩
theorem dxs_signs {K : PySem.W.Frag} {H : Hp} {F : AS} (z : Str) : DxAll K H F ((signsL z).map V.str) ((signsL z).map PyData.str) := dxs_strs _
def tupSD : PC1
  | [.str z], k => z.length ≤ sizeLine ∧ k (.tuple ((signsL z).map PyData.str))
  | _, _ => False
theorem pm_tupS : ∀ ds, Pm1 (tupSD ds) := by
  intro ds k k' w q
  unfold tupSD at q ⊢
  split at q
  · exact ⟨q.1, w _ q.2⟩
  · exact q.elim
theorem prim_tupS {K : PySem.W.Frag} : PrimC K rTupS tupSD := by
  intro F H vs ds Q hF hd h
  unfold tupSD at h
  split at h
  · obtain ⟨v, rfl, dv⟩ := dx_one hd
    cases dv
    exact ⟨_, rfl, h.1, new_tup hF (dxs_signs _) h.2⟩
  · exact h.elim
section
variable {X : Cx} {p pos : Pos} {e : Expr}
theorem em_tupS {m : M (List D)} (hc : X.calm = true) (hm : X.mg "tuple" = none) (ha : AM X [e] m) (hg : Gl X "tuple" := by rfl) (he : starEach [e] X.env = (false, eval e X.env) :: starEach [] X.env := by rfl) (hpl : (backTo pos (starEach [] X.env)).any (·.1) = false := by rfl) : EM X (.Call (.Name "tuple" p) [e] [] pos) (mCall tupSD m) :=
  em_callTy (call_tupS hc) prim_tupS pm_tupS hg hm PyProof.Rows.boot_tuple ha (he := he) (hpl := hpl)
def mListS (m : M D) : M (List D) := fun ρ k => m ρ fun d ρ1 => match d with
  | .str z => z.length ≤ sizeLine ∧ k ((signsL z).map PyData.str) ρ1
  | _ => False
theorem nm_listS {m : M D} (hc : X.calm = true) (hm : X.mg "list" = none) (ha : EM X e m) (hg : Gl X "list" := by rfl) (he : starEach [e] X.env = (false, eval e X.env) :: starEach [] X.env := by rfl) (hpl : (backTo pos (starEach [] X.env)).any (·.1) = false := by rfl) :
    NM X (.Call (.Name "list" p) [e] [] pos) (mListS m) := by
  refine ⟨fun ρ k k' w q => ha.mono ρ _ _ (fun d ρ1 q1 => by cases d <;> first | exact q1.elim | exact ⟨q1.1, w _ _ q1.2⟩) q, pe_weak (pe_callTy (call_lstS hc) hg hm PyProof.Rows.boot_list (pa_cons ha.run pa_nil he) (he := he) (hpl := hpl)) ?_⟩
  rintro σ H Q ⟨G, loc, ρ, R, q⟩
  refine ⟨G, loc, ρ, R, ha.mono ρ _ _ (fun d ρ1 q1 v H1 R1 g1 d1 => ?_) q⟩
  cases d <;> first | exact (show False from q1).elim | skip
  cases d1
  refine ⟨_, rfl, q1.1, fun l hl => ?_⟩
  obtain ⟨a1, a2, a3, a4, a5, a6⟩ := new_list R1 (dxs_signs (K := X.K) (H := H1) (F := Fb G.fb ρ1 loc) _) hl
  exact q1.2 l _ _ a1 a2 a3 a4 (g1.trans a5) a6
end
/-! ### dict displays of texts to ints -/
def litT (l : List (Str × Int)) : List (TE × TE) := l.map fun p => (tC (.str p.1), tC (.int p.2))
theorem lit_pairs : ∀ (l : List (Str × Int)) {σ : L2.St} {H : Hp} {Q : List (V × V) → Hp → Prop}, Q (l.map fun p => (V.str p.1, V.int p.2)) H → tPairs (litT l) σ H Q
  | [], _, _, _, q => q
  | p :: l, σ, H, Q, q => lit_pairs l (Q := fun ps H3 => Q ((V.str p.1, V.int p.2) :: ps) H3) q
theorem em_dlit {X : Cx} {pos : Pos} {keys : List (Option Expr)} {values : List Expr} (l : List (Str × Int)) (h : PPs X pos keys values (litT l)) (nd : (l.map (·.1)).Nodup) (l15 : l.length ≤ 15) (hall : keys.all (·.isSome) = true) (hl : keys.length = values.length) (h0 : keys ≠ []) (h15 : keys.length ≤ 15) :
    EM X (.Dict keys values pos) (mPure (.dict (dsiD l))) := by
  refine ⟨mono_pure, pe_weak (pe_disp h hall hl h0 h15) ?_⟩
  rintro σ H Q ⟨G, loc, ρ, R, q⟩
  intro p hp
  refine lit_pairs l ⟨upd_same, dsiV l, ?_, by unfold dsiV; rw [List.length_map]; exact l15, ?_⟩
  · unfold dsiV
    rw [List.map_map]; rfl
  · have e : mergeK [] (dsiV l) = dsiV l := by
      rw [merge_new, List.nil_append]
      rw [List.nil_append]
      unfold dsiV
      rw [List.map_map]
      refine List.pairwise_map.mpr ?_
      exact (List.pairwise_map.mp nd).imp fun h e => h (Sum.inr.inj e)
    rw [e]
    have m : ∀ b o, H b = some o → upd (upd H p (.dK [])) p (.dK (dsiV l)) b = some o := fun b o z => by
      have ne : b ≠ p := fun y => by rw [y, hp] at z; cases z
      rw [upd_ne ne, upd_ne ne]; exact z
    exact q _ _ (R.more m) (more_grow m) (.dsi l rfl (R.notFb hp) upd_same)
/-- d.get(x, y) of texts to ints -/
def mGetI (mo mi md : M D) : M D := fun ρ k => mo ρ fun a ρ1 => ∃ l, a = .dict (dsiD l) ∧ mi ρ1 fun b ρ2 => md ρ2 fun c ρ3 => ∃ x z, b = .str x ∧ c = .int z ∧ k (.int (((l.find? fun kv => decide (kv.1 = x)).map (·.2)).getD z)) ρ3
theorem dsiV_valO (l : List (Str × Int)) (x : Str) : valV (dsiV l) (Sum.inr x : Key) = ((l.find? fun kv => decide (kv.1 = x)).map fun kv => V.int kv.2) := by
  unfold valV dsiV
  rw [List.find?_map]
  have : ((fun kv : Key × V => decide (kv.1 = (Sum.inr x : Key))) ∘ fun p : Str × Int => ((Sum.inr p.1 : Key), V.int p.2)) = fun kv => decide (kv.1 = x) := by
    funext kv
    show decide ((Sum.inr kv.1 : Key) = Sum.inr x) = decide (kv.1 = x)
    exact decide_eq_decide.mpr ⟨fun z => Sum.inr.inj z, fun z => by rw [z]⟩
  rw [this, Option.map_map]; rfl
theorem em_getI {X : Cx} {o e f : Expr} {mo mi md : M D} {apos cpos : Pos} (hu : X.A.units + 1 < cLine) (ho : EM X o mo) (he : EM X e mi) (hf : EM X f md)
    (base : attributeBase o "get" X.env (eval o X.env) = eval o X.env := by rfl)
    (few : ((backTo cpos (starEach [e, f] X.env)).all (fun x => !x.1) && (backToKw cpos (keywordEach [] X.env)).all (fun x => x.1.isSome)
      && decide (([e, f] : List Expr).length + ([] : List Keyword).length + (if ([] : List Keyword).isEmpty then 0 else 1) < 30)) = true := by rfl)
    (line : (apos.endLine == cpos.line) = true := by rfl)
    (trees : backTo cpos (starEach [e, f] X.env) = [(false, eval e X.env), (false, eval f X.env)] := by rfl) : EM X (.Call (.Attribute o "get" apos) [e, f] [] cpos) (mGetI mo mi md) := by
  refine ⟨fun ρ k k' w q => ho.mono ρ _ _ (fun a ρ1 ⟨l, e1, q1⟩ => ⟨l, e1, he.mono ρ1 _ _ (fun b ρ2 q2 => hf.mono ρ2 _ _ (fun c ρ3 ⟨x, z, e2, e3, q3⟩ => ⟨x, z, e2, e3, w _ _ q3⟩) q2) q1⟩) q, pe_weak (pe_dget2 hu ho.run he.run hf.run ⟨base, few, line, trees⟩) ?_⟩
  rintro σ H Q ⟨G, loc, ρ, R, q⟩
  refine ⟨G, loc, ρ, R, ho.mono ρ _ _ (fun a ρ1 q1 v H1 R1 g1 d1 => ?_) q⟩
  obtain ⟨l, rfl, q1⟩ := q1
  obtain ⟨p, rfl, e1, n1⟩ := d1.dsiA
  refine ⟨p, rfl, .inl ⟨_, .inl e1⟩, G, loc, ρ1, R1, he.mono ρ1 _ _ (fun b ρ2 q2 u H2 R2 g2 d2 => ?_) q1⟩
  refine ⟨G, loc, ρ2, R2, hf.mono ρ2 _ _ (fun c ρ3 q3 w H3 R3 g3 d3 => ?_) q2⟩
  obtain ⟨x, z, rfl, rfl, q4⟩ := q3
  obtain ⟨e2, n2⟩ := g2 _ _ e1 n1
  obtain ⟨e3, n3⟩ := g3 _ _ e2 n2
  cases d2
  cases d3
  refine ⟨valV (dsiV l) (Sum.inr x : Key), .inl ⟨_, Sum.inr x, .inl e3, rfl, rfl⟩, ?_⟩
  have e4 : (valV (dsiV l) (Sum.inr x : Key)).getD (V.int z) = V.int (((l.find? fun kv => decide (kv.1 = x)).map (·.2)).getD z) := by
    rw [dsiV_valO]
    cases l.find? fun kv => decide (kv.1 = x) with
    | none => rfl
    | some kv => rfl
  rw [e4]
  exact q4 _ H3 R3 ((g1.trans g2).trans g3) (.int _)
end DL

/-! x[::-1] of texts and tuples. -/
namespace DL
open PySem PySem.Spec PyProof.Rows L2 HT
section
variable {prog : Program} {w : World} {A : Around} {E : Value → Shared → Prop} {s : Shared}
theorem sliceApplied_rev {sl : Addr} {vs : Value} {n : Nat} {Q : Int × Int × Nat → Shared → Prop} (hs : s.heap.IsSliceOf sl .none .none vs) (ps : IsPart vs (some (-1)))
    (h : Q ((n : Int) - 1, -1, n) s) : wpAny (model prog w) A (Builtin.Slice.sliceApplied (.ref sl) (pure (n : Int))) Q E s := by
  obtain ⟨os, hos, hcs, hds⟩ := id hs
  unfold Builtin.Slice.sliceApplied Builtin.Slice.sliceFields
  refine wpAny_bind (wpAny_bind (wpAny_field hos hds (x := .none) rfl (wpAny_bind (wpAny_field hos hds (x := .none) rfl (wpAny_bind (wpAny_field hos hds (x := vs) rfl (wpAny_pure ?_)))))))
  refine wpAny_bind (slicePart_ ps ?_)
  show wpAny _ _ (if ((-1 : Int) == 0) = true then _ else _) _ _ s
  rw [if_neg (by decide)]
  refine wpAny_bind (slicePart_none (wpAny_bind (slicePart_none (wpAny_bind (wpAny_pure ?_)))))
  have e : Builtin.Slice.slicePlaces ((n : Int) - 1) (-1) (-1) = n := by
    unfold Builtin.Slice.slicePlaces
    rw [if_neg (by decide)]
    split <;> simp <;> omega
  show wpAny _ _ (pure ((n : Int) - 1, (-1 : Int), Builtin.Slice.slicePlaces ((n : Int) - 1) (-1) (-1))) _ _ s
  rw [e]
  exact wpAny_pure h
theorem pick_rev (xs : Array Value) : ((List.range xs.size).filterMap fun (m : Nat) => xs[(((xs.size : Nat) : Int) - 1 + (m : Int) * -1).toNat]?) = xs.toList.reverse := by
  have e : (fun (m : Nat) => xs[(((xs.size : Nat) : Int) - 1 + (m : Int) * -1).toNat]?) = (fun m => xs[xs.size - 1 - m]?) := by
    funext m
    have : (((xs.size : Nat) : Int) - 1 + (m : Int) * -1).toNat = xs.size - 1 - m := by omega
    rw [this]
  have e2 : (fun m => xs[xs.size - 1 - m]?) = (fun k => xs[k]?) ∘ fun m => xs.size - 1 - m := rfl
  rw [e, e2, ← List.filterMap_map, PySem.W.krv_range, List.filterMap_reverse, PySem.W.krv_all]
theorem getItem_tuple_rev {t sl : Addr} {items : Array Value} {vs : Value} {Q : Value → Shared → Prop} (ht : IsTup s.heap t items) (hs : s.heap.IsSliceOf sl .none .none vs) (ps : IsPart vs (some (-1)))
    (h : Q (.ref s.heap.objs.size) { s with heap := s.heap.push { cls := .type "tuple", data := .seq items.toList.reverse.toArray } }) (hsz : items.size ≤ sizeLine) : wpAny (model prog w) A (getItem (.ref t) (.ref sl)) Q E s := by
  have htake : sizeOk (.seq items.toList.reverse.toArray) := by
    show items.toList.reverse.toArray.size ≤ sizeLine
    simpa using hsz
  obtain ⟨os, hos, hcs, hds⟩ := id hs
  have hTs : s.TypeIs (.ref sl) "slice" := ⟨os, hos, hcs⟩
  unfold getItem
  try with_reducible refine wpAny_holding ?_
  first | refine wpAny_bind (wpAny_pure ?_) | skip
  refine wpAny_bind (wpAny_sequenceKey ht.typeIs (by decide) ?_)
  refine wpAny_bind (wpAny_callSpecial?_slot (name := Str.ofString "__getitem__") ht.typeIs PyProof.Rows.slot_tuple_getitem
    (wpAny_call_entry PyProof.Rows.slot_tuple_getitem ht.typeIs entry_tuple_getitem ?_ (args_tuple_getitem _ _)))
  show wpAny _ _ (Builtin.Tuple.tupleItemsOf (.ref t) >>= _) _ _ s
  refine wpAny_bind (tupleItemsOf_ ht ?_)
  refine wpAny_bind (wpAny_typeOf hTs ?_)
  rw [if_pos (by decide)]
  refine wpAny_bind (sliceApplied_rev hs ps ?_)
  have hno : ¬ ((((items.size : Nat) : Int) - 1 == 0 && (-1 : Int) == 1 && items.size == items.size) = true) := by
    intro q
    rw [Bool.and_eq_true, Bool.and_eq_true] at q
    exact absurd q.1.2 (by decide)
  show wpAny _ _ (if (((items.size : Nat) : Int) - 1 == 0 && (-1 : Int) == 1 && items.size == items.size) = true then _ else _) _ _ s
  rw [if_neg hno, pick_rev]
  first
    | exact wpAny_bind (m := Builtin.Tuple.tupleExact _) (wpAny_newObj_type (wpAny_pure ⟨_, rfl, wpAny_pure h⟩) htake)
    | exact wpAny_bind (m := Builtin.Tuple.tupleExact _) (wpAny_newObj_type (wpAny_bind (wpAny_pure (wpAny_pure ⟨_, rfl, wpAny_pure h⟩))) htake)
    | exact wpAny_bind (wpAny_bind (m := Builtin.Tuple.tupleExact _) (wpAny_newObj_type (wpAny_pure (wpAny_pure ⟨_, rfl, wpAny_pure h⟩)) htake))
    | exact wpAny_bind (wpAny_bind (m := Builtin.Tuple.tupleExact _) (wpAny_newObj_type (wpAny_pure ⟨_, rfl, wpAny_pure h⟩) htake))
end
def tRevA (K : PySem.W.Frag) (te : TE) : TE := fun σ H Q => te σ H fun x H1 => (∃ z, x = .str z ∧ z.length ≤ sizeLine ∧ Q (.str (revS z)) H1) ∨ ∃ a xs, x = .ref a ∧ SqT K H1 a xs ∧ ∀ p, H1 p = none → Q (.ref p) (upd H1 p (.tup xs.reverse))
theorem vals_rev : ∀ {xs : List V} {us : List Value}, Vals xs us → Vals xs.reverse us.reverse
  | _, _, .nil => .nil
  | _, _, .cons r t => by
    rw [List.reverse_cons, List.reverse_cons]
    exact Vals.append (vals_rev t) (.cons r .nil)
theorem pe_revA {X : Cx} {e : Expr} {te : TE} {k : Nat} {p1 p2 p3 pos : Pos} (he : PE X e te) : PE X (.Subscript e (.Slice none none (some (.UnaryOp .USub (.Constant (.int 1) k p1) p2)) p3) pos) (tRevA X.K te) := by
  refine ⟨fun pins s σ H Q I h => ?_⟩
  refine Subscript_ (thn (he.run pins s σ H _ I h) fun v s1 ⟨x, H1, I1, r1, q1⟩ => ?_)
  have hst : PO X (some (.UnaryOp .USub (.Constant (.int 1) k p1) p2)) (tPart (tUn (rU fun i => .int (-i)) (tC (.int 1)))) := po_some (pe_un un_neg pe_int)
  refine wpAny_Slice (thn (po_none.run pins s1 σ H1 (fun o H2 => o = none ∧ H2 = H1) I1 ⟨rfl, rfl⟩) fun vl s2 ⟨l, H2, I2, pl, el, e2⟩ => ?_)
  subst el e2
  refine thn (po_none.run pins s2 σ H2 (fun o H3 => o = none ∧ H3 = H2) I2 ⟨rfl, rfl⟩) fun vu s3 ⟨u, H3, I3, pu, eu, e3⟩ => ?_
  subst eu e3
  refine thn (hst.run pins s3 σ H3 (fun o H4 => o = some (-1) ∧ H4 = H3) I3 ⟨1, rfl, -1, rfl, rfl, rfl⟩) fun vs s4 ⟨o, H4, I4, ps, eo, e4⟩ => ?_
  subst eo e4
  rcases q1 with ⟨z, ex, hz, q⟩ | ⟨a, xs, ex, hx, q⟩
  · subst ex
    obtain ⟨t, rfl⟩ := r1
    obtain ⟨l', rfl, el⟩ := IsPart.raw pl
    obtain ⟨u', rfl, eu⟩ := IsPart.raw pu
    obtain ⟨s', rfl, es⟩ := IsPart.raw ps
    have I5 : Inv X pins σ H4 { s4 with heap := s4.heap.push { cls := .type "slice", data := .fields #[partValue l', partValue u', partValue s'] } } := I4.kept (t' := s4.toks) fun b ob q => Heap.get?_push_of_some _ q
    show wpAny (model X.prog X.w) X.A (subscriptTail e (.Slice none none (some (.UnaryOp .USub (.Constant (.int 1) k p1) p2)) p3) (.str z t) (.ref s4.heap.objs.size)) (EP X pins σ Q) X.xe _
    refine tail_any (ops := [.str z t, .ref s4.heap.objs.size]) (typeIs_str _ _ _) F.slot_str_getitem.lookup ?_ (by with_unfolding_all rfl)
    refine wpAny_getItem_str_slice (l := l') (u := u') (st := s') ⟨_, Heap.get?_push_size _ rfl, rfl, rfl⟩ (by rw [es]; rfl) ?_
    have hpick : slicePicked z l' u' s' = (List.range z.cps.size).reverse := by
      unfold slicePicked
      rw [el, eu, es]
      show sliceRange ((z.cps.size : Int) - 1) (-1) (-1) = _
      rw [PySem.W.krv_sliceRange, PySem.W.krv_range]
    have hfm : ((slicePicked z l' u' s').filterMap (z.cps[·]?)) = z.cps.toList.reverse := by
      rw [hpick, List.filterMap_reverse, PySem.W.krv_all]
    unfold sliceMade
    rw [es, if_neg (by intro h; cases (Bool.and_eq_true_iff.mp h).1), hfm]
    exact ⟨by show z.cps.toList.reverse.toArray.size ≤ sizeLine; simpa [Str.length] using hz, .str (revS z), H4, I5.tok _, ⟨_, rfl⟩, q⟩
  · subst ex
    cases r1
    have I5 : Inv X pins σ H4 { s4 with heap := s4.heap.push { cls := .type "slice", data := .fields #[vl, vu, vs] } } := I4.kept (t' := s4.toks) fun b ob q => Heap.get?_push_of_some _ q
    cases pl
    cases pu
    obtain ⟨its, r, ht, hz⟩ := I5.tuple hx
    show wpAny (model X.prog X.w) X.A (subscriptTail e (.Slice none none (some (.UnaryOp .USub (.Constant (.int 1) k p1) p2)) p3) (.ref a) (.ref s4.heap.objs.size)) (EP X pins σ Q) X.xe _
    refine tail_any (ops := [.ref a, .ref s4.heap.objs.size]) ht.typeIs PyProof.Rows.slot_tuple_getitem.lookup ?_ (by with_unfolding_all rfl)
    refine getItem_tuple_rev ht ⟨_, Heap.get?_push_size _ rfl, rfl, rfl⟩ ps ?_ (by rw [List.size_toArray, ← r.length]; exact hz)
    refine ⟨.ref _, _, I5.laid (t' := s4.toks) (o := .tup xs.reverse) (fun b ob q => Heap.get?_push_of_some _ q) (Nat.le_refl _) ?_, rfl, q _ (I5.hok.fresh (Nat.le_refl _))⟩
    exact ⟨by rw [List.length_reverse]; exact hz, _, vals_rev r, IsTup.new _ _⟩
def mRevA (m : M D) : M D := fun ρ k => m ρ fun d ρ1 => match d with
  | .str z => z.length ≤ sizeLine ∧ k (.str (revS z)) ρ1
  | .tuple xs => k (.tuple xs.reverse) ρ1
  | _ => False
theorem em_revA {X : Cx} {e : Expr} {m : M D} {k : Nat} {p1 p2 p3 pos : Pos} (he : EM X e m) : EM X (.Subscript e (.Slice none none (some (.UnaryOp .USub (.Constant (.int 1) k p1) p2)) p3) pos) (mRevA m) := by
  refine ⟨fun ρ k k' w q => he.mono ρ _ _ (fun d ρ1 q1 => by cases d <;> first | exact q1.elim | exact ⟨q1.1, w _ _ q1.2⟩ | exact w _ _ q1) q, pe_weak (pe_revA he.run) ?_⟩
  rintro σ H Q ⟨G, loc, ρ, R, q⟩
  refine ⟨G, loc, ρ, R, he.mono ρ _ _ (fun d ρ1 q1 v H1 R1 g1 d1 => ?_) q⟩
  cases d <;> first | exact (show False from q1).elim | skip
  · cases d1
    exact .inl ⟨_, rfl, q1.1, q1.2 _ H1 R1 g1 (.str _)⟩
  · obtain ⟨a, xs, rfl, e1, da⟩ := d1.sqt
    refine .inr ⟨a, xs, rfl, e1, fun p hp => ?_⟩
    exact q1 _ _ (R1.more (upd_more hp)) (g1.trans (more_grow (upd_more hp))) (.tup (R1.notFb hp) upd_same (da.rev.g (more_grow (upd_more hp))))
/-! ### a test (x if c else y) -/
def mIfT (m : M Bool) (x y : M Bool) : M Bool := fun ρ k => m ρ fun t ρ1 => if t = true then x ρ1 k else y ρ1 k
theorem tm_ifx {X : Cx} {c a b : Expr} {m x y : M Bool} {pos : Pos} (h : TM X c m) (ha : TM X a x) (hb : TM X b y) : TM X (.IfExp c a b pos) (mIfT m x y) := by
  refine ⟨fun ρ k k' w q => h.mono ρ _ _ (fun t ρ1 q1 => by
    cases t with
    | true => rw [if_pos rfl] at q1 ⊢; exact ha.mono ρ1 _ _ w q1
    | false => rw [if_neg Bool.false_ne_true] at q1 ⊢; exact hb.mono ρ1 _ _ w q1) q, ⟨fun pins s σ H Q I q => ?_⟩⟩
  obtain ⟨G, loc, ρ, R, q⟩ := q
  refine isTrue_IfExp (thn (h.run.run pins s σ H (fun t H1 => (if t = true then TTof X.K x σ H1 Q else TTof X.K y σ H1 Q)) I ⟨G, loc, ρ, R, h.mono ρ _ _ (fun t ρ1 q1 H1 R1 g1 => ?_) q⟩) fun d s1 ⟨H1, I1, q1⟩ => ?_)
  · cases t with
    | true =>
      rw [if_pos rfl] at q1 ⊢
      exact ⟨G, loc, ρ1, R1, ha.mono ρ1 _ _ (fun d ρ2 q2 H2 R2 g2 => q2 H2 R2 (g1.trans g2)) q1⟩
    | false =>
      rw [if_neg Bool.false_ne_true] at q1 ⊢
      exact ⟨G, loc, ρ1, R1, hb.mono ρ1 _ _ (fun d ρ2 q2 H2 R2 g2 => q2 H2 R2 (g1.trans g2)) q1⟩
  · cases d with
    | true => exact ha.run.run pins s1 σ H1 Q I1 q1
    | false => exact hb.run.run pins s1 σ H1 Q I1 q1
end DL

namespace Law
open PySem L2 DL
/-! ### what each def means -/
abbrev hB : Bool := false
def L1__law_folded : SMon := (sAsg (mBin addD (mIxO 2 (mBin modD (mVar 3) (mVar 1))) (mBin mulD (mVar 4) (mBin addD (mVar 3) (mPure (.int 2))))) (gSubD 2 (mBin modD (mVar 3) (mVar 1))))
def G1__law_folded : GMn := (gTupD 2 (gConsD (gVar 3) (gConsD (gVar 4) gNilD)))
def m__law_folded : SMon := (sSeq (sSetN 2 (mListOf (mSlS 0 (mPure none) (mSome (mVar 1)))))
  (sSeq (sFor (mEnum (mCons (mSlS 0 (mSome (mVar 1)) (mSome (mPure (.int 63)))) mNil)) G1__law_folded L1__law_folded)
  (sRetOwn 2)))
def W__law_folded : FS := fnS m__law_folded 3
def m__law_box : SMon := (sSeq (sSet 2 (mIf (mTest (mBin ltD (mVar 1) (mCall lenD (mCons (mVar 0) mNil)))) (mBin ixD (mVar 0) (mVar 1)) (mPure (.int 0))))
  (sRetN (mLen (mCons (mBin mulD (mCall absD (mCons (mVar 2) mNil)) (mCall intD (mCons (mBin geD (mCall absD (mCons (mVar 2) mNil)) (mBin powD (mPure (.int 10)) (mPure (.int 18)))) mNil))) (mCons (mBin modD (mBin mulD (mBin addD (mBin addD (mBin modD (mVar 2) (mPure (.int 2147483629))) (mBin mulD (mPure (.int 15485863)) (mVar 1))) (mPure (.int 43))) (mPure (.int 48271))) (mPure (.int 2147483647))) (mCons (mPure (.int 0)) mNil))))))
def W__law_box : FS := fnS m__law_box 1
def m__law_take : SMon := (sSeq (sIf (mTest (mBin gtD (mIxO 0 (mPure (.int 0))) (mPure (.int 0)))) (sSeq (sAsg (mCall divmodD (mCons (mIxO 0 (mPure (.int 0))) (mCons (mVar 1) mNil))) (gTupD 2 (gConsD (gSubD 0 (mPure (.int 0))) (gConsD (gVar 2) gNilD))))
  (sRet (mVar 2))) sNext)
  (sSeq (sIf (mTest (mBin gtD (mVar 1) (mBin powD (mPure (.int 10)) (mPure (.int 7))))) sNever sNext)
  (sSeq (sAsg (mBin addD (mIxO 0 (mPure (.int 2))) (mPure (.int 1))) (gSubD 0 (mPure (.int 2))))
  (sSeq (sSet 3 (mBin addD (mPure (.int 69621)) (mBin mulD (mIxO 0 (mPure (.int 2))) (mIxO 0 (mPure (.int 2))))))
  (sSeq (sSet 4 (mBin modD (mBin mulD (mBin addD (mIxO 0 (mPure (.int 1))) (mBin mulD (mPure (.int 39373)) (mIxO 0 (mPure (.int 2))))) (mVar 3)) (mPure (.int 2147483587))))
  (sSeq (sSet 5 (mBin modD (mBin addD (mBin mulD (mVar 4) (mBin addD (mBin modD (mVar 4) (mPure (.int 30011))) (mPure (.int 5)))) (mIxO 0 (mPure (.int 2)))) (mPure (.int 2147483563))))
  (sRet (mBin modD (mBin fdivD (mBin modD (mBin mulD (mVar 5) (mBin addD (mBin modD (mVar 5) (mPure (.int 1013))) (mPure (.int 3)))) (mPure (.int 998244353))) (mPure (.int 16))) (mVar 1)))))))))
def W__law_take : FB := fnB m__law_take 4
def E1__law_some_mark : M D := (mBin ixD (mVar 1) (mFnB 1 W__law_take 0 (mCons (mPure (.int 36)) mNil)))
def m__law_some_mark : SMon := (sSeq (sSet 1 (mPure (.str "0123456789abcdefghijklmnopqrstuvwxyz")))
  (sSeq (sSet 2 (mFnB 1 W__law_take 0 (mCons (mPure (.int 6)) mNil)))
  (sSeq (sIf (mTest (mBin ltD (mVar 2) (mPure (.int 2)))) (sRet (mBin ixD (mList (mLen (mCons (mPure (.str "000000")) (mCons (mPure (.str "zzzzzz")) mNil)))) (mVar 2))) sNext)
  (sRet (mMeth joinD (mPure (.str "")) (mCons (mList (mLc (mRng1 (mCons (mPure (.int 6)) mNil)) (gVar 3) (mPure true) E1__law_some_mark [3])) mNil))))))
def W__law_some_mark : FB := fnB m__law_some_mark 3
def m__law_number : SMon := (sRet (mBin ixD (mList (mLen (mCons (mFnB 1 W__law_take 0 (mCons (mPure (.int 4)) mNil)) (mCons (mFnB 1 W__law_take 0 (mCons (mPure (.int 1000)) mNil)) (mCons (mBin subD (mPure (.int 1000002)) (mFnB 1 W__law_take 0 (mCons (mPure (.int 3)) mNil))) mNil))))) (mFnB 1 W__law_take 0 (mCons (mPure (.int 3)) mNil))))
def W__law_number : FB := fnB m__law_number 0
def L1__law_term (self : FB) : SMon := (sDrop (mAppend 10 (mFnB 3 self 0 (mCons (mVar 1) (mCons (mVar 2) (mCons (mBin subD (mVar 3) (mPure (.int 1))) mNil))))))
def G1__law_term (self : FB) : GMn := (gVar 11)
def m__law_term (self : FB) : SMon := (sSeq (sSet 4 (mIf (mTest (mBin gtD (mVar 3) (mPure (.int 1)))) (mFnB 1 W__law_take 0 (mCons (mPure (.int 9)) mNil)) (mFnB 1 W__law_take 0 (mCons (mPure (.int 2)) mNil))))
  (sSeq (sIf (mOr (mTest (mBin eqD (mVar 4) (mPure (.int 0)))) (mAnd (mTest (mBin eqD (mVar 4) (mPure (.int 1)))) (mTest (mBin eqD (mVar 1) (mPure (.int 0)))))) (sRet (mTup (mCons (mPure (.str "num")) (mCons (mFnB 0 W__law_number 0 mNil) mNil)))) sNext)
  (sSeq (sIf (mTest (mBin eqD (mVar 4) (mPure (.int 1)))) (sRet (mTup (mCons (mPure (.str "arg")) (mCons (mFnB 1 W__law_take 0 (mCons (mVar 1) mNil)) mNil)))) sNext)
  (sSeq (sIf (mOr (mTest (mBin ltD (mVar 4) (mPure (.int 5)))) (mAnd (mTest (mBin eqD (mVar 2) (mList (mLen mNil)))) (mTest (mBin gtD (mVar 4) (mPure (.int 5)))))) (sSeq (sPar [5, 6] (mPD (mBin ixD (mList (mLen (mCons (mPure (.str "add")) (mCons (mPure (.str "less")) (mCons (mPure (.str "times")) (mCons (mPure (.str "under")) mNil)))))) (mFnB 1 W__law_take 0 (mCons (mPure (.int 4)) mNil))) (mPD (mFnB 3 self 0 (mCons (mVar 1) (mCons (mVar 2) (mCons (mBin subD (mVar 3) (mPure (.int 1))) mNil)))) (mPure []))))
  (sRet (mTup (mCons (mVar 5) (mCons (mVar 6) (mCons (mFnB 3 self 0 (mCons (mVar 1) (mCons (mVar 2) (mCons (mBin subD (mVar 3) (mPure (.int 1))) mNil)))) mNil)))))) sNext)
  (sSeq (sIf (mTest (mBin eqD (mVar 4) (mPure (.int 5)))) (sSeq (sPar [6, 7] (mPD (mFnB 3 self 0 (mCons (mVar 1) (mCons (mVar 2) (mCons (mBin subD (mVar 3) (mPure (.int 1))) mNil)))) (mPD (mFnB 3 self 0 (mCons (mVar 1) (mCons (mVar 2) (mCons (mBin subD (mVar 3) (mPure (.int 1))) mNil)))) (mPure []))))
  (sRet (mTup (mCons (mPure (.str "if")) (mCons (mVar 6) (mCons (mVar 7) (mCons (mFnB 3 self 0 (mCons (mVar 1) (mCons (mVar 2) (mCons (mBin subD (mVar 3) (mPure (.int 1))) mNil)))) mNil))))))) sNext)
  (sSeq (sAsg (mBin ixD (mVar 2) (mFnB 1 W__law_take 0 (mCons (mCall lenD (mCons (mVar 2) mNil)) mNil))) (gTupD 2 (gConsD (gVar 8) (gConsD (gVar 9) gNilD))))
  (sSeq (sSetN 10 (mLen mNil))
  (sSeq (sFor (mRng1 (mCons (mVar 9) mNil)) (G1__law_term self) (L1__law_term self))
  (sRet (mBin addD (mVar 8) (mTup (mCons (mCall tupleD (mCons (mVar 10) mNil)) mNil))))))))))))
def W__law_term : Nat → FB
  | 0 => fun _ _ _ => False
  | n + 1 => fnB (m__law_term (W__law_term n)) 8
def E1__law_any_term : M D := (mTup (mCons (mTup (mCons (mPure (.str "call")) (mCons (mFnB 0 W__law_some_mark 0 mNil) mNil))) (mCons (mFnB 1 W__law_take 0 (mCons (mPure (.int 5)) mNil)) mNil)))
def E2__law_any_term : M D := (mTup (mCons (mTup (mCons (mPure (.str "ring")) (mCons (mBin ixD (mList (mLen (mCons (mPure (.int 0)) (mCons (mPure (.int 11)) (mCons (mFnB 1 W__law_take 0 (mCons (mPure (.int 12)) mNil)) mNil))))) (mFnB 1 W__law_take 0 (mCons (mPure (.int 3)) mNil))) mNil))) (mCons (mFnB 1 W__law_take 0 (mCons (mPure (.int 5)) mNil)) mNil)))
def L1__law_any_term : SMon := (sSeq (sPar [4, 5] (mPD (mBin ixD (mList (mLen (mCons (mTup (mCons (mPure (.str "num")) (mCons (mFnB 0 W__law_number 0 mNil) mNil))) (mCons (mTup (mCons (mPure (.str "arg")) (mCons (mFnB 1 W__law_take 0 (mCons (mPure (.int 4)) mNil)) mNil))) mNil)))) (mFnB 1 W__law_take 0 (mCons (mPure (.int 2)) mNil))) (mPD (mFnB 1 W__law_take 0 (mCons (mPure (.int 5)) mNil)) (mPure []))))
  (sIf (mTest (mBin ltD (mVar 5) (mPure (.int 2)))) (sSeq (sSet 6 (mBin ixD (mList (mLen (mCons (mTup (mCons (mPure (.str "call")) (mCons (mFnB 0 W__law_some_mark 0 mNil) mNil))) (mCons (mTup (mCons (mPure (.str "ring")) (mCons (mFnB 1 W__law_take 0 (mCons (mPure (.int 12)) mNil)) mNil))) mNil)))) (mVar 5)))
  (sSeq (sSetN 7 (mLen (mCons (mTup (mCons (mVar 2) mNil)) (mCons (mTup (mCons (mVar 4) (mCons (mVar 2) mNil))) (mCons (mTup (mCons (mVar 2) (mCons (mVar 4) mNil))) (mCons (mTup (mCons (mVar 4) (mCons (mVar 4) (mCons (mVar 4) (mCons (mVar 2) mNil))))) (mCons (mTup (mCons (mVar 4) (mCons (mVar 4) (mCons (mVar 2) mNil)))) mNil)))))))
  (sSet 2 (mBin addD (mVar 6) (mTup (mCons (mBin ixD (mVar 7) (mFnB 1 W__law_take 0 (mCons (mPure (.int 5)) mNil))) mNil)))))) (sIf (mTest (mBin eqD (mVar 5) (mPure (.int 2)))) (sSet 2 (mBin addD (mTup (mCons (mPure (.str "if")) mNil)) (mBin ixD (mList (mLen (mCons (mTup (mCons (mVar 2) (mCons (mVar 4) (mCons (mVar 4) mNil)))) (mCons (mTup (mCons (mVar 4) (mCons (mVar 2) (mCons (mVar 4) mNil)))) (mCons (mTup (mCons (mVar 4) (mCons (mVar 4) (mCons (mVar 2) mNil)))) mNil))))) (mFnB 1 W__law_take 0 (mCons (mPure (.int 3)) mNil))))) (sSeq (sSet 8 (mBin ixD (mList (mLen (mCons (mPure (.str "add")) (mCons (mPure (.str "less")) (mCons (mPure (.str "times")) (mCons (mPure (.str "under")) mNil)))))) (mFnB 1 W__law_take 0 (mCons (mPure (.int 4)) mNil))))
  (sSet 2 (mBin addD (mTup (mCons (mVar 8) mNil)) (mBin ixD (mList (mLen (mCons (mTup (mCons (mVar 2) (mCons (mVar 4) mNil))) (mCons (mTup (mCons (mVar 4) (mCons (mVar 2) mNil))) mNil)))) (mBin subD (mVar 5) (mPure (.int 3))))))))))
def G1__law_any_term : GMn := (gVar 3)
def m__law_any_term : SMon := (sSeq (sSetN 1 (mLc (mRng1 (mCons (mPure (.int 2)) mNil)) (gVar 3) (mPure true) E1__law_any_term [3]))
  (sSeq (sSet 1 (mBin addD (mVar 1) (mList (mLc (mRng1 (mCons (mPure (.int 2)) mNil)) (gVar 3) (mPure true) E2__law_any_term [3]))))
  (sSeq (sSet 2 (mFnB 3 (W__law_term 6) 0 (mCons (mBin addD (mPure (.int 1)) (mFnB 1 W__law_take 0 (mCons (mPure (.int 4)) mNil))) (mCons (mVar 1) (mCons (mBin addD (mPure (.int 1)) (mFnB 1 W__law_take 0 (mCons (mPure (.int 3)) mNil))) mNil)))))
  (sSeq (sFor (mRng1 (mCons (mFnB 1 W__law_take 0 (mCons (mPure (.int 6)) mNil)) mNil)) G1__law_any_term L1__law_any_term)
  (sRet (mVar 2))))))
def W__law_any_term : FB := fnB m__law_any_term 8
def m_is_below : SMon := (sRet (mAndV (mIsi "int" (mVar 0)) (mAndV (mNotV (mTest (mIsi "bool" (mVar 0)))) (mChain leD ltD (mPure (.int 0)) (mVar 0) (mVar 1)))))
def W_is_below : FS := fnS m_is_below 0
def m_is_num (self : FS) : SMon := (sRet (mAndV (mBin eqD (mCall lenD (mCons (mVar 0) mNil)) (mPure (.int 1))) (mFn 2 W_is_below (mCons (mBin ixD (mVar 0) (mPure (.int 0))) (mCons (mBin addD (mPure (.int 1000002)) (mPure (.int 1))) mNil)))))
def W_is_num (self : FS) : FS := fnS (m_is_num self) 0
def m_is_arg (self : FS) : SMon := (sRet (mAndV (mBin eqD (mCall lenD (mCons (mVar 0) mNil)) (mPure (.int 1))) (mFn 2 W_is_below (mCons (mBin ixD (mVar 0) (mPure (.int 0))) (mCons (mPure (.int 4)) mNil)))))
def W_is_arg (self : FS) : FS := fnS (m_is_arg self) 0
def E1_are_terms (self : FS) : M D := (mFn 2 self (mCons (mVar 2) (mCons (mVar 1) mNil)))
def m_are_terms (self : FS) : SMon := (sRet (mCall allD (mCons (mList (mLc (mItU 0) (gVar 2) (mPure true) (E1_are_terms self) [2])) mNil)))
def W_are_terms (self : FS) : FS := fnS (m_are_terms self) 1
def m_is_two (self : FS) : SMon := (sRet (mAndV (mBin eqD (mCall lenD (mCons (mVar 0) mNil)) (mPure (.int 2))) (mFn 2 (W_are_terms self) (mCons (mVar 0) (mCons (mVar 1) mNil)))))
def W_is_two (self : FS) : FS := fnS (m_is_two self) 0
def m_is_three (self : FS) : SMon := (sRet (mAndV (mBin eqD (mCall lenD (mCons (mVar 0) mNil)) (mPure (.int 3))) (mFn 2 (W_are_terms self) (mCons (mVar 0) (mCons (mVar 1) mNil)))))
def W_is_three (self : FS) : FS := fnS (m_is_three self) 0
def E1_is_mark : M D := (mBin inD (mVar 1) (mPure (.str "0123456789abcdefghijklmnopqrstuvwxyz")))
def m_is_mark : SMon := (sRet (mAndV (mIsi "str" (mVar 0)) (mAndV (mBin eqD (mCall lenD (mCons (mVar 0) mNil)) (mPure (.int 6))) (mCall allD (mCons (mList (mLc (mItS (mVar 0)) (gVar 1) (mPure true) E1_is_mark [1])) mNil)))))
def W_is_mark : FS := fnS m_is_mark 1
def m_are_parts (self : FS) : SMon := (sRet (mAndV (mIsi "tuple" (mVar 0)) (mAndV (mBin leD (mCall lenD (mCons (mVar 0) mNil)) (mPure (.int 4))) (mFn 2 (W_are_terms self) (mCons (mVar 0) (mCons (mVar 1) mNil))))))
def W_are_parts (self : FS) : FS := fnS (m_are_parts self) 0
def m_is_call (self : FS) : SMon := (sRet (mAndV (mBin eqD (mCall lenD (mCons (mVar 0) mNil)) (mPure (.int 2))) (mAndV (mFn 1 W_is_mark (mCons (mBin ixD (mVar 0) (mPure (.int 0))) mNil)) (mFn 2 (W_are_parts self) (mCons (mBin ixD (mVar 0) (mPure (.int 1))) (mCons (mVar 1) mNil))))))
def W_is_call (self : FS) : FS := fnS (m_is_call self) 0
def m_is_ring (self : FS) : SMon := (sRet (mAndV (mBin eqD (mCall lenD (mCons (mVar 0) mNil)) (mPure (.int 2))) (mAndV (mFn 2 W_is_below (mCons (mBin ixD (mVar 0) (mPure (.int 0))) (mCons (mPure (.int 12)) mNil))) (mFn 2 (W_are_parts self) (mCons (mBin ixD (mVar 0) (mPure (.int 1))) (mCons (mVar 1) mNil))))))
def W_is_ring (self : FS) : FS := fnS (m_is_ring self) 0
def tbl_TERM_FORMS : List (Str × Str) := [("num", "is_num"), ("arg", "is_arg"), ("add", "is_two"), ("less", "is_two"), ("times", "is_two"), ("under", "is_two"), ("if", "is_three"), ("call", "is_call"), ("ring", "is_ring")]
def tab_TERM_FORMS (self : FS) : List (Str × Nat × FS) := [("is_num", 2, W_is_num self), ("is_arg", 2, W_is_arg self), ("is_two", 2, W_is_two self), ("is_three", 2, W_is_three self), ("is_call", 2, W_is_call self), ("is_ring", 2, W_is_ring self)]
def m_is_term_within (self : FS) : SMon := (sSeq (sIf (mOr (mTest (mBin eqD (mVar 1) (mPure (.int 0)))) (mOr (mNot (mTest (mIsi "tuple" (mVar 0)))) (mOr (mTest (mBin eqD (mCall lenD (mCons (mVar 0) mNil)) (mPure (.int 0)))) (mNot (mTest (mIsi "str" (mBin ixD (mVar 0) (mPure (.int 0))))))))) (sRet (mPure (.bool false))) sNext)
  (sSeq (sStar 2 3 (mVar 0))
  (sSeq (sIf (mTest (mNinF tbl_TERM_FORMS (mVar 2))) (sRet (mPure (.bool false))) sNext)
  (sSeq (sSet 4 (mFix tbl_TERM_FORMS (mVar 2)))
  (sRet (mFnV 4 (tab_TERM_FORMS self) (mCons (mVar 3) (mCons (mBin subD (mVar 1) (mPure (.int 1))) mNil))))))))
def W_is_term_within : Nat → FS
  | 0 => fun _ _ => False
  | n + 1 => fnS (m_is_term_within (W_is_term_within n)) 3
def m_is_term : SMon := (sRet (mFn 2 (W_is_term_within 9) (mCons (mVar 0) (mCons (mPure (.int 8)) mNil))))
def W_is_term : FS := fnS m_is_term 0
def m__law_is_below : SMon := (sRet (mAndV (mIsi "int" (mVar 0)) (mAndV (mNotV (mTest (mIsi "bool" (mVar 0)))) (mChain leD ltD (mPure (.int 0)) (mVar 0) (mVar 1)))))
def W__law_is_below : FS := fnS m__law_is_below 0
def m__law_is_a_mark : SMon := (sSeq (sIf (mOr (mNot (mTest (mIsi "str" (mVar 0)))) (mTest (mBin neD (mCall lenD (mCons (mVar 0) mNil)) (mPure (.int 6))))) (sRet (mPure (.bool false))) sNext)
  (sRet (mBin eqD (mMeth stripD (mVar 0) (mCons (mPure (.str "0123456789abcdefghijklmnopqrstuvwxyz")) mNil)) (mPure (.str "")))))
def W__law_is_a_mark : FS := fnS m__law_is_a_mark 0
def E1__law_is_a_term (self : FS) : M D := (mFn 2 self (mCons (mVar 3) (mCons (mBin subD (mVar 1) (mPure (.int 1))) mNil)))
def m__law_is_a_term (self : FS) : SMon := (sSeq (sIf (mOr (mTest (mBin ltD (mVar 1) (mPure (.int 1)))) (mOr (mNot (mTest (mIsi "tuple" (mVar 0)))) (mOr (mTest (mBin eqD (mVar 0) (mTup mNil))) (mNot (mTest (mIsi "str" (mBin ixD (mVar 0) (mPure (.int 0))))))))) (sRet (mPure (.bool false))) sNext)
  (sSeq (sIf (mTest (mBin inD (mBin ixD (mVar 0) (mPure (.int 0))) (mTup (mCons (mPure (.str "num")) (mCons (mPure (.str "arg")) mNil))))) (sRet (mAndV (mBin eqD (mCall lenD (mCons (mVar 0) mNil)) (mPure (.int 2))) (mFn 2 W__law_is_below (mCons (mBin ixD (mVar 0) (mPure (.int 1))) (mCons (mBin dgetD (mPure (.dict (dsiD [("num", 1000003), ("arg", 4)]))) (mBin ixD (mVar 0) (mPure (.int 0)))) mNil))))) sNext)
  (sSeq (sSet 2 (mSl (mVar 0) (mSome (mPure (.int 1))) (mPure none)))
  (sSeq (sIf (mTest (mBin inD (mBin ixD (mVar 0) (mPure (.int 0))) (mTup (mCons (mPure (.str "call")) (mCons (mPure (.str "ring")) mNil))))) (sSeq (sIf (mOr (mTest (mBin neD (mCall lenD (mCons (mVar 0) mNil)) (mPure (.int 3)))) (mOr (mNot (mTest (mIsi "tuple" (mBin ixD (mVar 0) (mPure (.int 2)))))) (mTest (mBin gtD (mCall lenD (mCons (mBin ixD (mVar 0) (mPure (.int 2))) mNil)) (mPure (.int 4)))))) (sRet (mPure (.bool false))) sNext)
  (sSeq (sIf (mNot (mIfT (mTest (mBin eqD (mBin ixD (mVar 0) (mPure (.int 0))) (mPure (.str "call")))) (mTest (mFn 1 W__law_is_a_mark (mCons (mBin ixD (mVar 0) (mPure (.int 1))) mNil))) (mTest (mFn 2 W__law_is_below (mCons (mBin ixD (mVar 0) (mPure (.int 1))) (mCons (mPure (.int 12)) mNil)))))) (sRet (mPure (.bool false))) sNext)
  (sSet 2 (mBin ixD (mVar 0) (mPure (.int 2)))))) (sIf (mTest (mBin neD (mCall lenD (mCons (mVar 2) mNil)) (mGetI (mPure (.dict (dsiD [("add", 2), ("less", 2), ("times", 2), ("under", 2), ("if", 3)]))) (mBin ixD (mVar 0) (mPure (.int 0))) (mNeg (mPure (.int 1)))))) (sRet (mPure (.bool false))) sNext))
  (sRet (mCall allD (mCons (mList (mLc (mItT (mVar 2)) (gVar 3) (mPure true) (E1__law_is_a_term self) [3])) mNil)))))))
def W__law_is_a_term : Nat → FS
  | 0 => fun _ _ => False
  | n + 1 => fnS (m__law_is_a_term (W__law_is_a_term n)) 2
def m__law_odd : SMon := (sSeq (sSetN 2 (mLen (mCons (mPure .none) (mCons (mPure (.bool true)) (mCons (mPure (.bool false)) (mCons (mNeg (mPure (.int 1))) (mCons (mPure (.int 0)) (mCons (mPure (.int 3)) (mCons (mPure (.int 4)) (mCons (mPure (.int 11)) (mCons (mPure (.int 12)) (mCons (mPure (.int 1000002)) (mCons (mPure (.int 1000003)) (mCons (mBin powD (mPure (.int 10)) (mPure (.int 30))) (mCons (mPure (.str "")) (mCons (mPure (.str "num")) (mCons (mPure (.str "arg")) (mCons (mPure (.str "add")) (mCons (mPure (.str "if")) (mCons (mPure (.str "call")) mNil))))))))))))))))))))
  (sSeq (sSet 2 (mBin addAD (mVar 2) (mList (mLen (mCons (mPure (.str "ring")) (mCons (mPure (.str "Num")) (mCons (mPure (.str "000000")) (mCons (mPure (.str "00000")) (mCons (mPure (.str "0000000")) (mCons (mPure (.str "00000A")) (mCons (mTup mNil) (mCons (mList (mLen mNil)) (mCons (mTup (mCons (mPure (.str "num")) (mCons (mPure (.int 0)) mNil))) (mCons (mList (mLen (mCons (mPure (.str "num")) (mCons (mPure (.int 0)) mNil)))) (mCons (mTup (mCons (mPure (.str "arg")) (mCons (mPure (.int 4)) mNil))) mNil)))))))))))))))
  (sSeq (sSet 2 (mBin addAD (mVar 2) (mList (mLen (mCons (mTup (mCons (mVar 1) mNil)) (mCons (mList (mLen (mCons (mVar 1) mNil))) (mCons (mTup (mCons (mVar 1) (mCons (mVar 1) mNil))) (mCons (mTup (mCons (mPure (.str "arg")) (mCons (mPure (.int 3)) mNil))) (mCons (mTup (mCons (mPure (.str "num")) (mCons (mPure (.bool true)) mNil))) (mCons (mTup (mCons (mPure (.str "ring")) (mCons (mPure (.int 0)) (mCons (mTup mNil) mNil)))) (mCons (mTup (mCons (mPure (.str "call")) (mCons (mPure (.str "zzzzzz")) (mCons (mTup mNil) mNil)))) mNil)))))))))))
  (sSeq (sIf (mTest (mIsi "int" (mVar 1))) (sSet 2 (mBin addAD (mVar 2) (mList (mLen (mCons (mBin addAD (mVar 1) (mPure (.int 1))) (mCons (mBin subAD (mVar 1) (mPure (.int 1))) (mCons (mCall strAD (mCons (mVar 1) mNil)) mNil))))))) sNext)
  (sSeq (sIf (mTest (mIsi "str" (mVar 1))) (sSet 2 (mBin addAD (mVar 2) (mList (mLen (mCons (mBin addAD (mVar 1) (mPure (.str "0"))) (mCons (mSl (mVar 1) (mPure none) (mSome (mNeg (mPure (.int 1))))) (mCons (mMeth upperD (mVar 1) mNil) (mCons (mRevA (mVar 1)) mNil)))))))) sNext)
  (sSeq (sIf (mTest (mIsi "tuple" (mVar 1))) (sSeq (sSet 2 (mBin addAD (mVar 2) (mList (mLen (mCons (mList (mListOf (mVar 1))) (mCons (mBin addAD (mVar 1) (mSl (mVar 1) (mSome (mNeg (mPure (.int 1)))) (mPure none))) (mCons (mSl (mVar 1) (mSome (mPure (.int 1))) (mPure none)) (mCons (mRevA (mVar 1)) (mCons (mBin addAD (mTup (mCons (mPure (.str "less")) mNil)) (mSl (mVar 1) (mSome (mPure (.int 1))) (mPure none))) (mCons (mBin addAD (mTup (mCons (mPure (.str "if")) mNil)) (mSl (mVar 1) (mSome (mPure (.int 1))) (mPure none))) mNil))))))))))
  (sSet 2 (mBin addAD (mVar 2) (mList (mLen (mCons (mTup (mCons (mPure (.str "call")) (mCons (mPure (.str "0a0a0a")) (mCons (mTup (mCons (mVar 1) mNil)) mNil)))) (mCons (mTup (mCons (mPure (.str "add")) (mCons (mVar 1) (mCons (mVar 1) mNil)))) (mCons (mTup (mCons (mPure (.str "ring")) (mCons (mPure (.int 11)) (mCons (mVar 1) mNil)))) (mCons (mBin addAD (mVar 1) (mTup (mCons (mTup (mCons (mPure (.str "num")) (mCons (mPure (.int 0)) mNil))) mNil))) mNil))))))))) sNext)
  (sRet (mBin ixD (mVar 2) (mFnB 1 W__law_take 0 (mCons (mCall lenD (mCons (mVar 2) mNil)) mNil))))))))))
def W__law_odd : FB := fnB m__law_odd 1
def E1__law_same (self : FS) : M D := (mFn 2 self (mCons (mVar 2) (mCons (mVar 3) mNil)))
def m__law_same (self : FS) : SMon := (sSeq (sIf (mTest (mIsi2 "list" "tuple" (mVar 1))) (sSeq (sIf (mOr (mTest (mBin neD (mIsi "list" (mVar 0)) (mIsi "list" (mVar 1)))) (mTest (mBin neD (mIsi "tuple" (mVar 0)) (mIsi "tuple" (mVar 1))))) (sRet (mPure (.bool false))) sNext)
  (sRet (mAndV (mBin eqD (mCall lenD (mCons (mVar 0) mNil)) (mCall lenD (mCons (mVar 1) mNil))) (mCall allD (mCons (mList (mLc (mZip (mCons (mVar 0) (mCons (mVar 1) mNil))) (gTupD 2 (gConsD (gVar 2) (gConsD (gVar 3) gNilD))) (mPure true) (E1__law_same self) [2, 3])) mNil))))) sNext)
  (sSeq (sIf (mOr (mTest (mBin isD (mVar 1) (mPure .none))) (mTest (mIsi "str" (mVar 1)))) (sRet (mAndV (mBin eqD (mVar 0) (mVar 1)) (mBin eqD (mIsi "str" (mVar 0)) (mIsi "str" (mVar 1))))) sNext)
  (sRet (mAndV (mIsi "int" (mVar 0)) (mAndV (mBin eqD (mIsi "bool" (mVar 0)) (mIsi "bool" (mVar 1))) (mBin eqD (mVar 0) (mVar 1)))))))
def W__law_same : Nat → FS
  | 0 => fun _ _ => False
  | n + 1 => fnS (m__law_same (W__law_same n)) 2
def E1__law_marks_right : M D := (mFn 2 (W__law_same 20) (mCons (mFn 1 W_is_mark (mCons (mVar 8) mNil)) (mCons (mFn 1 W__law_is_a_mark (mCons (mVar 8) mNil)) mNil)))
def m__law_marks_right : SMon := (sSeq (sPar [1, 2] (mPD (mFnB 0 W__law_some_mark 0 mNil) (mPD (mPure (.str "09azAZ #@_-{")) (mPure []))))
  (sSeq (sPar [3, 4] (mPD (mFnB 1 W__law_take 0 (mCons (mPure (.int 6)) mNil)) (mPD (mBin ixD (mVar 2) (mFnB 1 W__law_take 0 (mCons (mPure (.int 12)) mNil))) (mPure []))))
  (sSeq (sPar [5, 6] (mPD (mSl (mVar 1) (mPure none) (mSome (mVar 3))) (mPD (mSl (mVar 1) (mSome (mBin addD (mVar 3) (mPure (.int 1)))) (mPure none)) (mPure []))))
  (sSeq (sSetN 7 (mLen (mCons (mVar 1) (mCons (mBin addD (mBin addD (mVar 5) (mVar 4)) (mVar 6)) (mCons (mBin addD (mVar 1) (mVar 4)) (mCons (mBin addD (mVar 5) (mVar 6)) (mCons (mMeth upperD (mVar 1) mNil) (mCons (mPure (.str "")) (mCons (mBin addD (mPure (.str "#")) (mVar 1)) mNil)))))))))
  (sSeq (sSet 7 (mBin addD (mVar 7) (mList (mLen (mCons (mFnB 1 W__law_odd 0 (mCons (mVar 1) mNil)) (mCons (mCall tupSD (mCons (mVar 1) mNil)) (mCons (mList (mListS (mVar 1))) (mCons (mCall int36D (mCons (mVar 1) (mCons (mPure (.int 36)) mNil))) mNil))))))))
  (sRet (mCall allD (mCons (mList (mLc (mItL (mVar 7)) (gVar 8) (mPure true) E1__law_marks_right [8])) mNil))))))))
def W__law_marks_right : FB := fnB m__law_marks_right 8
def m__law_bent (self : FB) : SMon := (sSeq (sIf (mOr (mNot (mTest (mIsi "tuple" (mVar 1)))) (mOr (mTest (mBin eqD (mVar 1) (mTup mNil))) (mTest (mBin eqD (mFnB 1 W__law_take 0 (mCons (mPure (.int 4)) mNil)) (mPure (.int 0)))))) (sRet (mFnB 1 W__law_odd 0 (mCons (mVar 1) mNil))) sNext)
  (sSeq (sSet 2 (mIf (mTest (mBin eqD (mFnB 1 W__law_take 0 (mCons (mPure (.int 3)) mNil)) (mPure (.int 0)))) (mBin subAD (mCall lenD (mCons (mVar 1) mNil)) (mPure (.int 1))) (mFnB 1 W__law_take 0 (mCons (mCall lenD (mCons (mVar 1) mNil)) mNil))))
  (sRet (mBin addAD (mBin addAD (mSl (mVar 1) (mPure none) (mSome (mVar 2))) (mTup (mCons (mFnB 1 self 0 (mCons (mBin ixD (mVar 1) (mVar 2)) mNil)) mNil))) (mSl (mVar 1) (mSome (mBin addAD (mVar 2) (mPure (.int 1)))) (mPure none))))))
def W__law_bent : Nat → FB
  | 0 => fun _ _ _ => False
  | n + 1 => fnB (m__law_bent (W__law_bent n)) 1
def L1__law_right : SMon := (sSeq (sSet 3 (mFnB 1 (W__law_bent 30) 0 (mCons (mVar 1) mNil)))
  (sSeq (sIf (mTest (mBin eqD (mFnB 1 W__law_take 0 (mCons (mPure (.int 3)) mNil)) (mPure (.int 0)))) (sSet 3 (mFnB 1 (W__law_bent 30) 0 (mCons (mVar 3) mNil))) sNext)
  (sSeq (sPar [4, 5] (mPD (mCall reprAD (mCons (mVar 3) mNil)) (mPD (mFn 1 W_is_term (mCons (mVar 3) mNil)) (mPure []))))
  (sIf (mOr (mNot (mTest (mFn 2 (W__law_same 20) (mCons (mVar 5) (mCons (mFn 2 (W__law_is_a_term 9) (mCons (mVar 3) (mCons (mPure (.int 8)) mNil))) mNil))))) (mTest (mBin neD (mCall reprAD (mCons (mVar 3) mNil)) (mVar 4)))) (sRet (mPure (.bool false))) sNext))))
def G1__law_right : GMn := (gVar 2)
def L2__law_right : SMon := (sSeq (sIf (mNot (mTest (mFn 2 (W__law_is_a_term 9) (mCons (mVar 1) (mCons (mPure (.int 8)) mNil))))) (sRet (mBin gtD (mVar 2) (mPure (.int 0)))) sNext)
  (sSeq (sSet 1 (mBin ixD (mList (mLen (mCons (mTup (mCons (mPure (.str "call")) (mCons (mPure (.str "0a0a0a")) (mCons (mTup (mCons (mVar 1) mNil)) mNil)))) (mCons (mTup (mCons (mPure (.str "add")) (mCons (mTup (mCons (mPure (.str "num")) (mCons (mPure (.int 1)) mNil))) (mCons (mVar 1) mNil)))) (mCons (mTup (mCons (mPure (.str "ring")) (mCons (mPure (.int 3)) (mCons (mTup (mCons (mTup (mCons (mPure (.str "arg")) (mCons (mPure (.int 0)) mNil))) (mCons (mVar 1) mNil))) mNil)))) mNil))))) (mBin modD (mVar 2) (mPure (.int 3)))))
  (sIf (mNot (mTest (mFn 2 (W__law_same 20) (mCons (mFn 1 W_is_term (mCons (mVar 1) mNil)) (mCons (mFn 2 (W__law_is_a_term 9) (mCons (mVar 1) (mCons (mPure (.int 8)) mNil))) mNil))))) (sRet (mPure (.bool false))) sNext)))
def G2__law_right : GMn := (gVar 2)
def m__law_right : SMon := (sSeq (sSet 1 (mFnB 0 W__law_any_term 0 mNil))
  (sSeq (sIf (mOr (mTest (mBin isnD (mFn 1 W_is_term (mCons (mVar 1) mNil)) (mPure (.bool true)))) (mOr (mNot (mTest (mFn 2 (W__law_is_a_term 9) (mCons (mVar 1) (mCons (mPure (.int 8)) mNil))))) (mNot (mTest (mFnB 0 W__law_marks_right 0 mNil))))) (sRet (mPure (.bool false))) sNext)
  (sSeq (sFor (mRng1 (mCons (mPure (.int 8)) mNil)) G1__law_right L1__law_right)
  (sSeq (sFor (mRng1 (mCons (mPure (.int 8)) mNil)) G2__law_right L2__law_right)
  (sRet (mNotV (mTest (mFn 2 (W__law_is_a_term 9) (mCons (mVar 1) (mCons (mPure (.int 8)) mNil))))))))))
def W__law_right : FB := fnB m__law_right 5
def E1_law : M D := (mFnB 0 W__law_right 3 mNil)
def L1_law : SMon := (sSeq (sSetN 3 (mFnN 2 W__law_box (mCons (mVar 1) (mCons (mVar 2) mNil))))
  (sIf (mNot (mTest (mCall allD (mCons (mList (mLc (mRng1 (mCons (mPure (.int 6)) mNil)) (gVar 4) (mPure true) E1_law [4])) mNil)))) (sRet (mPure (.bool false))) sNext))
def G1_law : GMn := (gVar 2)
def m_law : SMon := (sSeq (sSetN 1 (mFnN 2 W__law_folded (mCons (mVar 0) (mCons (mPure (.int 3)) mNil))))
  (sSeq (sFor (mRng1 (mCons (mCall maxD (mCons (mPure (.int 1)) (mCons (mCall lenD (mCons (mVar 1) mNil)) mNil))) mNil)) G1_law L1_law)
  (sRet (mPure (.bool true)))))
def W_law : FS := fnS m_law 4

/-! ### the walk -/
def topS (i : Nat) : Stmt := PySem.Challenge.pw_contentnames_k01_marks_and_terms_or_not.main.body.getD i (.Pass ⟨0, 0, 0, 0⟩)
abbrev s__law_folded : Stmt := topS 28
theorem sc__law_folded : FnScope ["script", "size", "cells", "k", "cell"] ["script", "size"] (defScope s__law_folded) := ⟨rfl, rfl, rfl, by decide +kernel, rfl, by decide +kernel, by decide +kernel⟩
abbrev s__law_box : Stmt := topS 26
theorem sc__law_box : FnScope ["script", "k", "cell"] ["script", "k"] (defScope s__law_box) := ⟨rfl, rfl, rfl, by decide +kernel, rfl, by decide +kernel, by decide +kernel⟩
abbrev s__law_take : Stmt := topS 27
theorem sc__law_take : FnScope ["box", "size", "found", "step", "once", "twice"] ["box", "size"] (defScope s__law_take) := ⟨rfl, rfl, rfl, by decide +kernel, rfl, by decide +kernel, by decide +kernel⟩
abbrev s__law_some_mark : Stmt := topS 32
theorem sc__law_some_mark : FnScope ["box", "signs", "mode", "turn"] ["box"] (defScope s__law_some_mark) := ⟨rfl, rfl, rfl, by decide +kernel, rfl, by decide +kernel, by decide +kernel⟩
abbrev s__law_number : Stmt := topS 30
theorem sc__law_number : FnScope ["box"] ["box"] (defScope s__law_number) := ⟨rfl, rfl, rfl, by decide +kernel, rfl, by decide +kernel, by decide +kernel⟩
abbrev s__law_term : Stmt := topS 31
theorem sc__law_term : FnScope ["box", "many", "heads", "tall", "way", "op", "one", "other", "head", "size", "parts", "turn"] ["box", "many", "heads", "tall"] (defScope s__law_term) := ⟨rfl, rfl, rfl, by decide +kernel, rfl, by decide +kernel, by decide +kernel⟩
abbrev s__law_any_term : Stmt := topS 33
theorem sc__law_any_term : FnScope ["box", "heads", "term", "turn", "leaf", "mode", "head", "some", "op"] ["box"] (defScope s__law_any_term) := ⟨rfl, rfl, rfl, by decide +kernel, rfl, by decide +kernel, by decide +kernel⟩
abbrev s_is_below : Stmt := topS 13
theorem sc_is_below : FnScope ["thing", "many"] ["thing", "many"] (defScope s_is_below) := ⟨rfl, rfl, rfl, by decide +kernel, rfl, by decide +kernel, by decide +kernel⟩
abbrev s_is_num : Stmt := topS 16
theorem sc_is_num : FnScope ["parts", "deep"] ["parts", "deep"] (defScope s_is_num) := ⟨rfl, rfl, rfl, by decide +kernel, rfl, by decide +kernel, by decide +kernel⟩
abbrev s_is_arg : Stmt := topS 17
theorem sc_is_arg : FnScope ["parts", "deep"] ["parts", "deep"] (defScope s_is_arg) := ⟨rfl, rfl, rfl, by decide +kernel, rfl, by decide +kernel, by decide +kernel⟩
abbrev s_are_terms : Stmt := topS 14
theorem sc_are_terms : FnScope ["things", "deep", "thing"] ["things", "deep"] (defScope s_are_terms) := ⟨rfl, rfl, rfl, by decide +kernel, rfl, by decide +kernel, by decide +kernel⟩
abbrev s_is_two : Stmt := topS 18
theorem sc_is_two : FnScope ["parts", "deep"] ["parts", "deep"] (defScope s_is_two) := ⟨rfl, rfl, rfl, by decide +kernel, rfl, by decide +kernel, by decide +kernel⟩
abbrev s_is_three : Stmt := topS 19
theorem sc_is_three : FnScope ["parts", "deep"] ["parts", "deep"] (defScope s_is_three) := ⟨rfl, rfl, rfl, by decide +kernel, rfl, by decide +kernel, by decide +kernel⟩
abbrev s_is_mark : Stmt := topS 12
theorem sc_is_mark : FnScope ["thing", "sign"] ["thing"] (defScope s_is_mark) := ⟨rfl, rfl, rfl, by decide +kernel, rfl, by decide +kernel, by decide +kernel⟩
abbrev s_are_parts : Stmt := topS 15
theorem sc_are_parts : FnScope ["thing", "deep"] ["thing", "deep"] (defScope s_are_parts) := ⟨rfl, rfl, rfl, by decide +kernel, rfl, by decide +kernel, by decide +kernel⟩
abbrev s_is_call : Stmt := topS 20
theorem sc_is_call : FnScope ["parts", "deep"] ["parts", "deep"] (defScope s_is_call) := ⟨rfl, rfl, rfl, by decide +kernel, rfl, by decide +kernel, by decide +kernel⟩
abbrev s_is_ring : Stmt := topS 21
theorem sc_is_ring : FnScope ["parts", "deep"] ["parts", "deep"] (defScope s_is_ring) := ⟨rfl, rfl, rfl, by decide +kernel, rfl, by decide +kernel, by decide +kernel⟩
abbrev s_is_term_within : Stmt := topS 23
theorem sc_is_term_within : FnScope ["thing", "deep", "word", "parts", "is_so"] ["thing", "deep"] (defScope s_is_term_within) := ⟨rfl, rfl, rfl, by decide +kernel, rfl, by decide +kernel, by decide +kernel⟩
abbrev s_is_term : Stmt := topS 24
theorem sc_is_term : FnScope ["thing"] ["thing"] (defScope s_is_term) := ⟨rfl, rfl, rfl, by decide +kernel, rfl, by decide +kernel, by decide +kernel⟩
abbrev s__law_is_below : Stmt := topS 34
theorem sc__law_is_below : FnScope ["thing", "many"] ["thing", "many"] (defScope s__law_is_below) := ⟨rfl, rfl, rfl, by decide +kernel, rfl, by decide +kernel, by decide +kernel⟩
abbrev s__law_is_a_mark : Stmt := topS 35
theorem sc__law_is_a_mark : FnScope ["thing"] ["thing"] (defScope s__law_is_a_mark) := ⟨rfl, rfl, rfl, by decide +kernel, rfl, by decide +kernel, by decide +kernel⟩
abbrev s__law_is_a_term : Stmt := topS 36
theorem sc__law_is_a_term : FnScope ["thing", "deep", "parts", "part"] ["thing", "deep"] (defScope s__law_is_a_term) := ⟨rfl, rfl, rfl, by decide +kernel, rfl, by decide +kernel, by decide +kernel⟩
abbrev s__law_odd : Stmt := topS 37
theorem sc__law_odd : FnScope ["box", "part", "some"] ["box", "part"] (defScope s__law_odd) := ⟨rfl, rfl, rfl, by decide +kernel, rfl, by decide +kernel, by decide +kernel⟩
abbrev s__law_same : Stmt := topS 29
theorem sc__law_same : FnScope ["found", "due", "one", "other"] ["found", "due"] (defScope s__law_same) := ⟨rfl, rfl, rfl, by decide +kernel, rfl, by decide +kernel, by decide +kernel⟩
abbrev s__law_marks_right : Stmt := topS 39
theorem sc__law_marks_right : FnScope ["box", "mark", "signs", "at", "sign", "ahead", "behind", "some", "one"] ["box"] (defScope s__law_marks_right) := ⟨rfl, rfl, rfl, by decide +kernel, rfl, by decide +kernel, by decide +kernel⟩
abbrev s__law_bent : Stmt := topS 38
theorem sc__law_bent : FnScope ["box", "thing", "at"] ["box", "thing"] (defScope s__law_bent) := ⟨rfl, rfl, rfl, by decide +kernel, rfl, by decide +kernel, by decide +kernel⟩
abbrev s__law_right : Stmt := topS 40
theorem sc__law_right : FnScope ["box", "term", "turn", "thing", "kept", "found"] ["box"] (defScope s__law_right) := ⟨rfl, rfl, rfl, by decide +kernel, rfl, by decide +kernel, by decide +kernel⟩
abbrev s_law : Stmt := topS 41
theorem sc_law : FnScope ["script", "cells", "k", "box", "turn"] ["script"] (defScope s_law) := ⟨rfl, rfl, rfl, by decide +kernel, rfl, by decide +kernel, by decide +kernel⟩
structure Tops (K : PySem.W.Frag) (mg : Str → Option Value) (w : World) where
  f__law_folded : Addr
  d__law_folded : FuncData
  F__law_folded : Fun K "_law_folded" "_law_folded" s__law_folded f__law_folded d__law_folded
  g__law_folded : mg "_law_folded" = some (.ref f__law_folded)
  b__law_folded : Binds K d__law_folded ["script", "size"] []
  f__law_box : Addr
  d__law_box : FuncData
  F__law_box : Fun K "_law_box" "_law_box" s__law_box f__law_box d__law_box
  g__law_box : mg "_law_box" = some (.ref f__law_box)
  b__law_box : Binds K d__law_box ["script", "k"] []
  f__law_take : Addr
  d__law_take : FuncData
  F__law_take : Fun K "_law_take" "_law_take" s__law_take f__law_take d__law_take
  g__law_take : mg "_law_take" = some (.ref f__law_take)
  b__law_take : Binds K d__law_take ["box", "size"] []
  f__law_some_mark : Addr
  d__law_some_mark : FuncData
  F__law_some_mark : Fun K "_law_some_mark" "_law_some_mark" s__law_some_mark f__law_some_mark d__law_some_mark
  g__law_some_mark : mg "_law_some_mark" = some (.ref f__law_some_mark)
  b__law_some_mark : Binds K d__law_some_mark ["box"] []
  f__law_number : Addr
  d__law_number : FuncData
  F__law_number : Fun K "_law_number" "_law_number" s__law_number f__law_number d__law_number
  g__law_number : mg "_law_number" = some (.ref f__law_number)
  b__law_number : Binds K d__law_number ["box"] []
  f__law_term : Addr
  d__law_term : FuncData
  F__law_term : Fun K "_law_term" "_law_term" s__law_term f__law_term d__law_term
  g__law_term : mg "_law_term" = some (.ref f__law_term)
  b__law_term : Binds K d__law_term ["box", "many", "heads", "tall"] []
  f__law_any_term : Addr
  d__law_any_term : FuncData
  F__law_any_term : Fun K "_law_any_term" "_law_any_term" s__law_any_term f__law_any_term d__law_any_term
  g__law_any_term : mg "_law_any_term" = some (.ref f__law_any_term)
  b__law_any_term : Binds K d__law_any_term ["box"] []
  f_is_below : Addr
  d_is_below : FuncData
  F_is_below : Fun K "is_below" "is_below" s_is_below f_is_below d_is_below
  g_is_below : mg "is_below" = some (.ref f_is_below)
  b_is_below : Binds K d_is_below ["thing", "many"] []
  f_is_num : Addr
  d_is_num : FuncData
  F_is_num : Fun K "is_num" "is_num" s_is_num f_is_num d_is_num
  g_is_num : mg "is_num" = some (.ref f_is_num)
  b_is_num : Binds K d_is_num ["parts", "deep"] []
  f_is_arg : Addr
  d_is_arg : FuncData
  F_is_arg : Fun K "is_arg" "is_arg" s_is_arg f_is_arg d_is_arg
  g_is_arg : mg "is_arg" = some (.ref f_is_arg)
  b_is_arg : Binds K d_is_arg ["parts", "deep"] []
  f_are_terms : Addr
  d_are_terms : FuncData
  F_are_terms : Fun K "are_terms" "are_terms" s_are_terms f_are_terms d_are_terms
  g_are_terms : mg "are_terms" = some (.ref f_are_terms)
  b_are_terms : Binds K d_are_terms ["things", "deep"] []
  f_is_two : Addr
  d_is_two : FuncData
  F_is_two : Fun K "is_two" "is_two" s_is_two f_is_two d_is_two
  g_is_two : mg "is_two" = some (.ref f_is_two)
  b_is_two : Binds K d_is_two ["parts", "deep"] []
  f_is_three : Addr
  d_is_three : FuncData
  F_is_three : Fun K "is_three" "is_three" s_is_three f_is_three d_is_three
  g_is_three : mg "is_three" = some (.ref f_is_three)
  b_is_three : Binds K d_is_three ["parts", "deep"] []
  f_is_mark : Addr
  d_is_mark : FuncData
  F_is_mark : Fun K "is_mark" "is_mark" s_is_mark f_is_mark d_is_mark
  g_is_mark : mg "is_mark" = some (.ref f_is_mark)
  b_is_mark : Binds K d_is_mark ["thing"] []
  f_are_parts : Addr
  d_are_parts : FuncData
  F_are_parts : Fun K "are_parts" "are_parts" s_are_parts f_are_parts d_are_parts
  g_are_parts : mg "are_parts" = some (.ref f_are_parts)
  b_are_parts : Binds K d_are_parts ["thing", "deep"] []
  f_is_call : Addr
  d_is_call : FuncData
  F_is_call : Fun K "is_call" "is_call" s_is_call f_is_call d_is_call
  g_is_call : mg "is_call" = some (.ref f_is_call)
  b_is_call : Binds K d_is_call ["parts", "deep"] []
  f_is_ring : Addr
  d_is_ring : FuncData
  F_is_ring : Fun K "is_ring" "is_ring" s_is_ring f_is_ring d_is_ring
  g_is_ring : mg "is_ring" = some (.ref f_is_ring)
  b_is_ring : Binds K d_is_ring ["parts", "deep"] []
  f_is_term_within : Addr
  d_is_term_within : FuncData
  F_is_term_within : Fun K "is_term_within" "is_term_within" s_is_term_within f_is_term_within d_is_term_within
  g_is_term_within : mg "is_term_within" = some (.ref f_is_term_within)
  b_is_term_within : Binds K d_is_term_within ["thing", "deep"] []
  f_is_term : Addr
  d_is_term : FuncData
  F_is_term : Fun K "is_term" "is_term" s_is_term f_is_term d_is_term
  g_is_term : mg "is_term" = some (.ref f_is_term)
  b_is_term : Binds K d_is_term ["thing"] []
  f__law_is_below : Addr
  d__law_is_below : FuncData
  F__law_is_below : Fun K "_law_is_below" "_law_is_below" s__law_is_below f__law_is_below d__law_is_below
  g__law_is_below : mg "_law_is_below" = some (.ref f__law_is_below)
  b__law_is_below : Binds K d__law_is_below ["thing", "many"] []
  f__law_is_a_mark : Addr
  d__law_is_a_mark : FuncData
  F__law_is_a_mark : Fun K "_law_is_a_mark" "_law_is_a_mark" s__law_is_a_mark f__law_is_a_mark d__law_is_a_mark
  g__law_is_a_mark : mg "_law_is_a_mark" = some (.ref f__law_is_a_mark)
  b__law_is_a_mark : Binds K d__law_is_a_mark ["thing"] []
  f__law_is_a_term : Addr
  d__law_is_a_term : FuncData
  F__law_is_a_term : Fun K "_law_is_a_term" "_law_is_a_term" s__law_is_a_term f__law_is_a_term d__law_is_a_term
  g__law_is_a_term : mg "_law_is_a_term" = some (.ref f__law_is_a_term)
  b__law_is_a_term : Binds K d__law_is_a_term ["thing", "deep"] []
  f__law_odd : Addr
  d__law_odd : FuncData
  F__law_odd : Fun K "_law_odd" "_law_odd" s__law_odd f__law_odd d__law_odd
  g__law_odd : mg "_law_odd" = some (.ref f__law_odd)
  b__law_odd : Binds K d__law_odd ["box", "part"] []
  f__law_same : Addr
  d__law_same : FuncData
  F__law_same : Fun K "_law_same" "_law_same" s__law_same f__law_same d__law_same
  g__law_same : mg "_law_same" = some (.ref f__law_same)
  b__law_same : Binds K d__law_same ["found", "due"] []
  f__law_marks_right : Addr
  d__law_marks_right : FuncData
  F__law_marks_right : Fun K "_law_marks_right" "_law_marks_right" s__law_marks_right f__law_marks_right d__law_marks_right
  g__law_marks_right : mg "_law_marks_right" = some (.ref f__law_marks_right)
  b__law_marks_right : Binds K d__law_marks_right ["box"] []
  f__law_bent : Addr
  d__law_bent : FuncData
  F__law_bent : Fun K "_law_bent" "_law_bent" s__law_bent f__law_bent d__law_bent
  g__law_bent : mg "_law_bent" = some (.ref f__law_bent)
  b__law_bent : Binds K d__law_bent ["box", "thing"] []
  f__law_right : Addr
  d__law_right : FuncData
  F__law_right : Fun K "_law_right" "_law_right" s__law_right f__law_right d__law_right
  g__law_right : mg "_law_right" = some (.ref f__law_right)
  b__law_right : Binds K d__law_right ["box"] []
  f_law : Addr
  d_law : FuncData
  F_law : Fun K "law" "law" s_law f_law d_law
  g_law : mg "law" = some (.ref f_law)
  b_law : Binds K d_law ["script"] []
  z_abs : mg "abs" = none
  z_all : mg "all" = none
  z_bool : mg "bool" = none
  z_divmod : mg "divmod" = none
  z_enumerate : mg "enumerate" = none
  z_int : mg "int" = none
  z_isinstance : mg "isinstance" = none
  z_len : mg "len" = none
  z_list : mg "list" = none
  z_max : mg "max" = none
  z_range : mg "range" = none
  z_repr : mg "repr" = none
  z_str : mg "str" = none
  z_tuple : mg "tuple" = none
  z_zip : mg "zip" = none
  t_MARK_SIZE : Tok
  c_MARK_SIZE : mg "MARK_SIZE" = some (.int 6 t_MARK_SIZE)
  t_MOST_ARGS : Tok
  c_MOST_ARGS : mg "MOST_ARGS" = some (.int 4 t_MOST_ARGS)
  t_MOST_DEEP : Tok
  c_MOST_DEEP : mg "MOST_DEEP" = some (.int 8 t_MOST_DEEP)
  t_MOST_NUMBER : Tok
  c_MOST_NUMBER : mg "MOST_NUMBER" = some (.int 1000002 t_MOST_NUMBER)
  t_MOST_PLACES : Tok
  c_MOST_PLACES : mg "MOST_PLACES" = some (.int 12 t_MOST_PLACES)
  t_SHORT_SIGNS : Tok
  c_SHORT_SIGNS : mg "SHORT_SIGNS" = some (.str "0123456789abcdefghijklmnopqrstuvwxyz" t_SHORT_SIGNS)
  a_TERM_FORMS : Addr
  n_TERM_FORMS : mg "TERM_FORMS" = some (.ref a_TERM_FORMS)
  t_TERM_FORMS : TabF K w a_TERM_FORMS tbl_TERM_FORMS
  e_is_num : FnAt K "is_num" f_is_num
  e_is_arg : FnAt K "is_arg" f_is_arg
  e_is_two : FnAt K "is_two" f_is_two
  e_is_three : FnAt K "is_three" f_is_three
  e_is_call : FnAt K "is_call" f_is_call
  e_is_ring : FnAt K "is_ring" f_is_ring
section
variable {P : Program} {w : World} {K : PySem.W.Frag} {mg : Str → Option Value} {base : Heap}
theorem ok__law_folded (T : Tops K mg w) : OkS P w K mg base 1 T.f__law_folded T.d__law_folded ["script", "size"] 2 W__law_folded :=
  okS_of (k := 0) (by decide) T.F__law_folded sc__law_folded fun cdv A outer s H E hr => (bm_cons (sm_setN (i := 2) sc__law_folded.nd rfl (by first | exact Or.inl rfl | exact Or.inr rfl) (nm_list T.z_list (em_slS (pv 0) om_none (om_some (em_var 1 (pv 1))))))
  (bm_cons (sm_for [3, 4] PassesOwn.never rfl (im_enum (am_cons (em_slS (pv 0) (om_some (em_var 1 (pv 1))) (om_some em_int)) am_nil) T.z_enumerate) (gm_tup (n := 2) rfl (gsm_cons (gm_name (i := 3) sc__law_folded.nd rfl (by first | exact Or.inl rfl | exact Or.inr rfl) (by decide)) (gsm_cons (gm_name (i := 4) sc__law_folded.nd rfl (by first | exact Or.inl rfl | exact Or.inr rfl) (by decide)) gsm_nil))) (bm_one (sm_asg [] (em_add (em_ixO (pv 2) (em_mod (em_var 3 (pv 3)) (em_var 1 (pv 1))) (fun _ _ => rfl)) (em_mul (em_var 4 (pv 4)) (em_add (em_var 3 (pv 3)) em_int))) (gm_sub (pv 2) (em_mod (em_var 3 (pv 3)) (em_var 1 (pv 1)))))))
  (bm_one (sm_retOwn 2 (pv 2)))))
theorem ok__law_box (T : Tops K mg w) : OkS P w K mg base 1 T.f__law_box T.d__law_box ["script", "k"] 2 W__law_box :=
  okS_of (k := 0) (by decide) T.F__law_box sc__law_box fun cdv A outer s H E hr => (bm_cons (sm_set (i := 2) sc__law_box.nd rfl (by first | exact Or.inl rfl | exact Or.inr rfl) (em_if (tm_lt (em_var 1 (pv 1)) (em_len T.z_len (am_cons (em_var 0 (pv 0)) am_nil))) (em_ix (em_var 0 (pv 0)) (em_var 1 (pv 1)) (fun _ _ => rfl)) em_int))
  (bm_one (sm_retN (nm_lst (am_cons (em_mul (em_abs T.z_abs (am_cons (em_var 2 (pv 2)) am_nil)) (em_int_ T.z_int (am_cons (em_ge (em_abs T.z_abs (am_cons (em_var 2 (pv 2)) am_nil)) (em_pow em_int em_int)) am_nil))) (am_cons (em_mod (em_mul (em_add (em_add (em_mod (em_var 2 (pv 2)) em_int) (em_mul em_int (em_var 1 (pv 1)))) em_int) em_int) em_int) (am_cons em_int am_nil)))))))
theorem ok__law_take (T : Tops K mg w) : OkB P w K mg base 1 T.f__law_take T.d__law_take ["box", "size"] 1 W__law_take :=
  okB_of (k := 0) (by decide) T.F__law_take sc__law_take (by rfl) (by decide) fun cdv A outer s H E hr => (bm_cons (sm_if (tm_gt (em_ixO (pv 0) em_int (fun _ _ => rfl)) em_int) (bm_cons (sm_asg [2] (em_divmod T.z_divmod (am_cons (em_ixO (pv 0) em_int (fun _ _ => rfl)) (am_cons (em_var 1 (pv 1)) am_nil))) (gm_tup (n := 2) rfl (gsm_cons (gm_sub (pv 0) em_int) (gsm_cons (gm_name (i := 2) sc__law_take.nd rfl (by first | exact Or.inl rfl | exact Or.inr rfl) (by decide)) gsm_nil))))
  (bm_one (sm_ret (em_var 2 (pv 2))))) bm_nil)
  (bm_cons (sm_if (tm_gt (em_var 1 (pv 1)) (em_pow em_int em_int)) bm_never bm_nil)
  (bm_cons (sm_asg [] (em_add (em_ixO (pv 0) em_int (fun _ _ => rfl)) em_int) (gm_sub (pv 0) em_int))
  (bm_cons (sm_set (i := 3) sc__law_take.nd rfl (by first | exact Or.inl rfl | exact Or.inr rfl) (em_add em_int (em_mul (em_ixO (pv 0) em_int (fun _ _ => rfl)) (em_ixO (pv 0) em_int (fun _ _ => rfl)))))
  (bm_cons (sm_set (i := 4) sc__law_take.nd rfl (by first | exact Or.inl rfl | exact Or.inr rfl) (em_mod (em_mul (em_add (em_ixO (pv 0) em_int (fun _ _ => rfl)) (em_mul em_int (em_ixO (pv 0) em_int (fun _ _ => rfl)))) (em_var 3 (pv 3))) em_int))
  (bm_cons (sm_set (i := 5) sc__law_take.nd rfl (by first | exact Or.inl rfl | exact Or.inr rfl) (em_mod (em_add (em_mul (em_var 4 (pv 4)) (em_add (em_mod (em_var 4 (pv 4)) em_int) em_int)) (em_ixO (pv 0) em_int (fun _ _ => rfl))) em_int))
  (bm_one (sm_ret (em_mod (em_fdiv (em_mod (em_mul (em_var 5 (pv 5)) (em_add (em_mod (em_var 5 (pv 5)) em_int) em_int)) em_int) em_int) (em_var 1 (pv 1)))))))))))
theorem ok__law_some_mark (T : Tops K mg w) : OkB P w K mg base 2 T.f__law_some_mark T.d__law_some_mark ["box"] 0 W__law_some_mark :=
  okB_of (k := 1) (by decide) T.F__law_some_mark sc__law_some_mark (by rfl) (by decide) fun cdv A outer s H E hr => (bm_cons (sm_set (i := 1) sc__law_some_mark.nd rfl (by first | exact Or.inl rfl | exact Or.inr rfl) em_str)
  (bm_cons (sm_set (i := 2) sc__law_some_mark.nd rfl (by first | exact Or.inl rfl | exact Or.inr rfl) (em_fnB (pv 0) (ok__law_take (P := P) (w := w) (base := base) T).ok (ok__law_take (P := P) (w := w) (base := base) T).pm (hr.mono (by omega)) rfl T.g__law_take T.F__law_take.kp T.b__law_take (am_cons em_int am_nil)))
  (bm_cons (sm_if (tm_lt (em_var 2 (pv 2)) em_int) (bm_one (sm_ret (em_ix (em_ofN (nm_lst (am_cons em_str (am_cons em_str am_nil)))) (em_var 2 (pv 2)) (fun _ _ => rfl)))) bm_nil)
  (bm_one (sm_ret (em_join em_str (am_cons (em_ofN (nm_lc [("turn", 3)] rfl sc__law_some_mark.nd (im_range1 (am_cons em_int am_nil) T.z_range) rfl (fun _ _ _ _ _ => (gm_name (i := 3) sc__law_some_mark.nd rfl (by first | exact Or.inl rfl | exact Or.inr rfl) (by decide))) (fun _ _ _ _ _ => tsm_nil) (fun _ _ _ _ _ => (em_ix (em_var 1 (pv 1)) (em_fnB (pv 0) (ok__law_take (P := P) (w := w) (base := base) T).ok (ok__law_take (P := P) (w := w) (base := base) T).pm (hr.mono (by omega)) rfl T.g__law_take T.F__law_take.kp T.b__law_take (am_cons em_int am_nil)) (fun _ _ => rfl))))) am_nil)))))))
theorem ok__law_number (T : Tops K mg w) : OkB P w K mg base 2 T.f__law_number T.d__law_number ["box"] 0 W__law_number :=
  okB_of (k := 1) (by decide) T.F__law_number sc__law_number (by rfl) (by decide) fun cdv A outer s H E hr => (bm_one (sm_ret (em_ix (em_ofN (nm_lst (am_cons (em_fnB (pv 0) (ok__law_take (P := P) (w := w) (base := base) T).ok (ok__law_take (P := P) (w := w) (base := base) T).pm (hr.mono (by omega)) rfl T.g__law_take T.F__law_take.kp T.b__law_take (am_cons em_int am_nil)) (am_cons (em_fnB (pv 0) (ok__law_take (P := P) (w := w) (base := base) T).ok (ok__law_take (P := P) (w := w) (base := base) T).pm (hr.mono (by omega)) rfl T.g__law_take T.F__law_take.kp T.b__law_take (am_cons em_int am_nil)) (am_cons (em_sub em_int (em_fnB (pv 0) (ok__law_take (P := P) (w := w) (base := base) T).ok (ok__law_take (P := P) (w := w) (base := base) T).pm (hr.mono (by omega)) rfl T.g__law_take T.F__law_take.kp T.b__law_take (am_cons em_int am_nil))) am_nil))))) (em_fnB (pv 0) (ok__law_take (P := P) (w := w) (base := base) T).ok (ok__law_take (P := P) (w := w) (base := base) T).pm (hr.mono (by omega)) rfl T.g__law_take T.F__law_take.kp T.b__law_take (am_cons em_int am_nil)) (fun _ _ => rfl))))
theorem ok__law_term (T : Tops K mg w) : ∀ n : Nat, n ≤ 100 → OkB P w K mg base (2 + n) T.f__law_term T.d__law_term ["box", "many", "heads", "tall"] 3 (W__law_term n)
  | 0, _ => okB_never
  | n + 1, hn => by
    have ih := ok__law_term T n (by omega)
    exact okB_of (k := 2 + n) (by omega) T.F__law_term sc__law_term (by rfl) (by decide) fun cdv A outer s H E hr => (bm_cons (sm_set (i := 4) sc__law_term.nd rfl (by first | exact Or.inl rfl | exact Or.inr rfl) (em_if (tm_gt (em_var 3 (pv 3)) em_int) (em_fnB (pv 0) (ok__law_take (P := P) (w := w) (base := base) T).ok (ok__law_take (P := P) (w := w) (base := base) T).pm (hr.mono (by omega)) rfl T.g__law_take T.F__law_take.kp T.b__law_take (am_cons em_int am_nil)) (em_fnB (pv 0) (ok__law_take (P := P) (w := w) (base := base) T).ok (ok__law_take (P := P) (w := w) (base := base) T).pm (hr.mono (by omega)) rfl T.g__law_take T.F__law_take.kp T.b__law_take (am_cons em_int am_nil))))
  (bm_cons (sm_if (tm_w (wm_or (tm_eq hr.units (em_var 4 (pv 4)) em_int) (wm_or1 (tm_w (wm_and (tm_eq hr.units (em_var 4 (pv 4)) em_int) (wm_and1 (tm_eq hr.units (em_var 1 (pv 1)) em_int))))))) (bm_one (sm_ret (em_tup (am_cons em_str (am_cons (em_fnB (pv 0) (ok__law_number (P := P) (w := w) (base := base) T).ok (ok__law_number (P := P) (w := w) (base := base) T).pm (hr.mono (by omega)) rfl T.g__law_number T.F__law_number.kp T.b__law_number am_nil) am_nil))))) bm_nil)
  (bm_cons (sm_if (tm_eq hr.units (em_var 4 (pv 4)) em_int) (bm_one (sm_ret (em_tup (am_cons em_str (am_cons (em_fnB (pv 0) (ok__law_take (P := P) (w := w) (base := base) T).ok (ok__law_take (P := P) (w := w) (base := base) T).pm (hr.mono (by omega)) rfl T.g__law_take T.F__law_take.kp T.b__law_take (am_cons (em_var 1 (pv 1)) am_nil)) am_nil))))) bm_nil)
  (bm_cons (sm_if (tm_w (wm_or (tm_lt (em_var 4 (pv 4)) em_int) (wm_or1 (tm_w (wm_and (tm_eq hr.units (em_var 2 (pv 2)) (em_ofN (nm_lst am_nil))) (wm_and1 (tm_gt (em_var 4 (pv 4)) em_int))))))) (bm_cons (sm_par (i := 5) (j := 6) rfl sc__law_term.nd rfl rfl (by decide) rfl rfl (apm_d (em_ix (em_ofN (nm_lst (am_cons em_str (am_cons em_str (am_cons em_str (am_cons em_str am_nil)))))) (em_fnB (pv 0) (ok__law_take (P := P) (w := w) (base := base) T).ok (ok__law_take (P := P) (w := w) (base := base) T).pm (hr.mono (by omega)) rfl T.g__law_take T.F__law_take.kp T.b__law_take (am_cons em_int am_nil)) (fun _ _ => rfl)) (apm_d (em_fnB (pv 0) ih.ok ih.pm (hr.mono (by omega)) rfl T.g__law_term T.F__law_term.kp T.b__law_term (am_cons (em_var 1 (pv 1)) (am_cons (em_var 2 (pv 2)) (am_cons (em_sub (em_var 3 (pv 3)) em_int) am_nil)))) apm_nil)) rfl)
  (bm_one (sm_ret (em_tup (am_cons (em_var 5 (pv 5)) (am_cons (em_var 6 (pv 6)) (am_cons (em_fnB (pv 0) ih.ok ih.pm (hr.mono (by omega)) rfl T.g__law_term T.F__law_term.kp T.b__law_term (am_cons (em_var 1 (pv 1)) (am_cons (em_var 2 (pv 2)) (am_cons (em_sub (em_var 3 (pv 3)) em_int) am_nil)))) am_nil))))))) bm_nil)
  (bm_cons (sm_if (tm_eq hr.units (em_var 4 (pv 4)) em_int) (bm_cons (sm_par (i := 6) (j := 7) rfl sc__law_term.nd rfl rfl (by decide) rfl rfl (apm_d (em_fnB (pv 0) ih.ok ih.pm (hr.mono (by omega)) rfl T.g__law_term T.F__law_term.kp T.b__law_term (am_cons (em_var 1 (pv 1)) (am_cons (em_var 2 (pv 2)) (am_cons (em_sub (em_var 3 (pv 3)) em_int) am_nil)))) (apm_d (em_fnB (pv 0) ih.ok ih.pm (hr.mono (by omega)) rfl T.g__law_term T.F__law_term.kp T.b__law_term (am_cons (em_var 1 (pv 1)) (am_cons (em_var 2 (pv 2)) (am_cons (em_sub (em_var 3 (pv 3)) em_int) am_nil)))) apm_nil)) rfl)
  (bm_one (sm_ret (em_tup (am_cons em_str (am_cons (em_var 6 (pv 6)) (am_cons (em_var 7 (pv 7)) (am_cons (em_fnB (pv 0) ih.ok ih.pm (hr.mono (by omega)) rfl T.g__law_term T.F__law_term.kp T.b__law_term (am_cons (em_var 1 (pv 1)) (am_cons (em_var 2 (pv 2)) (am_cons (em_sub (em_var 3 (pv 3)) em_int) am_nil)))) am_nil)))))))) bm_nil)
  (bm_cons (sm_asg [8, 9] (em_ix (em_var 2 (pv 2)) (em_fnB (pv 0) (ok__law_take (P := P) (w := w) (base := base) T).ok (ok__law_take (P := P) (w := w) (base := base) T).pm (hr.mono (by omega)) rfl T.g__law_take T.F__law_take.kp T.b__law_take (am_cons (em_len T.z_len (am_cons (em_var 2 (pv 2)) am_nil)) am_nil)) (fun _ _ => rfl)) (gm_tup (n := 2) rfl (gsm_cons (gm_name (i := 8) sc__law_term.nd rfl (by first | exact Or.inl rfl | exact Or.inr rfl) (by decide)) (gsm_cons (gm_name (i := 9) sc__law_term.nd rfl (by first | exact Or.inl rfl | exact Or.inr rfl) (by decide)) gsm_nil))))
  (bm_cons (sm_setN (i := 10) sc__law_term.nd rfl (by first | exact Or.inl rfl | exact Or.inr rfl) (nm_lst am_nil))
  (bm_cons (sm_for [11] PassesOwn.never rfl (im_range1 (am_cons (em_var 9 (pv 9)) am_nil) T.z_range) (gm_name (i := 11) sc__law_term.nd rfl (by first | exact Or.inl rfl | exact Or.inr rfl) (by decide)) (bm_one (sm_drop (em_append (pv 10) (em_fnB (pv 0) ih.ok ih.pm (hr.mono (by omega)) rfl T.g__law_term T.F__law_term.kp T.b__law_term (am_cons (em_var 1 (pv 1)) (am_cons (em_var 2 (pv 2)) (am_cons (em_sub (em_var 3 (pv 3)) em_int) am_nil))))))))
  (bm_one (sm_ret (em_add (em_var 8 (pv 8)) (em_tup (am_cons (em_tuple_ T.z_tuple (am_cons (em_var 10 (pv 10)) am_nil)) am_nil)))))))))))))
theorem ok__law_any_term (T : Tops K mg w) : OkB P w K mg base 9 T.f__law_any_term T.d__law_any_term ["box"] 0 W__law_any_term :=
  okB_of (k := 8) (by decide) T.F__law_any_term sc__law_any_term (by rfl) (by decide) fun cdv A outer s H E hr => (bm_cons (sm_setLc [("turn", 3)] (i := 1) rfl sc__law_any_term.nd rfl rfl rfl (im_range1 (am_cons em_int am_nil) T.z_range) rfl (fun _ _ _ _ _ => (gm_name (i := 3) sc__law_any_term.nd rfl (by first | exact Or.inl rfl | exact Or.inr rfl) (by decide))) (fun _ _ _ _ _ => tsm_nil) (fun _ _ _ _ _ => (em_tup (am_cons (em_tup (am_cons em_str (am_cons (em_fnB (pv 0) (ok__law_some_mark (P := P) (w := w) (base := base) T).ok (ok__law_some_mark (P := P) (w := w) (base := base) T).pm (hr.mono (by omega)) rfl T.g__law_some_mark T.F__law_some_mark.kp T.b__law_some_mark am_nil) am_nil))) (am_cons (em_fnB (pv 0) (ok__law_take (P := P) (w := w) (base := base) T).ok (ok__law_take (P := P) (w := w) (base := base) T).pm (hr.mono (by omega)) rfl T.g__law_take T.F__law_take.kp T.b__law_take (am_cons em_int am_nil)) am_nil)))))
  (bm_cons (sm_set (i := 1) sc__law_any_term.nd rfl (by first | exact Or.inl rfl | exact Or.inr rfl) (em_add (em_var 1 (pv 1)) (em_ofN (nm_lc [("turn", 3)] rfl sc__law_any_term.nd (im_range1 (am_cons em_int am_nil) T.z_range) rfl (fun _ _ _ _ _ => (gm_name (i := 3) sc__law_any_term.nd rfl (by first | exact Or.inl rfl | exact Or.inr rfl) (by decide))) (fun _ _ _ _ _ => tsm_nil) (fun _ _ _ _ _ => (em_tup (am_cons (em_tup (am_cons em_str (am_cons (em_ix (em_ofN (nm_lst (am_cons em_int (am_cons em_int (am_cons (em_fnB (pv 0) (ok__law_take (P := P) (w := w) (base := base) T).ok (ok__law_take (P := P) (w := w) (base := base) T).pm (hr.mono (by omega)) rfl T.g__law_take T.F__law_take.kp T.b__law_take (am_cons em_int am_nil)) am_nil))))) (em_fnB (pv 0) (ok__law_take (P := P) (w := w) (base := base) T).ok (ok__law_take (P := P) (w := w) (base := base) T).pm (hr.mono (by omega)) rfl T.g__law_take T.F__law_take.kp T.b__law_take (am_cons em_int am_nil)) (fun _ _ => rfl)) am_nil))) (am_cons (em_fnB (pv 0) (ok__law_take (P := P) (w := w) (base := base) T).ok (ok__law_take (P := P) (w := w) (base := base) T).pm (hr.mono (by omega)) rfl T.g__law_take T.F__law_take.kp T.b__law_take (am_cons em_int am_nil)) am_nil))))))))
  (bm_cons (sm_set (i := 2) sc__law_any_term.nd rfl (by first | exact Or.inl rfl | exact Or.inr rfl) (em_fnB (pv 0) (ok__law_term (P := P) (w := w) (base := base) T 6 (by decide)).ok (ok__law_term (P := P) (w := w) (base := base) T 6 (by decide)).pm (hr.mono (by omega)) rfl T.g__law_term T.F__law_term.kp T.b__law_term (am_cons (em_add em_int (em_fnB (pv 0) (ok__law_take (P := P) (w := w) (base := base) T).ok (ok__law_take (P := P) (w := w) (base := base) T).pm (hr.mono (by omega)) rfl T.g__law_take T.F__law_take.kp T.b__law_take (am_cons em_int am_nil))) (am_cons (em_var 1 (pv 1)) (am_cons (em_add em_int (em_fnB (pv 0) (ok__law_take (P := P) (w := w) (base := base) T).ok (ok__law_take (P := P) (w := w) (base := base) T).pm (hr.mono (by omega)) rfl T.g__law_take T.F__law_take.kp T.b__law_take (am_cons em_int am_nil))) am_nil)))))
  (bm_cons (sm_for [3] PassesOwn.never rfl (im_range1 (am_cons (em_fnB (pv 0) (ok__law_take (P := P) (w := w) (base := base) T).ok (ok__law_take (P := P) (w := w) (base := base) T).pm (hr.mono (by omega)) rfl T.g__law_take T.F__law_take.kp T.b__law_take (am_cons em_int am_nil)) am_nil) T.z_range) (gm_name (i := 3) sc__law_any_term.nd rfl (by first | exact Or.inl rfl | exact Or.inr rfl) (by decide)) (bm_cons (sm_par (i := 4) (j := 5) rfl sc__law_any_term.nd rfl rfl (by decide) rfl rfl (apm_d (em_ix (em_ofN (nm_lst (am_cons (em_tup (am_cons em_str (am_cons (em_fnB (pv 0) (ok__law_number (P := P) (w := w) (base := base) T).ok (ok__law_number (P := P) (w := w) (base := base) T).pm (hr.mono (by omega)) rfl T.g__law_number T.F__law_number.kp T.b__law_number am_nil) am_nil))) (am_cons (em_tup (am_cons em_str (am_cons (em_fnB (pv 0) (ok__law_take (P := P) (w := w) (base := base) T).ok (ok__law_take (P := P) (w := w) (base := base) T).pm (hr.mono (by omega)) rfl T.g__law_take T.F__law_take.kp T.b__law_take (am_cons em_int am_nil)) am_nil))) am_nil)))) (em_fnB (pv 0) (ok__law_take (P := P) (w := w) (base := base) T).ok (ok__law_take (P := P) (w := w) (base := base) T).pm (hr.mono (by omega)) rfl T.g__law_take T.F__law_take.kp T.b__law_take (am_cons em_int am_nil)) (fun _ _ => rfl)) (apm_d (em_fnB (pv 0) (ok__law_take (P := P) (w := w) (base := base) T).ok (ok__law_take (P := P) (w := w) (base := base) T).pm (hr.mono (by omega)) rfl T.g__law_take T.F__law_take.kp T.b__law_take (am_cons em_int am_nil)) apm_nil)) rfl)
  (bm_one (sm_if (tm_lt (em_var 5 (pv 5)) em_int) (bm_cons (sm_set (i := 6) sc__law_any_term.nd rfl (by first | exact Or.inl rfl | exact Or.inr rfl) (em_ix (em_ofN (nm_lst (am_cons (em_tup (am_cons em_str (am_cons (em_fnB (pv 0) (ok__law_some_mark (P := P) (w := w) (base := base) T).ok (ok__law_some_mark (P := P) (w := w) (base := base) T).pm (hr.mono (by omega)) rfl T.g__law_some_mark T.F__law_some_mark.kp T.b__law_some_mark am_nil) am_nil))) (am_cons (em_tup (am_cons em_str (am_cons (em_fnB (pv 0) (ok__law_take (P := P) (w := w) (base := base) T).ok (ok__law_take (P := P) (w := w) (base := base) T).pm (hr.mono (by omega)) rfl T.g__law_take T.F__law_take.kp T.b__law_take (am_cons em_int am_nil)) am_nil))) am_nil)))) (em_var 5 (pv 5)) (fun _ _ => rfl)))
  (bm_cons (sm_setN (i := 7) sc__law_any_term.nd rfl (by first | exact Or.inl rfl | exact Or.inr rfl) (nm_lst (am_cons (em_tup (am_cons (em_var 2 (pv 2)) am_nil)) (am_cons (em_tup (am_cons (em_var 4 (pv 4)) (am_cons (em_var 2 (pv 2)) am_nil))) (am_cons (em_tup (am_cons (em_var 2 (pv 2)) (am_cons (em_var 4 (pv 4)) am_nil))) (am_cons (em_tup (am_cons (em_var 4 (pv 4)) (am_cons (em_var 4 (pv 4)) (am_cons (em_var 4 (pv 4)) (am_cons (em_var 2 (pv 2)) am_nil))))) (am_cons (em_tup (am_cons (em_var 4 (pv 4)) (am_cons (em_var 4 (pv 4)) (am_cons (em_var 2 (pv 2)) am_nil)))) am_nil)))))))
  (bm_one (sm_set (i := 2) sc__law_any_term.nd rfl (by first | exact Or.inl rfl | exact Or.inr rfl) (em_add (em_var 6 (pv 6)) (em_tup (am_cons (em_ix (em_var 7 (pv 7)) (em_fnB (pv 0) (ok__law_take (P := P) (w := w) (base := base) T).ok (ok__law_take (P := P) (w := w) (base := base) T).pm (hr.mono (by omega)) rfl T.g__law_take T.F__law_take.kp T.b__law_take (am_cons em_int am_nil)) (fun _ _ => rfl)) am_nil))))))) (bm_one (sm_if (tm_eq hr.units (em_var 5 (pv 5)) em_int) (bm_one (sm_set (i := 2) sc__law_any_term.nd rfl (by first | exact Or.inl rfl | exact Or.inr rfl) (em_add (em_tup (am_cons em_str am_nil)) (em_ix (em_ofN (nm_lst (am_cons (em_tup (am_cons (em_var 2 (pv 2)) (am_cons (em_var 4 (pv 4)) (am_cons (em_var 4 (pv 4)) am_nil)))) (am_cons (em_tup (am_cons (em_var 4 (pv 4)) (am_cons (em_var 2 (pv 2)) (am_cons (em_var 4 (pv 4)) am_nil)))) (am_cons (em_tup (am_cons (em_var 4 (pv 4)) (am_cons (em_var 4 (pv 4)) (am_cons (em_var 2 (pv 2)) am_nil)))) am_nil))))) (em_fnB (pv 0) (ok__law_take (P := P) (w := w) (base := base) T).ok (ok__law_take (P := P) (w := w) (base := base) T).pm (hr.mono (by omega)) rfl T.g__law_take T.F__law_take.kp T.b__law_take (am_cons em_int am_nil)) (fun _ _ => rfl))))) (bm_cons (sm_set (i := 8) sc__law_any_term.nd rfl (by first | exact Or.inl rfl | exact Or.inr rfl) (em_ix (em_ofN (nm_lst (am_cons em_str (am_cons em_str (am_cons em_str (am_cons em_str am_nil)))))) (em_fnB (pv 0) (ok__law_take (P := P) (w := w) (base := base) T).ok (ok__law_take (P := P) (w := w) (base := base) T).pm (hr.mono (by omega)) rfl T.g__law_take T.F__law_take.kp T.b__law_take (am_cons em_int am_nil)) (fun _ _ => rfl)))
  (bm_one (sm_set (i := 2) sc__law_any_term.nd rfl (by first | exact Or.inl rfl | exact Or.inr rfl) (em_add (em_tup (am_cons (em_var 8 (pv 8)) am_nil)) (em_ix (em_ofN (nm_lst (am_cons (em_tup (am_cons (em_var 2 (pv 2)) (am_cons (em_var 4 (pv 4)) am_nil))) (am_cons (em_tup (am_cons (em_var 4 (pv 4)) (am_cons (em_var 2 (pv 2)) am_nil))) am_nil)))) (em_sub (em_var 5 (pv 5)) em_int) (fun _ _ => rfl))))))))))))
  (bm_one (sm_ret (em_var 2 (pv 2))))))))
theorem ok_is_below (T : Tops K mg w) : OkS P w K mg base 1 T.f_is_below T.d_is_below ["thing", "many"] 2 W_is_below :=
  okS_of (k := 0) (by decide) T.F_is_below sc_is_below fun cdv A outer s H E hr => (bm_one (sm_ret (em_and (em_isi kit_int T.z_isinstance T.z_int PyProof.Rows.boot_int (em_var 0 (pv 0))) (em_and (em_not (em_isi kit_bool T.z_isinstance T.z_bool (by decide +kernel) (em_var 0 (pv 0)))) (em_one (em_leLt em_int (em_var 0 (pv 0)) (em_var 1 (pv 1))))))))
theorem ok_is_num (T : Tops K mg w) {self : FS} {l : Nat} (ih : OkS P w K mg base l T.f_is_term_within T.d_is_term_within ["thing", "deep"] 2 self) (hl : 1 ≤ l ∧ l ≤ 200) : OkS P w K mg base (l + 1) T.f_is_num T.d_is_num ["parts", "deep"] 2 (W_is_num self) :=
  okS_of (k := l + 0) (by omega) T.F_is_num sc_is_num fun cdv A outer s H E hr => (bm_one (sm_ret (em_and (em_eq hr.units (em_len T.z_len (am_cons (em_var 0 (pv 0)) am_nil)) em_int) (em_one (em_fn (ok_is_below (P := P) (w := w) (base := base) T).ok (ok_is_below (P := P) (w := w) (base := base) T).pm (hr.mono (by omega)) rfl T.g_is_below T.F_is_below.kp T.b_is_below (am_cons (em_ix (em_var 0 (pv 0)) em_int (fun _ _ => rfl)) (am_cons (em_add (em_glI T.c_MOST_NUMBER) em_int) am_nil)))))))
theorem ok_is_arg (T : Tops K mg w) {self : FS} {l : Nat} (ih : OkS P w K mg base l T.f_is_term_within T.d_is_term_within ["thing", "deep"] 2 self) (hl : 1 ≤ l ∧ l ≤ 200) : OkS P w K mg base (l + 1) T.f_is_arg T.d_is_arg ["parts", "deep"] 2 (W_is_arg self) :=
  okS_of (k := l + 0) (by omega) T.F_is_arg sc_is_arg fun cdv A outer s H E hr => (bm_one (sm_ret (em_and (em_eq hr.units (em_len T.z_len (am_cons (em_var 0 (pv 0)) am_nil)) em_int) (em_one (em_fn (ok_is_below (P := P) (w := w) (base := base) T).ok (ok_is_below (P := P) (w := w) (base := base) T).pm (hr.mono (by omega)) rfl T.g_is_below T.F_is_below.kp T.b_is_below (am_cons (em_ix (em_var 0 (pv 0)) em_int (fun _ _ => rfl)) (am_cons (em_glI T.c_MOST_ARGS) am_nil)))))))
theorem ok_are_terms (T : Tops K mg w) {self : FS} {l : Nat} (ih : OkS P w K mg base l T.f_is_term_within T.d_is_term_within ["thing", "deep"] 2 self) (hl : 1 ≤ l ∧ l ≤ 200) : OkS P w K mg base (l + 1) T.f_are_terms T.d_are_terms ["things", "deep"] 2 (W_are_terms self) :=
  okS_of (k := l + 0) (by omega) T.F_are_terms sc_are_terms fun cdv A outer s H E hr => (bm_one (sm_ret (em_all rfl T.z_all (am_cons (em_ofN (nm_lc [("thing", 2)] rfl sc_are_terms.nd (im_U (im_list (em_var 0 (pv 0))) (im_tup (em_var 0 (pv 0)))) rfl (fun _ _ _ _ _ => (gm_name (i := 2) sc_are_terms.nd rfl (by first | exact Or.inl rfl | exact Or.inr rfl) (by decide))) (fun _ _ _ _ _ => tsm_nil) (fun _ _ _ _ _ => (em_fn ih.ok ih.pm (hr.mono (by omega)) rfl T.g_is_term_within T.F_is_term_within.kp T.b_is_term_within (am_cons (em_var 2 (pv 2)) (am_cons (em_var 1 (pv 1)) am_nil)))))) am_nil))))
theorem ok_is_two (T : Tops K mg w) {self : FS} {l : Nat} (ih : OkS P w K mg base l T.f_is_term_within T.d_is_term_within ["thing", "deep"] 2 self) (hl : 1 ≤ l ∧ l ≤ 200) : OkS P w K mg base (l + 2) T.f_is_two T.d_is_two ["parts", "deep"] 2 (W_is_two self) :=
  okS_of (k := l + 1) (by omega) T.F_is_two sc_is_two fun cdv A outer s H E hr => (bm_one (sm_ret (em_and (em_eq hr.units (em_len T.z_len (am_cons (em_var 0 (pv 0)) am_nil)) em_int) (em_one (em_fn (ok_are_terms (P := P) (w := w) (base := base) T ih hl).ok (ok_are_terms (P := P) (w := w) (base := base) T ih hl).pm (hr.mono (by omega)) rfl T.g_are_terms T.F_are_terms.kp T.b_are_terms (am_cons (em_var 0 (pv 0)) (am_cons (em_var 1 (pv 1)) am_nil)))))))
theorem ok_is_three (T : Tops K mg w) {self : FS} {l : Nat} (ih : OkS P w K mg base l T.f_is_term_within T.d_is_term_within ["thing", "deep"] 2 self) (hl : 1 ≤ l ∧ l ≤ 200) : OkS P w K mg base (l + 2) T.f_is_three T.d_is_three ["parts", "deep"] 2 (W_is_three self) :=
  okS_of (k := l + 1) (by omega) T.F_is_three sc_is_three fun cdv A outer s H E hr => (bm_one (sm_ret (em_and (em_eq hr.units (em_len T.z_len (am_cons (em_var 0 (pv 0)) am_nil)) em_int) (em_one (em_fn (ok_are_terms (P := P) (w := w) (base := base) T ih hl).ok (ok_are_terms (P := P) (w := w) (base := base) T ih hl).pm (hr.mono (by omega)) rfl T.g_are_terms T.F_are_terms.kp T.b_are_terms (am_cons (em_var 0 (pv 0)) (am_cons (em_var 1 (pv 1)) am_nil)))))))
theorem ok_is_mark (T : Tops K mg w) : OkS P w K mg base 1 T.f_is_mark T.d_is_mark ["thing"] 1 W_is_mark :=
  okS_of (k := 0) (by decide) T.F_is_mark sc_is_mark fun cdv A outer s H E hr => (bm_one (sm_ret (em_and (em_isi kit_str T.z_isinstance T.z_str PyProof.Rows.boot_str (em_var 0 (pv 0))) (em_and (em_eq hr.units (em_len T.z_len (am_cons (em_var 0 (pv 0)) am_nil)) (em_glI T.c_MARK_SIZE)) (em_one (em_all rfl T.z_all (am_cons (em_ofN (nm_lc [("sign", 1)] rfl sc_is_mark.nd (im_str (em_var 0 (pv 0))) rfl (fun _ _ _ _ _ => (gm_name (i := 1) sc_is_mark.nd rfl (by first | exact Or.inl rfl | exact Or.inr rfl) (by decide))) (fun _ _ _ _ _ => tsm_nil) (fun _ _ _ _ _ => (em_in (by rfl) (em_var 1 (pv 1)) (em_glS T.c_SHORT_SIGNS))))) am_nil)))))))
theorem ok_are_parts (T : Tops K mg w) {self : FS} {l : Nat} (ih : OkS P w K mg base l T.f_is_term_within T.d_is_term_within ["thing", "deep"] 2 self) (hl : 1 ≤ l ∧ l ≤ 200) : OkS P w K mg base (l + 2) T.f_are_parts T.d_are_parts ["thing", "deep"] 2 (W_are_parts self) :=
  okS_of (k := l + 1) (by omega) T.F_are_parts sc_are_parts fun cdv A outer s H E hr => (bm_one (sm_ret (em_and (em_isi kit_tuple T.z_isinstance T.z_tuple PyProof.Rows.boot_tuple (em_var 0 (pv 0))) (em_and (em_le (em_len T.z_len (am_cons (em_var 0 (pv 0)) am_nil)) (em_glI T.c_MOST_ARGS)) (em_one (em_fn (ok_are_terms (P := P) (w := w) (base := base) T ih hl).ok (ok_are_terms (P := P) (w := w) (base := base) T ih hl).pm (hr.mono (by omega)) rfl T.g_are_terms T.F_are_terms.kp T.b_are_terms (am_cons (em_var 0 (pv 0)) (am_cons (em_var 1 (pv 1)) am_nil))))))))
theorem ok_is_call (T : Tops K mg w) {self : FS} {l : Nat} (ih : OkS P w K mg base l T.f_is_term_within T.d_is_term_within ["thing", "deep"] 2 self) (hl : 1 ≤ l ∧ l ≤ 200) : OkS P w K mg base (l + 3) T.f_is_call T.d_is_call ["parts", "deep"] 2 (W_is_call self) :=
  okS_of (k := l + 2) (by omega) T.F_is_call sc_is_call fun cdv A outer s H E hr => (bm_one (sm_ret (em_and (em_eq hr.units (em_len T.z_len (am_cons (em_var 0 (pv 0)) am_nil)) em_int) (em_and (em_fn (ok_is_mark (P := P) (w := w) (base := base) T).ok (ok_is_mark (P := P) (w := w) (base := base) T).pm (hr.mono (by omega)) rfl T.g_is_mark T.F_is_mark.kp T.b_is_mark (am_cons (em_ix (em_var 0 (pv 0)) em_int (fun _ _ => rfl)) am_nil)) (em_one (em_fn (ok_are_parts (P := P) (w := w) (base := base) T ih hl).ok (ok_are_parts (P := P) (w := w) (base := base) T ih hl).pm (hr.mono (by omega)) rfl T.g_are_parts T.F_are_parts.kp T.b_are_parts (am_cons (em_ix (em_var 0 (pv 0)) em_int (fun _ _ => rfl)) (am_cons (em_var 1 (pv 1)) am_nil))))))))
theorem ok_is_ring (T : Tops K mg w) {self : FS} {l : Nat} (ih : OkS P w K mg base l T.f_is_term_within T.d_is_term_within ["thing", "deep"] 2 self) (hl : 1 ≤ l ∧ l ≤ 200) : OkS P w K mg base (l + 3) T.f_is_ring T.d_is_ring ["parts", "deep"] 2 (W_is_ring self) :=
  okS_of (k := l + 2) (by omega) T.F_is_ring sc_is_ring fun cdv A outer s H E hr => (bm_one (sm_ret (em_and (em_eq hr.units (em_len T.z_len (am_cons (em_var 0 (pv 0)) am_nil)) em_int) (em_and (em_fn (ok_is_below (P := P) (w := w) (base := base) T).ok (ok_is_below (P := P) (w := w) (base := base) T).pm (hr.mono (by omega)) rfl T.g_is_below T.F_is_below.kp T.b_is_below (am_cons (em_ix (em_var 0 (pv 0)) em_int (fun _ _ => rfl)) (am_cons (em_glI T.c_MOST_PLACES) am_nil))) (em_one (em_fn (ok_are_parts (P := P) (w := w) (base := base) T ih hl).ok (ok_are_parts (P := P) (w := w) (base := base) T ih hl).pm (hr.mono (by omega)) rfl T.g_are_parts T.F_are_parts.kp T.b_are_parts (am_cons (em_ix (em_var 0 (pv 0)) em_int (fun _ _ => rfl)) (am_cons (em_var 1 (pv 1)) am_nil))))))))
theorem held_TERM_FORMS (T : Tops K mg w) {self : FS} {l : Nat} (ih : OkS P w K mg base l T.f_is_term_within T.d_is_term_within ["thing", "deep"] 2 self) (hl : 1 ≤ l ∧ l ≤ 200) : HeldAll P w K mg base (l + 3) (tab_TERM_FORMS self) :=
  (heldAll_cons (ok_is_num T ih hl) (by omega) T.e_is_num T.F_is_num.kp T.b_is_num (heldAll_cons (ok_is_arg T ih hl) (by omega) T.e_is_arg T.F_is_arg.kp T.b_is_arg (heldAll_cons (ok_is_two T ih hl) (by omega) T.e_is_two T.F_is_two.kp T.b_is_two (heldAll_cons (ok_is_three T ih hl) (by omega) T.e_is_three T.F_is_three.kp T.b_is_three (heldAll_cons (ok_is_call T ih hl) (by omega) T.e_is_call T.F_is_call.kp T.b_is_call (heldAll_cons (ok_is_ring T ih hl) (by omega) T.e_is_ring T.F_is_ring.kp T.b_is_ring heldAll_nil))))))
theorem ok_is_term_within (T : Tops K mg w) : ∀ n : Nat, n ≤ 20 → OkS P w K mg base (1 + 4 * n) T.f_is_term_within T.d_is_term_within ["thing", "deep"] 2 (W_is_term_within n)
  | 0, _ => okS_never
  | n + 1, hn => by
    have ih := ok_is_term_within T n (by omega)
    exact okS_of (k := 1 + 4 * n + 3) (by omega) T.F_is_term_within sc_is_term_within fun cdv A outer s H E hr => (bm_cons (sm_if (tm_w (wm_or (tm_eq hr.units (em_var 1 (pv 1)) em_int) (wm_or (tm_not (tm_val (em_isi kit_tuple T.z_isinstance T.z_tuple PyProof.Rows.boot_tuple (em_var 0 (pv 0))))) (wm_or (tm_eq hr.units (em_len T.z_len (am_cons (em_var 0 (pv 0)) am_nil)) em_int) (wm_or1 (tm_not (tm_val (em_isi kit_str T.z_isinstance T.z_str PyProof.Rows.boot_str (em_ix (em_var 0 (pv 0)) em_int (fun _ _ => rfl)))))))))) (bm_one (sm_ret em_bl)) bm_nil)
  (bm_cons (sm_star (i := 2) (j := 3) rfl sc_is_term_within.nd rfl rfl (by first | exact Or.inl rfl | exact Or.inr rfl) (by first | exact Or.inl rfl | exact Or.inr rfl) (em_var 0 (pv 0)))
  (bm_cons (sm_if (tm_ninF T.t_TERM_FORMS T.n_TERM_FORMS (em_var 2 (pv 2))) (bm_one (sm_ret em_bl)) bm_nil)
  (bm_cons (sm_set (i := 4) sc_is_term_within.nd rfl (by first | exact Or.inl rfl | exact Or.inr rfl) (em_fix T.t_TERM_FORMS T.n_TERM_FORMS (em_var 2 (pv 2)) (fun _ _ => rfl)))
  (bm_one (sm_ret (em_fnV (i := 4) (held_TERM_FORMS T ih (by omega)) (hr.mono (by omega)) rfl (by first | exact Or.inl rfl | exact Or.inr rfl | exact Or.inr (Or.inl rfl) | exact Or.inr (Or.inr rfl)) (am_cons (em_var 3 (pv 3)) (am_cons (em_sub (em_var 1 (pv 1)) em_int) am_nil)))))))))
theorem ok_is_term (T : Tops K mg w) : OkS P w K mg base 38 T.f_is_term T.d_is_term ["thing"] 1 W_is_term :=
  okS_of (k := 37) (by decide) T.F_is_term sc_is_term fun cdv A outer s H E hr => (bm_one (sm_ret (em_fn (ok_is_term_within (P := P) (w := w) (base := base) T 9 (by decide)).ok (ok_is_term_within (P := P) (w := w) (base := base) T 9 (by decide)).pm (hr.mono (by omega)) rfl T.g_is_term_within T.F_is_term_within.kp T.b_is_term_within (am_cons (em_var 0 (pv 0)) (am_cons (em_glI T.c_MOST_DEEP) am_nil)))))
theorem ok__law_is_below (T : Tops K mg w) : OkS P w K mg base 1 T.f__law_is_below T.d__law_is_below ["thing", "many"] 2 W__law_is_below :=
  okS_of (k := 0) (by decide) T.F__law_is_below sc__law_is_below fun cdv A outer s H E hr => (bm_one (sm_ret (em_and (em_isi kit_int T.z_isinstance T.z_int PyProof.Rows.boot_int (em_var 0 (pv 0))) (em_and (em_not (em_isi kit_bool T.z_isinstance T.z_bool (by decide +kernel) (em_var 0 (pv 0)))) (em_one (em_leLt em_int (em_var 0 (pv 0)) (em_var 1 (pv 1))))))))
theorem ok__law_is_a_mark (T : Tops K mg w) : OkS P w K mg base 1 T.f__law_is_a_mark T.d__law_is_a_mark ["thing"] 1 W__law_is_a_mark :=
  okS_of (k := 0) (by decide) T.F__law_is_a_mark sc__law_is_a_mark fun cdv A outer s H E hr => (bm_cons (sm_if (tm_w (wm_or (tm_not (tm_val (em_isi kit_str T.z_isinstance T.z_str PyProof.Rows.boot_str (em_var 0 (pv 0))))) (wm_or1 (tm_ne hr.units (em_len T.z_len (am_cons (em_var 0 (pv 0)) am_nil)) em_int)))) (bm_one (sm_ret em_bl)) bm_nil)
  (bm_one (sm_ret (em_eq hr.units (em_strip (em_var 0 (pv 0)) (am_cons em_str am_nil)) em_str))))
theorem ok__law_is_a_term (T : Tops K mg w) : ∀ n : Nat, n ≤ 100 → OkS P w K mg base (1 + n) T.f__law_is_a_term T.d__law_is_a_term ["thing", "deep"] 2 (W__law_is_a_term n)
  | 0, _ => okS_never
  | n + 1, hn => by
    have ih := ok__law_is_a_term T n (by omega)
    exact okS_of (k := 1 + n) (by omega) T.F__law_is_a_term sc__law_is_a_term fun cdv A outer s H E hr => (bm_cons (sm_if (tm_w (wm_or (tm_lt (em_var 1 (pv 1)) em_int) (wm_or (tm_not (tm_val (em_isi kit_tuple T.z_isinstance T.z_tuple PyProof.Rows.boot_tuple (em_var 0 (pv 0))))) (wm_or (tm_eq hr.units (em_var 0 (pv 0)) (em_tup am_nil)) (wm_or1 (tm_not (tm_val (em_isi kit_str T.z_isinstance T.z_str PyProof.Rows.boot_str (em_ix (em_var 0 (pv 0)) em_int (fun _ _ => rfl)))))))))) (bm_one (sm_ret em_bl)) bm_nil)
  (bm_cons (sm_if (tm_in (by rfl) (em_ix (em_var 0 (pv 0)) em_int (fun _ _ => rfl)) (em_tup (am_cons em_str (am_cons em_str am_nil)))) (bm_one (sm_ret (em_and (em_eq hr.units (em_len T.z_len (am_cons (em_var 0 (pv 0)) am_nil)) em_int) (em_one (em_fn (ok__law_is_below (P := P) (w := w) (base := base) T).ok (ok__law_is_below (P := P) (w := w) (base := base) T).pm (hr.mono (by omega)) rfl T.g__law_is_below T.F__law_is_below.kp T.b__law_is_below (am_cons (em_ix (em_var 0 (pv 0)) em_int (fun _ _ => rfl)) (am_cons (em_dget (by have := hr.units; exact Nat.lt_of_le_of_lt (Nat.add_le_add_left (by decide) _) this) (em_dlit [("num", 1000003), ("arg", 4)] (pps_cons pe_str pe_int (pps_cons pe_str pe_int pps_nil)) (by decide +kernel) (by decide) rfl rfl (by simp) (by decide)) (em_ix (em_var 0 (pv 0)) em_int (fun _ _ => rfl)) (fun _ _ => rfl)) am_nil))))))) bm_nil)
  (bm_cons (sm_set (i := 2) sc__law_is_a_term.nd rfl (by first | exact Or.inl rfl | exact Or.inr rfl) (em_sl (em_var 0 (pv 0)) (om_some em_int) om_none))
  (bm_cons (sm_if (tm_in (by rfl) (em_ix (em_var 0 (pv 0)) em_int (fun _ _ => rfl)) (em_tup (am_cons em_str (am_cons em_str am_nil)))) (bm_cons (sm_if (tm_w (wm_or (tm_ne hr.units (em_len T.z_len (am_cons (em_var 0 (pv 0)) am_nil)) em_int) (wm_or (tm_not (tm_val (em_isi kit_tuple T.z_isinstance T.z_tuple PyProof.Rows.boot_tuple (em_ix (em_var 0 (pv 0)) em_int (fun _ _ => rfl))))) (wm_or1 (tm_gt (em_len T.z_len (am_cons (em_ix (em_var 0 (pv 0)) em_int (fun _ _ => rfl)) am_nil)) em_int))))) (bm_one (sm_ret em_bl)) bm_nil)
  (bm_cons (sm_if (tm_not (tm_ifx (tm_eq hr.units (em_ix (em_var 0 (pv 0)) em_int (fun _ _ => rfl)) em_str) (tm_val (em_fn (ok__law_is_a_mark (P := P) (w := w) (base := base) T).ok (ok__law_is_a_mark (P := P) (w := w) (base := base) T).pm (hr.mono (by omega)) rfl T.g__law_is_a_mark T.F__law_is_a_mark.kp T.b__law_is_a_mark (am_cons (em_ix (em_var 0 (pv 0)) em_int (fun _ _ => rfl)) am_nil))) (tm_val (em_fn (ok__law_is_below (P := P) (w := w) (base := base) T).ok (ok__law_is_below (P := P) (w := w) (base := base) T).pm (hr.mono (by omega)) rfl T.g__law_is_below T.F__law_is_below.kp T.b__law_is_below (am_cons (em_ix (em_var 0 (pv 0)) em_int (fun _ _ => rfl)) (am_cons em_int am_nil)))))) (bm_one (sm_ret em_bl)) bm_nil)
  (bm_one (sm_set (i := 2) sc__law_is_a_term.nd rfl (by first | exact Or.inl rfl | exact Or.inr rfl) (em_ix (em_var 0 (pv 0)) em_int (fun _ _ => rfl)))))) (bm_one (sm_if (tm_ne hr.units (em_len T.z_len (am_cons (em_var 2 (pv 2)) am_nil)) (em_getI (by have := hr.units; exact Nat.lt_of_le_of_lt (Nat.add_le_add_left (by decide) _) this) (em_dlit [("add", 2), ("less", 2), ("times", 2), ("under", 2), ("if", 3)] (pps_cons pe_str pe_int (pps_cons pe_str pe_int (pps_cons pe_str pe_int (pps_cons pe_str pe_int (pps_cons pe_str pe_int pps_nil))))) (by decide +kernel) (by decide) rfl rfl (by simp) (by decide)) (em_ix (em_var 0 (pv 0)) em_int (fun _ _ => rfl)) (em_neg em_int))) (bm_one (sm_ret em_bl)) bm_nil)))
  (bm_one (sm_ret (em_all rfl T.z_all (am_cons (em_ofN (nm_lc [("part", 3)] rfl sc__law_is_a_term.nd (im_tup (em_var 2 (pv 2))) rfl (fun _ _ _ _ _ => (gm_name (i := 3) sc__law_is_a_term.nd rfl (by first | exact Or.inl rfl | exact Or.inr rfl) (by decide))) (fun _ _ _ _ _ => tsm_nil) (fun _ _ _ _ _ => (em_fn ih.ok ih.pm (hr.mono (by omega)) rfl T.g__law_is_a_term T.F__law_is_a_term.kp T.b__law_is_a_term (am_cons (em_var 3 (pv 3)) (am_cons (em_sub (em_var 1 (pv 1)) em_int) am_nil)))))) am_nil))))))))
theorem ok__law_odd (T : Tops K mg w) : OkB P w K mg base 2 T.f__law_odd T.d__law_odd ["box", "part"] 1 W__law_odd :=
  okB_of (k := 1) (by decide) T.F__law_odd sc__law_odd (by rfl) (by decide) fun cdv A outer s H E hr => (bm_cons (sm_setN (i := 2) sc__law_odd.nd rfl (by first | exact Or.inl rfl | exact Or.inr rfl) (nm_lst (am_cons em_non (am_cons em_bl (am_cons em_bl (am_cons (em_neg em_int) (am_cons em_int (am_cons em_int (am_cons em_int (am_cons em_int (am_cons em_int (am_cons em_int (am_cons em_int (am_cons (em_pow em_int em_int) (am_cons em_str (am_cons em_str (am_cons em_str (am_cons em_str (am_cons em_str (am_cons em_str am_nil))))))))))))))))))))
  (bm_cons (sm_set (i := 2) sc__law_odd.nd rfl (by first | exact Or.inl rfl | exact Or.inr rfl) (em_addA (em_var 2 (pv 2)) (em_ofN (nm_lst (am_cons em_str (am_cons em_str (am_cons em_str (am_cons em_str (am_cons em_str (am_cons em_str (am_cons (em_tup am_nil) (am_cons (em_ofN (nm_lst am_nil)) (am_cons (em_tup (am_cons em_str (am_cons em_int am_nil))) (am_cons (em_ofN (nm_lst (am_cons em_str (am_cons em_int am_nil)))) (am_cons (em_tup (am_cons em_str (am_cons em_int am_nil))) am_nil)))))))))))))))
  (bm_cons (sm_set (i := 2) sc__law_odd.nd rfl (by first | exact Or.inl rfl | exact Or.inr rfl) (em_addA (em_var 2 (pv 2)) (em_ofN (nm_lst (am_cons (em_tup (am_cons (em_var 1 (pv 1)) am_nil)) (am_cons (em_ofN (nm_lst (am_cons (em_var 1 (pv 1)) am_nil))) (am_cons (em_tup (am_cons (em_var 1 (pv 1)) (am_cons (em_var 1 (pv 1)) am_nil))) (am_cons (em_tup (am_cons em_str (am_cons em_int am_nil))) (am_cons (em_tup (am_cons em_str (am_cons em_bl am_nil))) (am_cons (em_tup (am_cons em_str (am_cons em_int (am_cons (em_tup am_nil) am_nil)))) (am_cons (em_tup (am_cons em_str (am_cons em_str (am_cons (em_tup am_nil) am_nil)))) am_nil)))))))))))
  (bm_cons (sm_if (tm_val (em_isi kit_int T.z_isinstance T.z_int PyProof.Rows.boot_int (em_var 1 (pv 1)))) (bm_one (sm_set (i := 2) sc__law_odd.nd rfl (by first | exact Or.inl rfl | exact Or.inr rfl) (em_addA (em_var 2 (pv 2)) (em_ofN (nm_lst (am_cons (em_addA (em_var 1 (pv 1)) em_int) (am_cons (em_subA (em_var 1 (pv 1)) em_int) (am_cons (em_strA T.z_str (am_cons (em_var 1 (pv 1)) am_nil)) am_nil)))))))) bm_nil)
  (bm_cons (sm_if (tm_val (em_isi kit_str T.z_isinstance T.z_str PyProof.Rows.boot_str (em_var 1 (pv 1)))) (bm_one (sm_set (i := 2) sc__law_odd.nd rfl (by first | exact Or.inl rfl | exact Or.inr rfl) (em_addA (em_var 2 (pv 2)) (em_ofN (nm_lst (am_cons (em_addA (em_var 1 (pv 1)) em_str) (am_cons (em_sl (em_var 1 (pv 1)) om_none (om_some (em_neg em_int))) (am_cons (em_upper (em_var 1 (pv 1))) (am_cons (em_revA (em_var 1 (pv 1))) am_nil))))))))) bm_nil)
  (bm_cons (sm_if (tm_val (em_isi kit_tuple T.z_isinstance T.z_tuple PyProof.Rows.boot_tuple (em_var 1 (pv 1)))) (bm_cons (sm_set (i := 2) sc__law_odd.nd rfl (by first | exact Or.inl rfl | exact Or.inr rfl) (em_addA (em_var 2 (pv 2)) (em_ofN (nm_lst (am_cons (em_ofN (nm_list T.z_list (em_var 1 (pv 1)))) (am_cons (em_addA (em_var 1 (pv 1)) (em_sl (em_var 1 (pv 1)) (om_some (em_neg em_int)) om_none)) (am_cons (em_sl (em_var 1 (pv 1)) (om_some em_int) om_none) (am_cons (em_revA (em_var 1 (pv 1))) (am_cons (em_addA (em_tup (am_cons em_str am_nil)) (em_sl (em_var 1 (pv 1)) (om_some em_int) om_none)) (am_cons (em_addA (em_tup (am_cons em_str am_nil)) (em_sl (em_var 1 (pv 1)) (om_some em_int) om_none)) am_nil))))))))))
  (bm_one (sm_set (i := 2) sc__law_odd.nd rfl (by first | exact Or.inl rfl | exact Or.inr rfl) (em_addA (em_var 2 (pv 2)) (em_ofN (nm_lst (am_cons (em_tup (am_cons em_str (am_cons em_str (am_cons (em_tup (am_cons (em_var 1 (pv 1)) am_nil)) am_nil)))) (am_cons (em_tup (am_cons em_str (am_cons (em_var 1 (pv 1)) (am_cons (em_var 1 (pv 1)) am_nil)))) (am_cons (em_tup (am_cons em_str (am_cons em_int (am_cons (em_var 1 (pv 1)) am_nil)))) (am_cons (em_addA (em_var 1 (pv 1)) (em_tup (am_cons (em_tup (am_cons em_str (am_cons em_int am_nil))) am_nil))) am_nil)))))))))) bm_nil)
  (bm_one (sm_ret (em_ix (em_var 2 (pv 2)) (em_fnB (pv 0) (ok__law_take (P := P) (w := w) (base := base) T).ok (ok__law_take (P := P) (w := w) (base := base) T).pm (hr.mono (by omega)) rfl T.g__law_take T.F__law_take.kp T.b__law_take (am_cons (em_len T.z_len (am_cons (em_var 2 (pv 2)) am_nil)) am_nil)) (fun _ _ => rfl))))))))))
theorem ok__law_same (T : Tops K mg w) : ∀ n : Nat, n ≤ 100 → OkS P w K mg base (0 + n) T.f__law_same T.d__law_same ["found", "due"] 2 (W__law_same n)
  | 0, _ => okS_never
  | n + 1, hn => by
    have ih := ok__law_same T n (by omega)
    exact okS_of (k := 0 + n) (by omega) T.F__law_same sc__law_same fun cdv A outer s H E hr => (bm_cons (sm_if (tm_val (em_isi2 kit_list kit_tuple T.z_isinstance T.z_list T.z_tuple PyProof.Rows.boot_list PyProof.Rows.boot_tuple (em_var 1 (pv 1)))) (bm_cons (sm_if (tm_w (wm_or (tm_ne hr.units (em_isi kit_list T.z_isinstance T.z_list PyProof.Rows.boot_list (em_var 0 (pv 0))) (em_isi kit_list T.z_isinstance T.z_list PyProof.Rows.boot_list (em_var 1 (pv 1)))) (wm_or1 (tm_ne hr.units (em_isi kit_tuple T.z_isinstance T.z_tuple PyProof.Rows.boot_tuple (em_var 0 (pv 0))) (em_isi kit_tuple T.z_isinstance T.z_tuple PyProof.Rows.boot_tuple (em_var 1 (pv 1))))))) (bm_one (sm_ret em_bl)) bm_nil)
  (bm_one (sm_ret (em_and (em_eq hr.units (em_len T.z_len (am_cons (em_var 0 (pv 0)) am_nil)) (em_len T.z_len (am_cons (em_var 1 (pv 1)) am_nil))) (em_one (em_all rfl T.z_all (am_cons (em_ofN (nm_lc [("one", 2), ("other", 3)] rfl sc__law_same.nd (im_zip (am_cons (em_var 0 (pv 0)) (am_cons (em_var 1 (pv 1)) am_nil)) T.z_zip) rfl (fun _ _ _ _ _ => (gm_tup (n := 2) rfl (gsm_cons (gm_name (i := 2) sc__law_same.nd rfl (by first | exact Or.inl rfl | exact Or.inr rfl) (by decide)) (gsm_cons (gm_name (i := 3) sc__law_same.nd rfl (by first | exact Or.inl rfl | exact Or.inr rfl) (by decide)) gsm_nil)))) (fun _ _ _ _ _ => tsm_nil) (fun _ _ _ _ _ => (em_fn ih.ok ih.pm (hr.mono (by omega)) rfl T.g__law_same T.F__law_same.kp T.b__law_same (am_cons (em_var 2 (pv 2)) (am_cons (em_var 3 (pv 3)) am_nil)))))) am_nil))))))) bm_nil)
  (bm_cons (sm_if (tm_w (wm_or (tm_is (em_var 1 (pv 1)) em_non) (wm_or1 (tm_val (em_isi kit_str T.z_isinstance T.z_str PyProof.Rows.boot_str (em_var 1 (pv 1))))))) (bm_one (sm_ret (em_and (em_eq hr.units (em_var 0 (pv 0)) (em_var 1 (pv 1))) (em_one (em_eq hr.units (em_isi kit_str T.z_isinstance T.z_str PyProof.Rows.boot_str (em_var 0 (pv 0))) (em_isi kit_str T.z_isinstance T.z_str PyProof.Rows.boot_str (em_var 1 (pv 1)))))))) bm_nil)
  (bm_one (sm_ret (em_and (em_isi kit_int T.z_isinstance T.z_int PyProof.Rows.boot_int (em_var 0 (pv 0))) (em_and (em_eq hr.units (em_isi kit_bool T.z_isinstance T.z_bool (by decide +kernel) (em_var 0 (pv 0))) (em_isi kit_bool T.z_isinstance T.z_bool (by decide +kernel) (em_var 1 (pv 1)))) (em_one (em_eq hr.units (em_var 0 (pv 0)) (em_var 1 (pv 1))))))))))
theorem ok__law_marks_right (T : Tops K mg w) : OkB P w K mg base 21 T.f__law_marks_right T.d__law_marks_right ["box"] 0 W__law_marks_right :=
  okB_of (k := 20) (by decide) T.F__law_marks_right sc__law_marks_right (by rfl) (by decide) fun cdv A outer s H E hr => (bm_cons (sm_par (i := 1) (j := 2) rfl sc__law_marks_right.nd rfl rfl (by decide) rfl rfl (apm_d (em_fnB (pv 0) (ok__law_some_mark (P := P) (w := w) (base := base) T).ok (ok__law_some_mark (P := P) (w := w) (base := base) T).pm (hr.mono (by omega)) rfl T.g__law_some_mark T.F__law_some_mark.kp T.b__law_some_mark am_nil) (apm_d em_str apm_nil)) rfl)
  (bm_cons (sm_par (i := 3) (j := 4) rfl sc__law_marks_right.nd rfl rfl (by decide) rfl rfl (apm_d (em_fnB (pv 0) (ok__law_take (P := P) (w := w) (base := base) T).ok (ok__law_take (P := P) (w := w) (base := base) T).pm (hr.mono (by omega)) rfl T.g__law_take T.F__law_take.kp T.b__law_take (am_cons em_int am_nil)) (apm_d (em_ix (em_var 2 (pv 2)) (em_fnB (pv 0) (ok__law_take (P := P) (w := w) (base := base) T).ok (ok__law_take (P := P) (w := w) (base := base) T).pm (hr.mono (by omega)) rfl T.g__law_take T.F__law_take.kp T.b__law_take (am_cons em_int am_nil)) (fun _ _ => rfl)) apm_nil)) rfl)
  (bm_cons (sm_par (i := 5) (j := 6) rfl sc__law_marks_right.nd rfl rfl (by decide) rfl rfl (apm_d (em_sl (em_var 1 (pv 1)) om_none (om_some (em_var 3 (pv 3)))) (apm_d (em_sl (em_var 1 (pv 1)) (om_some (em_add (em_var 3 (pv 3)) em_int)) om_none) apm_nil)) rfl)
  (bm_cons (sm_setN (i := 7) sc__law_marks_right.nd rfl (by first | exact Or.inl rfl | exact Or.inr rfl) (nm_lst (am_cons (em_var 1 (pv 1)) (am_cons (em_add (em_add (em_var 5 (pv 5)) (em_var 4 (pv 4))) (em_var 6 (pv 6))) (am_cons (em_add (em_var 1 (pv 1)) (em_var 4 (pv 4))) (am_cons (em_add (em_var 5 (pv 5)) (em_var 6 (pv 6))) (am_cons (em_upper (em_var 1 (pv 1))) (am_cons em_str (am_cons (em_add em_str (em_var 1 (pv 1))) am_nil)))))))))
  (bm_cons (sm_set (i := 7) sc__law_marks_right.nd rfl (by first | exact Or.inl rfl | exact Or.inr rfl) (em_add (em_var 7 (pv 7)) (em_ofN (nm_lst (am_cons (em_fnB (pv 0) (ok__law_odd (P := P) (w := w) (base := base) T).ok (ok__law_odd (P := P) (w := w) (base := base) T).pm (hr.mono (by omega)) rfl T.g__law_odd T.F__law_odd.kp T.b__law_odd (am_cons (em_var 1 (pv 1)) am_nil)) (am_cons (em_tupS rfl T.z_tuple (am_cons (em_var 1 (pv 1)) am_nil)) (am_cons (em_ofN (nm_listS rfl T.z_list (em_var 1 (pv 1)))) (am_cons (em_int36 T.z_int (am_cons (em_var 1 (pv 1)) (am_cons em_int am_nil))) am_nil))))))))
  (bm_one (sm_ret (em_all rfl T.z_all (am_cons (em_ofN (nm_lc [("one", 8)] rfl sc__law_marks_right.nd (im_list (em_var 7 (pv 7))) rfl (fun _ _ _ _ _ => (gm_name (i := 8) sc__law_marks_right.nd rfl (by first | exact Or.inl rfl | exact Or.inr rfl) (by decide))) (fun _ _ _ _ _ => tsm_nil) (fun _ _ _ _ _ => (em_fn (ok__law_same (P := P) (w := w) (base := base) T 20 (by decide)).ok (ok__law_same (P := P) (w := w) (base := base) T 20 (by decide)).pm (hr.mono (by omega)) rfl T.g__law_same T.F__law_same.kp T.b__law_same (am_cons (em_fn (ok_is_mark (P := P) (w := w) (base := base) T).ok (ok_is_mark (P := P) (w := w) (base := base) T).pm (hr.mono (by omega)) rfl T.g_is_mark T.F_is_mark.kp T.b_is_mark (am_cons (em_var 8 (pv 8)) am_nil)) (am_cons (em_fn (ok__law_is_a_mark (P := P) (w := w) (base := base) T).ok (ok__law_is_a_mark (P := P) (w := w) (base := base) T).pm (hr.mono (by omega)) rfl T.g__law_is_a_mark T.F__law_is_a_mark.kp T.b__law_is_a_mark (am_cons (em_var 8 (pv 8)) am_nil)) am_nil)))))) am_nil)))))))))
theorem ok__law_bent (T : Tops K mg w) : ∀ n : Nat, n ≤ 100 → OkB P w K mg base (2 + n) T.f__law_bent T.d__law_bent ["box", "thing"] 1 (W__law_bent n)
  | 0, _ => okB_never
  | n + 1, hn => by
    have ih := ok__law_bent T n (by omega)
    exact okB_of (k := 2 + n) (by omega) T.F__law_bent sc__law_bent (by rfl) (by decide) fun cdv A outer s H E hr => (bm_cons (sm_if (tm_w (wm_or (tm_not (tm_val (em_isi kit_tuple T.z_isinstance T.z_tuple PyProof.Rows.boot_tuple (em_var 1 (pv 1))))) (wm_or (tm_eq hr.units (em_var 1 (pv 1)) (em_tup am_nil)) (wm_or1 (tm_eq hr.units (em_fnB (pv 0) (ok__law_take (P := P) (w := w) (base := base) T).ok (ok__law_take (P := P) (w := w) (base := base) T).pm (hr.mono (by omega)) rfl T.g__law_take T.F__law_take.kp T.b__law_take (am_cons em_int am_nil)) em_int))))) (bm_one (sm_ret (em_fnB (pv 0) (ok__law_odd (P := P) (w := w) (base := base) T).ok (ok__law_odd (P := P) (w := w) (base := base) T).pm (hr.mono (by omega)) rfl T.g__law_odd T.F__law_odd.kp T.b__law_odd (am_cons (em_var 1 (pv 1)) am_nil)))) bm_nil)
  (bm_cons (sm_set (i := 2) sc__law_bent.nd rfl (by first | exact Or.inl rfl | exact Or.inr rfl) (em_if (tm_eq hr.units (em_fnB (pv 0) (ok__law_take (P := P) (w := w) (base := base) T).ok (ok__law_take (P := P) (w := w) (base := base) T).pm (hr.mono (by omega)) rfl T.g__law_take T.F__law_take.kp T.b__law_take (am_cons em_int am_nil)) em_int) (em_subA (em_len T.z_len (am_cons (em_var 1 (pv 1)) am_nil)) em_int) (em_fnB (pv 0) (ok__law_take (P := P) (w := w) (base := base) T).ok (ok__law_take (P := P) (w := w) (base := base) T).pm (hr.mono (by omega)) rfl T.g__law_take T.F__law_take.kp T.b__law_take (am_cons (em_len T.z_len (am_cons (em_var 1 (pv 1)) am_nil)) am_nil))))
  (bm_one (sm_ret (em_addA (em_addA (em_sl (em_var 1 (pv 1)) om_none (om_some (em_var 2 (pv 2)))) (em_tup (am_cons (em_fnB (pv 0) ih.ok ih.pm (hr.mono (by omega)) rfl T.g__law_bent T.F__law_bent.kp T.b__law_bent (am_cons (em_ix (em_var 1 (pv 1)) (em_var 2 (pv 2)) (fun _ _ => rfl)) am_nil)) am_nil))) (em_sl (em_var 1 (pv 1)) (om_some (em_addA (em_var 2 (pv 2)) em_int)) om_none))))))
theorem ok__law_right (T : Tops K mg w) : OkB P w K mg base 39 T.f__law_right T.d__law_right ["box"] 0 W__law_right :=
  okB_of (k := 38) (by decide) T.F__law_right sc__law_right (by rfl) (by decide) fun cdv A outer s H E hr => (bm_cons (sm_set (i := 1) sc__law_right.nd rfl (by first | exact Or.inl rfl | exact Or.inr rfl) (em_fnB (pv 0) (ok__law_any_term (P := P) (w := w) (base := base) T).ok (ok__law_any_term (P := P) (w := w) (base := base) T).pm (hr.mono (by omega)) rfl T.g__law_any_term T.F__law_any_term.kp T.b__law_any_term am_nil))
  (bm_cons (sm_if (tm_w (wm_or (tm_isn (em_fn (ok_is_term (P := P) (w := w) (base := base) T).ok (ok_is_term (P := P) (w := w) (base := base) T).pm (hr.mono (by omega)) rfl T.g_is_term T.F_is_term.kp T.b_is_term (am_cons (em_var 1 (pv 1)) am_nil)) em_bl) (wm_or (tm_not (tm_val (em_fn (ok__law_is_a_term (P := P) (w := w) (base := base) T 9 (by decide)).ok (ok__law_is_a_term (P := P) (w := w) (base := base) T 9 (by decide)).pm (hr.mono (by omega)) rfl T.g__law_is_a_term T.F__law_is_a_term.kp T.b__law_is_a_term (am_cons (em_var 1 (pv 1)) (am_cons em_int am_nil))))) (wm_or1 (tm_not (tm_val (em_fnB (pv 0) (ok__law_marks_right (P := P) (w := w) (base := base) T).ok (ok__law_marks_right (P := P) (w := w) (base := base) T).pm (hr.mono (by omega)) rfl T.g__law_marks_right T.F__law_marks_right.kp T.b__law_marks_right am_nil))))))) (bm_one (sm_ret em_bl)) bm_nil)
  (bm_cons (sm_for [2] PassesOwn.never rfl (im_range1 (am_cons em_int am_nil) T.z_range) (gm_name (i := 2) sc__law_right.nd rfl (by first | exact Or.inl rfl | exact Or.inr rfl) (by decide)) (bm_cons (sm_set (i := 3) sc__law_right.nd rfl (by first | exact Or.inl rfl | exact Or.inr rfl) (em_fnB (pv 0) (ok__law_bent (P := P) (w := w) (base := base) T 30 (by decide)).ok (ok__law_bent (P := P) (w := w) (base := base) T 30 (by decide)).pm (hr.mono (by omega)) rfl T.g__law_bent T.F__law_bent.kp T.b__law_bent (am_cons (em_var 1 (pv 1)) am_nil)))
  (bm_cons (sm_if (tm_eq hr.units (em_fnB (pv 0) (ok__law_take (P := P) (w := w) (base := base) T).ok (ok__law_take (P := P) (w := w) (base := base) T).pm (hr.mono (by omega)) rfl T.g__law_take T.F__law_take.kp T.b__law_take (am_cons em_int am_nil)) em_int) (bm_one (sm_set (i := 3) sc__law_right.nd rfl (by first | exact Or.inl rfl | exact Or.inr rfl) (em_fnB (pv 0) (ok__law_bent (P := P) (w := w) (base := base) T 30 (by decide)).ok (ok__law_bent (P := P) (w := w) (base := base) T 30 (by decide)).pm (hr.mono (by omega)) rfl T.g__law_bent T.F__law_bent.kp T.b__law_bent (am_cons (em_var 3 (pv 3)) am_nil)))) bm_nil)
  (bm_cons (sm_par (i := 4) (j := 5) rfl sc__law_right.nd rfl rfl (by decide) rfl rfl (apm_d (em_reprA hr T.z_repr (am_cons (em_var 3 (pv 3)) am_nil)) (apm_d (em_fn (ok_is_term (P := P) (w := w) (base := base) T).ok (ok_is_term (P := P) (w := w) (base := base) T).pm (hr.mono (by omega)) rfl T.g_is_term T.F_is_term.kp T.b_is_term (am_cons (em_var 3 (pv 3)) am_nil)) apm_nil)) rfl)
  (bm_one (sm_if (tm_w (wm_or (tm_not (tm_val (em_fn (ok__law_same (P := P) (w := w) (base := base) T 20 (by decide)).ok (ok__law_same (P := P) (w := w) (base := base) T 20 (by decide)).pm (hr.mono (by omega)) rfl T.g__law_same T.F__law_same.kp T.b__law_same (am_cons (em_var 5 (pv 5)) (am_cons (em_fn (ok__law_is_a_term (P := P) (w := w) (base := base) T 9 (by decide)).ok (ok__law_is_a_term (P := P) (w := w) (base := base) T 9 (by decide)).pm (hr.mono (by omega)) rfl T.g__law_is_a_term T.F__law_is_a_term.kp T.b__law_is_a_term (am_cons (em_var 3 (pv 3)) (am_cons em_int am_nil))) am_nil))))) (wm_or1 (tm_ne hr.units (em_reprA hr T.z_repr (am_cons (em_var 3 (pv 3)) am_nil)) (em_var 4 (pv 4)))))) (bm_one (sm_ret em_bl)) bm_nil))))))
  (bm_cons (sm_for [2] PassesOwn.never rfl (im_range1 (am_cons em_int am_nil) T.z_range) (gm_name (i := 2) sc__law_right.nd rfl (by first | exact Or.inl rfl | exact Or.inr rfl) (by decide)) (bm_cons (sm_if (tm_not (tm_val (em_fn (ok__law_is_a_term (P := P) (w := w) (base := base) T 9 (by decide)).ok (ok__law_is_a_term (P := P) (w := w) (base := base) T 9 (by decide)).pm (hr.mono (by omega)) rfl T.g__law_is_a_term T.F__law_is_a_term.kp T.b__law_is_a_term (am_cons (em_var 1 (pv 1)) (am_cons em_int am_nil))))) (bm_one (sm_ret (em_gt (em_var 2 (pv 2)) em_int))) bm_nil)
  (bm_cons (sm_set (i := 1) sc__law_right.nd rfl (by first | exact Or.inl rfl | exact Or.inr rfl) (em_ix (em_ofN (nm_lst (am_cons (em_tup (am_cons em_str (am_cons em_str (am_cons (em_tup (am_cons (em_var 1 (pv 1)) am_nil)) am_nil)))) (am_cons (em_tup (am_cons em_str (am_cons (em_tup (am_cons em_str (am_cons em_int am_nil))) (am_cons (em_var 1 (pv 1)) am_nil)))) (am_cons (em_tup (am_cons em_str (am_cons em_int (am_cons (em_tup (am_cons (em_tup (am_cons em_str (am_cons em_int am_nil))) (am_cons (em_var 1 (pv 1)) am_nil))) am_nil)))) am_nil))))) (em_mod (em_var 2 (pv 2)) em_int) (fun _ _ => rfl)))
  (bm_one (sm_if (tm_not (tm_val (em_fn (ok__law_same (P := P) (w := w) (base := base) T 20 (by decide)).ok (ok__law_same (P := P) (w := w) (base := base) T 20 (by decide)).pm (hr.mono (by omega)) rfl T.g__law_same T.F__law_same.kp T.b__law_same (am_cons (em_fn (ok_is_term (P := P) (w := w) (base := base) T).ok (ok_is_term (P := P) (w := w) (base := base) T).pm (hr.mono (by omega)) rfl T.g_is_term T.F_is_term.kp T.b_is_term (am_cons (em_var 1 (pv 1)) am_nil)) (am_cons (em_fn (ok__law_is_a_term (P := P) (w := w) (base := base) T 9 (by decide)).ok (ok__law_is_a_term (P := P) (w := w) (base := base) T 9 (by decide)).pm (hr.mono (by omega)) rfl T.g__law_is_a_term T.F__law_is_a_term.kp T.b__law_is_a_term (am_cons (em_var 1 (pv 1)) (am_cons em_int am_nil))) am_nil))))) (bm_one (sm_ret em_bl)) bm_nil)))))
  (bm_one (sm_ret (em_not (em_fn (ok__law_is_a_term (P := P) (w := w) (base := base) T 9 (by decide)).ok (ok__law_is_a_term (P := P) (w := w) (base := base) T 9 (by decide)).pm (hr.mono (by omega)) rfl T.g__law_is_a_term T.F__law_is_a_term.kp T.b__law_is_a_term (am_cons (em_var 1 (pv 1)) (am_cons em_int am_nil))))))))))
theorem ok_law (T : Tops K mg w) : OkS P w K mg base 40 T.f_law T.d_law ["script"] 1 W_law :=
  okS_of (k := 39) (by decide) T.F_law sc_law fun cdv A outer s H E hr => (bm_cons (sm_setN (i := 1) sc_law.nd rfl (by first | exact Or.inl rfl | exact Or.inr rfl) (nm_fn (ok__law_folded (P := P) (w := w) (base := base) T).ok (ok__law_folded (P := P) (w := w) (base := base) T).pm (hr.mono (by omega)) rfl T.g__law_folded T.F__law_folded.kp T.b__law_folded (am_cons (em_var 0 (pv 0)) (am_cons em_int am_nil))))
  (bm_cons (sm_for [2] PassesOwn.never rfl (im_range1 (am_cons (em_max rfl T.z_max (am_cons em_int (am_cons (em_len T.z_len (am_cons (em_var 1 (pv 1)) am_nil)) am_nil))) am_nil) T.z_range) (gm_name (i := 2) sc_law.nd rfl (by first | exact Or.inl rfl | exact Or.inr rfl) (by decide)) (bm_cons (sm_setN (i := 3) sc_law.nd rfl (by first | exact Or.inl rfl | exact Or.inr rfl) (nm_fn (ok__law_box (P := P) (w := w) (base := base) T).ok (ok__law_box (P := P) (w := w) (base := base) T).pm (hr.mono (by omega)) rfl T.g__law_box T.F__law_box.kp T.b__law_box (am_cons (em_var 1 (pv 1)) (am_cons (em_var 2 (pv 2)) am_nil))))
  (bm_one (sm_if (tm_not (tm_val (em_all rfl T.z_all (am_cons (em_ofN (nm_lc [("turn", 4)] rfl sc_law.nd (im_range1 (am_cons em_int am_nil) T.z_range) rfl (fun _ _ _ _ _ => (gm_name (i := 4) sc_law.nd rfl (by first | exact Or.inl rfl | exact Or.inr rfl) (by decide))) (fun _ _ _ _ _ => tsm_nil) (fun _ _ _ _ _ => (em_fnB (pv 3) (ok__law_right (P := P) (w := w) (base := base) T).ok (ok__law_right (P := P) (w := w) (base := base) T).pm (hr.mono (by omega)) rfl T.g__law_right T.F__law_right.kp T.b__law_right am_nil)))) am_nil)))) (bm_one (sm_ret em_bl)) bm_nil))))
  (bm_one (sm_ret em_bl))))
end
theorem all_mk {l : PySem.W.OpenLaw} {w : World} {K : PySem.W.Frag} {h : Heap} {mg : Str → Option Value} {fa f0 f1 f2 f3 f4 f5 f6 f7 f8 f9 f10 f11 f12 f13 f14 f15 f16 f17 f18 f19 f20 f21 f22 f23 f24 f25 f26 f27 : Addr} (X : K.In h) (G : h.Ns mainGlobals mg) (hfa : mg "law" = some (.ref fa))
    {od0 an0 od1 an1 od2 an2 od3 an3 od4 an4 od5 an5 od6 an6 od7 an7 od8 an8 od9 an9 od10 an10 od11 an11 od12 an12 od13 an13 od14 an14 od15 an15 od16 an16 od17 an17 od18 an18 od19 an19 od20 an20 od21 an21 od22 an22 od23 an23 od24 an24 od25 an25 od26 an26 od27 an27 : Option Addr} {sl0 sl1 sl2 sl3 sl4 sl5 sl6 sl7 sl8 sl9 sl10 sl11 sl12 sl13 sl14 sl15 sl16 sl17 sl18 sl19 sl20 sl21 sl22 sl23 sl24 sl25 sl26 sl27 : Array (Option Value)} {oc0 kV0 dc0 pm0 cd0 ct0 oc1 kV1 dc1 pm1 cd1 ct1 oc2 kV2 dc2 pm2 cd2 ct2 oc3 kV3 dc3 pm3 cd3 ct3 oc4 kV4 dc4 pm4 cd4 ct4 oc5 kV5 dc5 pm5 cd5 ct5 oc6 kV6 dc6 pm6 cd6 ct6 oc7 kV7 dc7 pm7 cd7 ct7 oc8 kV8 dc8 pm8 cd8 ct8 oc9 kV9 dc9 pm9 cd9 ct9 oc10 kV10 dc10 pm10 cd10 ct10 oc11 kV11 dc11 pm11 cd11 ct11 oc12 kV12 dc12 pm12 cd12 ct12 oc13 kV13 dc13 pm13 cd13 ct13 oc14 kV14 dc14 pm14 cd14 ct14 oc15 kV15 dc15 pm15 cd15 ct15 oc16 kV16 dc16 pm16 cd16 ct16 oc17 kV17 dc17 pm17 cd17 ct17 oc18 kV18 dc18 pm18 cd18 ct18 oc19 kV19 dc19 pm19 cd19 ct19 oc20 kV20 dc20 pm20 cd20 ct20 oc21 kV21 dc21 pm21 cd21 ct21 oc22 kV22 dc22 pm22 cd22 ct22 oc23 kV23 dc23 pm23 cd23 ct23 oc24 kV24 dc24 pm24 cd24 ct24 oc25 kV25 dc25 pm25 cd25 ct25 oc26 kV26 dc26 pm26 cd26 ct26 oc27 kV27 dc27 pm27 cd27 ct27 : Value} {t_MARK_SIZE t_MOST_ARGS t_MOST_DEEP t_MOST_NUMBER t_MOST_PLACES t_SHORT_SIGNS : Tok}
    (a0 : PySem.W.nsIn K mainGlobals "_law_folded" = some (some (.ref f0))) (l0 : K.lookup f0 = some ⟨oc0, od0, .func (PySem.W.fnOf "_law_folded" "_law_folded" (defArgs s__law_folded) (defBody s__law_folded) (defScope s__law_folded) .none kV0 dc0 pm0 an0 cd0 ct0), sl0⟩) (c0 : PySem.W.codeIn K cd0 "_law_folded" = true) (k0 : PySem.W.keepIn K (.ref f0) = true)
    (a1 : PySem.W.nsIn K mainGlobals "_law_box" = some (some (.ref f1))) (l1 : K.lookup f1 = some ⟨oc1, od1, .func (PySem.W.fnOf "_law_box" "_law_box" (defArgs s__law_box) (defBody s__law_box) (defScope s__law_box) .none kV1 dc1 pm1 an1 cd1 ct1), sl1⟩) (c1 : PySem.W.codeIn K cd1 "_law_box" = true) (k1 : PySem.W.keepIn K (.ref f1) = true)
    (a2 : PySem.W.nsIn K mainGlobals "_law_take" = some (some (.ref f2))) (l2 : K.lookup f2 = some ⟨oc2, od2, .func (PySem.W.fnOf "_law_take" "_law_take" (defArgs s__law_take) (defBody s__law_take) (defScope s__law_take) .none kV2 dc2 pm2 an2 cd2 ct2), sl2⟩) (c2 : PySem.W.codeIn K cd2 "_law_take" = true) (k2 : PySem.W.keepIn K (.ref f2) = true)
    (a3 : PySem.W.nsIn K mainGlobals "_law_some_mark" = some (some (.ref f3))) (l3 : K.lookup f3 = some ⟨oc3, od3, .func (PySem.W.fnOf "_law_some_mark" "_law_some_mark" (defArgs s__law_some_mark) (defBody s__law_some_mark) (defScope s__law_some_mark) .none kV3 dc3 pm3 an3 cd3 ct3), sl3⟩) (c3 : PySem.W.codeIn K cd3 "_law_some_mark" = true) (k3 : PySem.W.keepIn K (.ref f3) = true)
    (a4 : PySem.W.nsIn K mainGlobals "_law_number" = some (some (.ref f4))) (l4 : K.lookup f4 = some ⟨oc4, od4, .func (PySem.W.fnOf "_law_number" "_law_number" (defArgs s__law_number) (defBody s__law_number) (defScope s__law_number) .none kV4 dc4 pm4 an4 cd4 ct4), sl4⟩) (c4 : PySem.W.codeIn K cd4 "_law_number" = true) (k4 : PySem.W.keepIn K (.ref f4) = true)
    (a5 : PySem.W.nsIn K mainGlobals "_law_term" = some (some (.ref f5))) (l5 : K.lookup f5 = some ⟨oc5, od5, .func (PySem.W.fnOf "_law_term" "_law_term" (defArgs s__law_term) (defBody s__law_term) (defScope s__law_term) .none kV5 dc5 pm5 an5 cd5 ct5), sl5⟩) (c5 : PySem.W.codeIn K cd5 "_law_term" = true) (k5 : PySem.W.keepIn K (.ref f5) = true)
    (a6 : PySem.W.nsIn K mainGlobals "_law_any_term" = some (some (.ref f6))) (l6 : K.lookup f6 = some ⟨oc6, od6, .func (PySem.W.fnOf "_law_any_term" "_law_any_term" (defArgs s__law_any_term) (defBody s__law_any_term) (defScope s__law_any_term) .none kV6 dc6 pm6 an6 cd6 ct6), sl6⟩) (c6 : PySem.W.codeIn K cd6 "_law_any_term" = true) (k6 : PySem.W.keepIn K (.ref f6) = true)
    (a7 : PySem.W.nsIn K mainGlobals "is_below" = some (some (.ref f7))) (l7 : K.lookup f7 = some ⟨oc7, od7, .func (PySem.W.fnOf "is_below" "is_below" (defArgs s_is_below) (defBody s_is_below) (defScope s_is_below) .none kV7 dc7 pm7 an7 cd7 ct7), sl7⟩) (c7 : PySem.W.codeIn K cd7 "is_below" = true) (k7 : PySem.W.keepIn K (.ref f7) = true)
    (a8 : PySem.W.nsIn K mainGlobals "is_num" = some (some (.ref f8))) (l8 : K.lookup f8 = some ⟨oc8, od8, .func (PySem.W.fnOf "is_num" "is_num" (defArgs s_is_num) (defBody s_is_num) (defScope s_is_num) .none kV8 dc8 pm8 an8 cd8 ct8), sl8⟩) (c8 : PySem.W.codeIn K cd8 "is_num" = true) (k8 : PySem.W.keepIn K (.ref f8) = true)
    (a9 : PySem.W.nsIn K mainGlobals "is_arg" = some (some (.ref f9))) (l9 : K.lookup f9 = some ⟨oc9, od9, .func (PySem.W.fnOf "is_arg" "is_arg" (defArgs s_is_arg) (defBody s_is_arg) (defScope s_is_arg) .none kV9 dc9 pm9 an9 cd9 ct9), sl9⟩) (c9 : PySem.W.codeIn K cd9 "is_arg" = true) (k9 : PySem.W.keepIn K (.ref f9) = true)
    (a10 : PySem.W.nsIn K mainGlobals "are_terms" = some (some (.ref f10))) (l10 : K.lookup f10 = some ⟨oc10, od10, .func (PySem.W.fnOf "are_terms" "are_terms" (defArgs s_are_terms) (defBody s_are_terms) (defScope s_are_terms) .none kV10 dc10 pm10 an10 cd10 ct10), sl10⟩) (c10 : PySem.W.codeIn K cd10 "are_terms" = true) (k10 : PySem.W.keepIn K (.ref f10) = true)
    (a11 : PySem.W.nsIn K mainGlobals "is_two" = some (some (.ref f11))) (l11 : K.lookup f11 = some ⟨oc11, od11, .func (PySem.W.fnOf "is_two" "is_two" (defArgs s_is_two) (defBody s_is_two) (defScope s_is_two) .none kV11 dc11 pm11 an11 cd11 ct11), sl11⟩) (c11 : PySem.W.codeIn K cd11 "is_two" = true) (k11 : PySem.W.keepIn K (.ref f11) = true)
    (a12 : PySem.W.nsIn K mainGlobals "is_three" = some (some (.ref f12))) (l12 : K.lookup f12 = some ⟨oc12, od12, .func (PySem.W.fnOf "is_three" "is_three" (defArgs s_is_three) (defBody s_is_three) (defScope s_is_three) .none kV12 dc12 pm12 an12 cd12 ct12), sl12⟩) (c12 : PySem.W.codeIn K cd12 "is_three" = true) (k12 : PySem.W.keepIn K (.ref f12) = true)
    (a13 : PySem.W.nsIn K mainGlobals "is_mark" = some (some (.ref f13))) (l13 : K.lookup f13 = some ⟨oc13, od13, .func (PySem.W.fnOf "is_mark" "is_mark" (defArgs s_is_mark) (defBody s_is_mark) (defScope s_is_mark) .none kV13 dc13 pm13 an13 cd13 ct13), sl13⟩) (c13 : PySem.W.codeIn K cd13 "is_mark" = true) (k13 : PySem.W.keepIn K (.ref f13) = true)
    (a14 : PySem.W.nsIn K mainGlobals "are_parts" = some (some (.ref f14))) (l14 : K.lookup f14 = some ⟨oc14, od14, .func (PySem.W.fnOf "are_parts" "are_parts" (defArgs s_are_parts) (defBody s_are_parts) (defScope s_are_parts) .none kV14 dc14 pm14 an14 cd14 ct14), sl14⟩) (c14 : PySem.W.codeIn K cd14 "are_parts" = true) (k14 : PySem.W.keepIn K (.ref f14) = true)
    (a15 : PySem.W.nsIn K mainGlobals "is_call" = some (some (.ref f15))) (l15 : K.lookup f15 = some ⟨oc15, od15, .func (PySem.W.fnOf "is_call" "is_call" (defArgs s_is_call) (defBody s_is_call) (defScope s_is_call) .none kV15 dc15 pm15 an15 cd15 ct15), sl15⟩) (c15 : PySem.W.codeIn K cd15 "is_call" = true) (k15 : PySem.W.keepIn K (.ref f15) = true)
    (a16 : PySem.W.nsIn K mainGlobals "is_ring" = some (some (.ref f16))) (l16 : K.lookup f16 = some ⟨oc16, od16, .func (PySem.W.fnOf "is_ring" "is_ring" (defArgs s_is_ring) (defBody s_is_ring) (defScope s_is_ring) .none kV16 dc16 pm16 an16 cd16 ct16), sl16⟩) (c16 : PySem.W.codeIn K cd16 "is_ring" = true) (k16 : PySem.W.keepIn K (.ref f16) = true)
    (a17 : PySem.W.nsIn K mainGlobals "is_term_within" = some (some (.ref f17))) (l17 : K.lookup f17 = some ⟨oc17, od17, .func (PySem.W.fnOf "is_term_within" "is_term_within" (defArgs s_is_term_within) (defBody s_is_term_within) (defScope s_is_term_within) .none kV17 dc17 pm17 an17 cd17 ct17), sl17⟩) (c17 : PySem.W.codeIn K cd17 "is_term_within" = true) (k17 : PySem.W.keepIn K (.ref f17) = true)
    (a18 : PySem.W.nsIn K mainGlobals "is_term" = some (some (.ref f18))) (l18 : K.lookup f18 = some ⟨oc18, od18, .func (PySem.W.fnOf "is_term" "is_term" (defArgs s_is_term) (defBody s_is_term) (defScope s_is_term) .none kV18 dc18 pm18 an18 cd18 ct18), sl18⟩) (c18 : PySem.W.codeIn K cd18 "is_term" = true) (k18 : PySem.W.keepIn K (.ref f18) = true)
    (a19 : PySem.W.nsIn K mainGlobals "_law_is_below" = some (some (.ref f19))) (l19 : K.lookup f19 = some ⟨oc19, od19, .func (PySem.W.fnOf "_law_is_below" "_law_is_below" (defArgs s__law_is_below) (defBody s__law_is_below) (defScope s__law_is_below) .none kV19 dc19 pm19 an19 cd19 ct19), sl19⟩) (c19 : PySem.W.codeIn K cd19 "_law_is_below" = true) (k19 : PySem.W.keepIn K (.ref f19) = true)
    (a20 : PySem.W.nsIn K mainGlobals "_law_is_a_mark" = some (some (.ref f20))) (l20 : K.lookup f20 = some ⟨oc20, od20, .func (PySem.W.fnOf "_law_is_a_mark" "_law_is_a_mark" (defArgs s__law_is_a_mark) (defBody s__law_is_a_mark) (defScope s__law_is_a_mark) .none kV20 dc20 pm20 an20 cd20 ct20), sl20⟩) (c20 : PySem.W.codeIn K cd20 "_law_is_a_mark" = true) (k20 : PySem.W.keepIn K (.ref f20) = true)
    (a21 : PySem.W.nsIn K mainGlobals "_law_is_a_term" = some (some (.ref f21))) (l21 : K.lookup f21 = some ⟨oc21, od21, .func (PySem.W.fnOf "_law_is_a_term" "_law_is_a_term" (defArgs s__law_is_a_term) (defBody s__law_is_a_term) (defScope s__law_is_a_term) .none kV21 dc21 pm21 an21 cd21 ct21), sl21⟩) (c21 : PySem.W.codeIn K cd21 "_law_is_a_term" = true) (k21 : PySem.W.keepIn K (.ref f21) = true)
    (a22 : PySem.W.nsIn K mainGlobals "_law_odd" = some (some (.ref f22))) (l22 : K.lookup f22 = some ⟨oc22, od22, .func (PySem.W.fnOf "_law_odd" "_law_odd" (defArgs s__law_odd) (defBody s__law_odd) (defScope s__law_odd) .none kV22 dc22 pm22 an22 cd22 ct22), sl22⟩) (c22 : PySem.W.codeIn K cd22 "_law_odd" = true) (k22 : PySem.W.keepIn K (.ref f22) = true)
    (a23 : PySem.W.nsIn K mainGlobals "_law_same" = some (some (.ref f23))) (l23 : K.lookup f23 = some ⟨oc23, od23, .func (PySem.W.fnOf "_law_same" "_law_same" (defArgs s__law_same) (defBody s__law_same) (defScope s__law_same) .none kV23 dc23 pm23 an23 cd23 ct23), sl23⟩) (c23 : PySem.W.codeIn K cd23 "_law_same" = true) (k23 : PySem.W.keepIn K (.ref f23) = true)
    (a24 : PySem.W.nsIn K mainGlobals "_law_marks_right" = some (some (.ref f24))) (l24 : K.lookup f24 = some ⟨oc24, od24, .func (PySem.W.fnOf "_law_marks_right" "_law_marks_right" (defArgs s__law_marks_right) (defBody s__law_marks_right) (defScope s__law_marks_right) .none kV24 dc24 pm24 an24 cd24 ct24), sl24⟩) (c24 : PySem.W.codeIn K cd24 "_law_marks_right" = true) (k24 : PySem.W.keepIn K (.ref f24) = true)
    (a25 : PySem.W.nsIn K mainGlobals "_law_bent" = some (some (.ref f25))) (l25 : K.lookup f25 = some ⟨oc25, od25, .func (PySem.W.fnOf "_law_bent" "_law_bent" (defArgs s__law_bent) (defBody s__law_bent) (defScope s__law_bent) .none kV25 dc25 pm25 an25 cd25 ct25), sl25⟩) (c25 : PySem.W.codeIn K cd25 "_law_bent" = true) (k25 : PySem.W.keepIn K (.ref f25) = true)
    (a26 : PySem.W.nsIn K mainGlobals "_law_right" = some (some (.ref f26))) (l26 : K.lookup f26 = some ⟨oc26, od26, .func (PySem.W.fnOf "_law_right" "_law_right" (defArgs s__law_right) (defBody s__law_right) (defScope s__law_right) .none kV26 dc26 pm26 an26 cd26 ct26), sl26⟩) (c26 : PySem.W.codeIn K cd26 "_law_right" = true) (k26 : PySem.W.keepIn K (.ref f26) = true)
    (a27 : PySem.W.nsIn K mainGlobals "law" = some (some (.ref f27))) (l27 : K.lookup f27 = some ⟨oc27, od27, .func (PySem.W.fnOf "law" "law" (defArgs s_law) (defBody s_law) (defScope s_law) .none kV27 dc27 pm27 an27 cd27 ct27), sl27⟩) (c27 : PySem.W.codeIn K cd27 "law" = true) (k27 : PySem.W.keepIn K (.ref f27) = true)
    (z_abs : PySem.W.nsIn K mainGlobals "abs" = some none)
    (z_all : PySem.W.nsIn K mainGlobals "all" = some none)
    (z_bool : PySem.W.nsIn K mainGlobals "bool" = some none)
    (z_divmod : PySem.W.nsIn K mainGlobals "divmod" = some none)
    (z_enumerate : PySem.W.nsIn K mainGlobals "enumerate" = some none)
    (z_int : PySem.W.nsIn K mainGlobals "int" = some none)
    (z_isinstance : PySem.W.nsIn K mainGlobals "isinstance" = some none)
    (z_len : PySem.W.nsIn K mainGlobals "len" = some none)
    (z_list : PySem.W.nsIn K mainGlobals "list" = some none)
    (z_max : PySem.W.nsIn K mainGlobals "max" = some none)
    (z_range : PySem.W.nsIn K mainGlobals "range" = some none)
    (z_repr : PySem.W.nsIn K mainGlobals "repr" = some none)
    (z_str : PySem.W.nsIn K mainGlobals "str" = some none)
    (z_tuple : PySem.W.nsIn K mainGlobals "tuple" = some none)
    (z_zip : PySem.W.nsIn K mainGlobals "zip" = some none)
    (c_MARK_SIZE : PySem.W.nsIn K mainGlobals "MARK_SIZE" = some (some (.int 6 t_MARK_SIZE)))
    (c_MOST_ARGS : PySem.W.nsIn K mainGlobals "MOST_ARGS" = some (some (.int 4 t_MOST_ARGS)))
    (c_MOST_DEEP : PySem.W.nsIn K mainGlobals "MOST_DEEP" = some (some (.int 8 t_MOST_DEEP)))
    (c_MOST_NUMBER : PySem.W.nsIn K mainGlobals "MOST_NUMBER" = some (some (.int 1000002 t_MOST_NUMBER)))
    (c_MOST_PLACES : PySem.W.nsIn K mainGlobals "MOST_PLACES" = some (some (.int 12 t_MOST_PLACES)))
    (c_SHORT_SIGNS : PySem.W.nsIn K mainGlobals "SHORT_SIGNS" = some (some (.str "0123456789abcdefghijklmnopqrstuvwxyz" t_SHORT_SIGNS)))
    {a_TERM_FORMS : Addr} (n_TERM_FORMS : PySem.W.nsIn K mainGlobals "TERM_FORMS" = some (some (.ref a_TERM_FORMS))) (t_TERM_FORMS : TabF K w a_TERM_FORMS tbl_TERM_FORMS)
    : ∃ fd : FuncData, (∀ (s : Shared) (v : Value), BindsTo s fd ⟨[v], []⟩ [("script", v)]) ∧ ∀ base : Heap, K.In base → base.Ns mainGlobals mg → FnG l.prog w K mg base CX0 40 fa fd ["script"] (sp0 K 1 W_law) := by
  have e := hfa.symm.trans (PySem.W.mg_of X G a27)
  cases e
  have F0 := fun_mk (st := s__law_folded) l0 c0 k0
  have F1 := fun_mk (st := s__law_box) l1 c1 k1
  have F2 := fun_mk (st := s__law_take) l2 c2 k2
  have F3 := fun_mk (st := s__law_some_mark) l3 c3 k3
  have F4 := fun_mk (st := s__law_number) l4 c4 k4
  have F5 := fun_mk (st := s__law_term) l5 c5 k5
  have F6 := fun_mk (st := s__law_any_term) l6 c6 k6
  have F7 := fun_mk (st := s_is_below) l7 c7 k7
  have F8 := fun_mk (st := s_is_num) l8 c8 k8
  have F9 := fun_mk (st := s_is_arg) l9 c9 k9
  have F10 := fun_mk (st := s_are_terms) l10 c10 k10
  have F11 := fun_mk (st := s_is_two) l11 c11 k11
  have F12 := fun_mk (st := s_is_three) l12 c12 k12
  have F13 := fun_mk (st := s_is_mark) l13 c13 k13
  have F14 := fun_mk (st := s_are_parts) l14 c14 k14
  have F15 := fun_mk (st := s_is_call) l15 c15 k15
  have F16 := fun_mk (st := s_is_ring) l16 c16 k16
  have F17 := fun_mk (st := s_is_term_within) l17 c17 k17
  have F18 := fun_mk (st := s_is_term) l18 c18 k18
  have F19 := fun_mk (st := s__law_is_below) l19 c19 k19
  have F20 := fun_mk (st := s__law_is_a_mark) l20 c20 k20
  have F21 := fun_mk (st := s__law_is_a_term) l21 c21 k21
  have F22 := fun_mk (st := s__law_odd) l22 c22 k22
  have F23 := fun_mk (st := s__law_same) l23 c23 k23
  have F24 := fun_mk (st := s__law_marks_right) l24 c24 k24
  have F25 := fun_mk (st := s__law_bent) l25 c25 k25
  have F26 := fun_mk (st := s__law_right) l26 c26 k26
  have F27 := fun_mk (st := s_law) l27 c27 k27
  have b0 := F0.binds (ps := ["script", "size"]) fun _ _ _ _ _ _ us hl => match us, hl with | [_, _], _ => rfl
  have b1 := F1.binds (ps := ["script", "k"]) fun _ _ _ _ _ _ us hl => match us, hl with | [_, _], _ => rfl
  have b2 := F2.binds (ps := ["box", "size"]) fun _ _ _ _ _ _ us hl => match us, hl with | [_, _], _ => rfl
  have b3 := F3.binds (ps := ["box"]) fun _ _ _ _ _ _ us hl => match us, hl with | [_], _ => rfl
  have b4 := F4.binds (ps := ["box"]) fun _ _ _ _ _ _ us hl => match us, hl with | [_], _ => rfl
  have b5 := F5.binds (ps := ["box", "many", "heads", "tall"]) fun _ _ _ _ _ _ us hl => match us, hl with | [_, _, _, _], _ => rfl
  have b6 := F6.binds (ps := ["box"]) fun _ _ _ _ _ _ us hl => match us, hl with | [_], _ => rfl
  have b7 := F7.binds (ps := ["thing", "many"]) fun _ _ _ _ _ _ us hl => match us, hl with | [_, _], _ => rfl
  have b8 := F8.binds (ps := ["parts", "deep"]) fun _ _ _ _ _ _ us hl => match us, hl with | [_, _], _ => rfl
  have b9 := F9.binds (ps := ["parts", "deep"]) fun _ _ _ _ _ _ us hl => match us, hl with | [_, _], _ => rfl
  have b10 := F10.binds (ps := ["things", "deep"]) fun _ _ _ _ _ _ us hl => match us, hl with | [_, _], _ => rfl
  have b11 := F11.binds (ps := ["parts", "deep"]) fun _ _ _ _ _ _ us hl => match us, hl with | [_, _], _ => rfl
  have b12 := F12.binds (ps := ["parts", "deep"]) fun _ _ _ _ _ _ us hl => match us, hl with | [_, _], _ => rfl
  have b13 := F13.binds (ps := ["thing"]) fun _ _ _ _ _ _ us hl => match us, hl with | [_], _ => rfl
  have b14 := F14.binds (ps := ["thing", "deep"]) fun _ _ _ _ _ _ us hl => match us, hl with | [_, _], _ => rfl
  have b15 := F15.binds (ps := ["parts", "deep"]) fun _ _ _ _ _ _ us hl => match us, hl with | [_, _], _ => rfl
  have b16 := F16.binds (ps := ["parts", "deep"]) fun _ _ _ _ _ _ us hl => match us, hl with | [_, _], _ => rfl
  have b17 := F17.binds (ps := ["thing", "deep"]) fun _ _ _ _ _ _ us hl => match us, hl with | [_, _], _ => rfl
  have b18 := F18.binds (ps := ["thing"]) fun _ _ _ _ _ _ us hl => match us, hl with | [_], _ => rfl
  have b19 := F19.binds (ps := ["thing", "many"]) fun _ _ _ _ _ _ us hl => match us, hl with | [_, _], _ => rfl
  have b20 := F20.binds (ps := ["thing"]) fun _ _ _ _ _ _ us hl => match us, hl with | [_], _ => rfl
  have b21 := F21.binds (ps := ["thing", "deep"]) fun _ _ _ _ _ _ us hl => match us, hl with | [_, _], _ => rfl
  have b22 := F22.binds (ps := ["box", "part"]) fun _ _ _ _ _ _ us hl => match us, hl with | [_, _], _ => rfl
  have b23 := F23.binds (ps := ["found", "due"]) fun _ _ _ _ _ _ us hl => match us, hl with | [_, _], _ => rfl
  have b24 := F24.binds (ps := ["box"]) fun _ _ _ _ _ _ us hl => match us, hl with | [_], _ => rfl
  have b25 := F25.binds (ps := ["box", "thing"]) fun _ _ _ _ _ _ us hl => match us, hl with | [_, _], _ => rfl
  have b26 := F26.binds (ps := ["box"]) fun _ _ _ _ _ _ us hl => match us, hl with | [_], _ => rfl
  have b27 := F27.binds (ps := ["script"]) fun _ _ _ _ _ _ us hl => match us, hl with | [_], _ => rfl
  let T : Tops K mg w := ⟨f0, _, F0, (PySem.W.mg_of X G a0), b0, f1, _, F1, (PySem.W.mg_of X G a1), b1, f2, _, F2, (PySem.W.mg_of X G a2), b2, f3, _, F3, (PySem.W.mg_of X G a3), b3, f4, _, F4, (PySem.W.mg_of X G a4), b4, f5, _, F5, (PySem.W.mg_of X G a5), b5, f6, _, F6, (PySem.W.mg_of X G a6), b6, f7, _, F7, (PySem.W.mg_of X G a7), b7, f8, _, F8, (PySem.W.mg_of X G a8), b8, f9, _, F9, (PySem.W.mg_of X G a9), b9, f10, _, F10, (PySem.W.mg_of X G a10), b10, f11, _, F11, (PySem.W.mg_of X G a11), b11, f12, _, F12, (PySem.W.mg_of X G a12), b12, f13, _, F13, (PySem.W.mg_of X G a13), b13, f14, _, F14, (PySem.W.mg_of X G a14), b14, f15, _, F15, (PySem.W.mg_of X G a15), b15, f16, _, F16, (PySem.W.mg_of X G a16), b16, f17, _, F17, (PySem.W.mg_of X G a17), b17, f18, _, F18, (PySem.W.mg_of X G a18), b18, f19, _, F19, (PySem.W.mg_of X G a19), b19, f20, _, F20, (PySem.W.mg_of X G a20), b20, f21, _, F21, (PySem.W.mg_of X G a21), b21, f22, _, F22, (PySem.W.mg_of X G a22), b22, f23, _, F23, (PySem.W.mg_of X G a23), b23, f24, _, F24, (PySem.W.mg_of X G a24), b24, f25, _, F25, (PySem.W.mg_of X G a25), b25, f26, _, F26, (PySem.W.mg_of X G a26), b26, fa, _, F27, (PySem.W.mg_of X G a27), b27, (PySem.W.mg_none_of X G z_abs), (PySem.W.mg_none_of X G z_all), (PySem.W.mg_none_of X G z_bool), (PySem.W.mg_none_of X G z_divmod), (PySem.W.mg_none_of X G z_enumerate), (PySem.W.mg_none_of X G z_int), (PySem.W.mg_none_of X G z_isinstance), (PySem.W.mg_none_of X G z_len), (PySem.W.mg_none_of X G z_list), (PySem.W.mg_none_of X G z_max), (PySem.W.mg_none_of X G z_range), (PySem.W.mg_none_of X G z_repr), (PySem.W.mg_none_of X G z_str), (PySem.W.mg_none_of X G z_tuple), (PySem.W.mg_none_of X G z_zip), t_MARK_SIZE, (PySem.W.mg_of X G c_MARK_SIZE), t_MOST_ARGS, (PySem.W.mg_of X G c_MOST_ARGS), t_MOST_DEEP, (PySem.W.mg_of X G c_MOST_DEEP), t_MOST_NUMBER, (PySem.W.mg_of X G c_MOST_NUMBER), t_MOST_PLACES, (PySem.W.mg_of X G c_MOST_PLACES), t_SHORT_SIGNS, (PySem.W.mg_of X G c_SHORT_SIGNS), a_TERM_FORMS, (PySem.W.mg_of X G n_TERM_FORMS), t_TERM_FORMS, a8, a9, a11, a12, a15, a16⟩
  exact ⟨PySem.W.fnOf "law" "law" (defArgs s_law) (defBody s_law) (defScope s_law) .none kV27 dc27 pm27 an27 cd27 ct27, fun s v => .of_eq rfl, fun base _ _ => (ok_law (base := base) T).ok⟩

/-! ### texts of the forty-three signs -/
def codes : List Nat := [48, 49, 50, 51, 52, 53, 54, 55, 56, 57, 97, 98, 99, 100, 101, 102, 103, 104, 105, 106, 107, 108, 109, 110, 111, 112, 113, 114, 115, 116, 117, 118, 119, 120, 121, 122, 32, 35, 64, 40, 41, 59, 58]
def dig (i : Nat) : Nat := codes.getD i 0
def T (is : List Nat) : Str := ⟨(is.map dig).toArray⟩
def Lo (is : List Nat) : Prop := ∀ i ∈ is, i < 43
theorem Lo.app {is js : List Nat} (a : Lo is) (b : Lo js) : Lo (is ++ js) := fun i h => (List.mem_append.mp h).elim (a i) (b i)
theorem Lo.cons {i : Nat} {is : List Nat} (a : i < 43) (b : Lo is) : Lo (i :: is) := fun j h => (List.mem_cons.mp h).elim (fun e => e ▸ a) (b j)
theorem Lo.nil : Lo [] := fun _ h => nomatch h
theorem Lo.one {i : Nat} (a : i < 43) : Lo [i] := .cons a .nil
theorem Lo.take {is : List Nat} (a : Lo is) (n : Nat) : Lo (is.take n) := fun i h => a i (List.mem_of_mem_take h)
theorem Lo.drop {is : List Nat} (a : Lo is) (n : Nat) : Lo (is.drop n) := fun i h => a i (List.mem_of_mem_drop h)
theorem Lo.rev {is : List Nat} (a : Lo is) : Lo is.reverse := fun i h => a i (List.mem_reverse.mp h)
theorem sig_T : ("0123456789abcdefghijklmnopqrstuvwxyz #@();:" : Str) = T (List.range 43) := by decide +kernel
theorem sig36_T : ("0123456789abcdefghijklmnopqrstuvwxyz" : Str) = T (List.range 36) := by decide +kernel
theorem emp_T : ("" : Str) = T [] := by decide +kernel
theorem dig_lt : ∀ i, i < 43 → dig i < 128 := by decide
theorem dig_inj : ∀ i, i < 43 → ∀ j, j < 43 → dig i = dig j → i = j := by decide
theorem T_len (is : List Nat) : (T is).length = is.length := by
  show (is.map dig).toArray.size = _
  simp
theorem T_list (is : List Nat) : (T is).cps.toList = is.map dig := by
  show (is.map dig).toArray.toList = _
  simp
theorem T_app (is js : List Nat) : T is ++ T js = T (is ++ js) := by
  show (⟨(is.map dig).toArray ++ (js.map dig).toArray⟩ : Str) = ⟨((is ++ js).map dig).toArray⟩
  simp
theorem T_ok {is : List Nat} (h : Lo is) : PyData.strOk (T is) = true := by
  unfold PyData.strOk
  rw [← Array.all_toList, T_list, List.all_eq_true]
  intro c hc
  obtain ⟨i, hi, rfl⟩ := List.mem_map.mp hc
  exact decide_eq_true (Nat.lt_trans (dig_lt i (h i hi)) (by decide))
theorem T_signs (is : List Nat) : signsD (T is) = is.map fun i => .str (T [i]) := by
  unfold signsD
  rw [T_list, List.map_map]; rfl
theorem T_inj {is js : List Nat} (a : Lo is) (b : Lo js) (h : T is = T js) : is = js := by
  have e : is.map dig = js.map dig := by rw [← T_list, ← T_list, h]
  clear h
  induction is generalizing js with
  | nil => cases js with | nil => rfl | cons _ _ => cases e
  | cons i is ih =>
    cases js with
    | nil => cases e
    | cons j js =>
      simp only [List.map_cons, List.cons.injEq] at e
      rw [dig_inj i (a i (by simp)) j (b j (by simp)) e.1, ih (fun x h => a x (by simp [h])) (fun x h => b x (by simp [h])) e.2]
theorem T_at {is : List Nat} {i : Int} (h0 : 0 ≤ i) (h : i < is.length) : atI (T is).cps.toList i = some (dig (is.getD i.toNat 0)) := by
  have hl : i.toNat < is.length := by omega
  rw [T_list]
  refine atI_of h0 ?_
  rw [List.getElem?_map, List.getElem?_eq_getElem hl, List.getD_eq_getElem?_getD, List.getElem?_eq_getElem hl]; rfl
theorem T_at43 {i : Int} (h0 : 0 ≤ i) (h : i < 43) : atI (T (List.range 43)).cps.toList i = some (dig i.toNat) := by
  rw [T_at h0 (by simpa using h)]
  congr 2
  rw [List.getD_eq_getElem?_getD, List.getElem?_range (by omega)]; rfl
theorem T_at36 {i : Int} (h0 : 0 ≤ i) (h : i < 36) : atI (T (List.range 36)).cps.toList i = some (dig i.toNat) := by
  rw [T_at h0 (by simpa using h)]
  congr 2
  rw [List.getD_eq_getElem?_getD, List.getElem?_range (by omega)]; rfl
theorem T_one (i : Nat) : (⟨#[dig i]⟩ : Str) = T [i] := rfl
theorem occ_T : ∀ i, i < 43 → Builtin.Str.occurrences (T (List.range 43)) (T [i]) 0 43 1 = [i] := by decide +kernel
theorem len_line {n : Nat} (h : n ≤ 16777216) : n ≤ sizeLine := by rw [sizeLine_eq]; exact h
theorem T_cut (is : List Nat) (lo hi : Option Int) : cutS (T is) lo hi = T (cutL is lo hi) := by
  unfold cutS cutL T
  have e : (⟨(is.map dig).toArray⟩ : Str).length = is.length := T_len is
  rw [e]
  simp [List.map_take, List.map_drop]
theorem T_rev (is : List Nat) : revS (T is) = T is.reverse := by
  unfold revS
  rw [T_list]
  unfold T
  rw [List.map_reverse]
theorem T_rep (is : List Nat) (n : Nat) : repS (T is) n = T (List.replicate n is).flatten := by
  unfold repS T
  simp [List.map_flatten, List.map_replicate]
theorem join_T (iss : List (List Nat)) : Txt.join (T []) (iss.map T) = T iss.flatten := by
  rw [TL.join_eq]
  induction iss with
  | nil => rfl
  | cons a r ih =>
    cases r with
    | nil => show T a = T [a].flatten; simp
    | cons b r =>
      show T a ++ T [] ++ Str.join (T []) (T b :: r.map T) = _
      have ih' : Str.join (T []) (T b :: r.map T) = T (b :: r).flatten := ih
      rw [ih', T_app, T_app, List.append_nil]; rfl

/-! ### the sum of a text, the figures of a number -/
def PM : Int := 998244353
def sumI (s : Int) (is : List Nat) : Int := is.foldl (fun (s : Int) (i : Nat) => (s * 131 + (i : Int) + 1) % PM) s
theorem sumI_lt {s : Int} (h0 : 0 ≤ s) (h : s < PM) : ∀ is : List Nat, 0 ≤ sumI s is ∧ sumI s is < PM
  | [] => ⟨h0, h⟩
  | i :: is => sumI_lt (Int.emod_nonneg _ (by decide)) (Int.emod_lt_of_pos _ (by decide)) is
theorem sumI_app (s : Int) (is js : List Nat) : sumI s (is ++ js) = sumI (sumI s is) js := by unfold sumI; exact List.foldl_append
/-- six figures -/
def figs : Nat → Nat → List Nat → List Nat
  | 0, _, acc => acc
  | k + 1, n, acc => figs k (n / 36) (n % 36 :: acc)
def val36 (is : List Nat) : Nat := is.foldl (fun a i => a * 36 + i) 0
theorem figs_len : ∀ (k n : Nat) (acc : List Nat), (figs k n acc).length = k + acc.length
  | 0, _, acc => by simp [figs]
  | k + 1, n, acc => by rw [figs, figs_len k, List.length_cons]; omega
theorem figs_lt : ∀ (k n : Nat) (acc : List Nat), (∀ i ∈ acc, i < 36) → ∀ i ∈ figs k n acc, i < 36
  | 0, _, _, h => h
  | k + 1, n, acc, h => figs_lt k _ _ fun i hi => (List.mem_cons.mp hi).elim (fun e => e ▸ Nat.mod_lt _ (by decide)) (h i)
theorem val_app (a : Nat) (is : List Nat) : is.foldl (fun a i => a * 36 + i) a = a * 36 ^ is.length + val36 is := by
  unfold val36
  induction is generalizing a with
  | nil => simp
  | cons i is ih =>
    rw [List.foldl_cons, ih, List.foldl_cons, ih (0 * 36 + i), List.length_cons, Nat.pow_succ]
    rw [Nat.add_mul, Nat.zero_mul, Nat.zero_add, Nat.mul_assoc, Nat.mul_comm 36]
    omega
theorem figs_val : ∀ (k n : Nat) (acc : List Nat), n < 36 ^ k → val36 (figs k n acc) = n * 36 ^ acc.length + val36 acc
  | 0, n, acc, h => by
    have : n = 0 := by simpa using h
    subst this
    simp [figs]
  | k + 1, n, acc, h => by
    have hk : n / 36 < 36 ^ k := by
      rw [Nat.pow_succ] at h
      exact Nat.div_lt_of_lt_mul (by rw [Nat.mul_comm]; exact h)
    rw [figs, figs_val k _ _ hk]
    have e : val36 (n % 36 :: acc) = (n % 36) * 36 ^ acc.length + val36 acc := by
      show List.foldl _ (0 * 36 + n % 36) acc = _
      rw [val_app, Nat.zero_mul, Nat.zero_add]
    rw [e, List.length_cons, Nat.pow_succ, ← Nat.add_assoc]
    congr 1
    have := Nat.div_add_mod n 36
    calc n / 36 * (36 ^ acc.length * 36) + n % 36 * 36 ^ acc.length = (36 * (n / 36) + n % 36) * 36 ^ acc.length := by
          rw [Nat.add_mul, Nat.mul_comm (36 ^ acc.length) 36, ← Nat.mul_assoc, Nat.mul_comm (n / 36) 36]
      _ = _ := by rw [this]
/-- the mark of a text -/
def markL (is : List Nat) : List Nat := figs 6 (sumI 7 is).toNat []
theorem markL_len (is : List Nat) : (markL is).length = 6 := figs_len 6 _ _
theorem markL_lt (is : List Nat) : ∀ i ∈ markL is, i < 36 := figs_lt 6 _ _ fun _ h => nomatch h
theorem markL_lo (is : List Nat) : Lo (markL is) := fun i h => Nat.lt_trans (markL_lt is i h) (by decide)
theorem sum7 (is : List Nat) : 0 ≤ sumI 7 is ∧ sumI 7 is < PM := sumI_lt (by decide) (by decide) is
theorem markL_val (is : List Nat) : val36 (markL is) = (sumI 7 is).toNat := by
  have h := sum7 is
  unfold markL
  rw [figs_val 6 _ _ (by unfold PM at h; omega)]
  show _ * 1 + 0 = _
  omega
theorem dig_b36 : ∀ i, i < 36 → B36.IsB (dig i) ∧ B36.bv (dig i) = i := by
  unfold B36.IsB
  decide
theorem num_T {is : List Nat} (h : ∀ i ∈ is, i < 36) : B36.num (T is).cps.toList = val36 is := by
  rw [T_list]
  unfold B36.num val36
  suffices ∀ a, List.foldl (fun a c => a * 36 + B36.bv c) a (is.map dig) = List.foldl (fun a i => a * 36 + i) a is from this 0
  induction is with
  | nil => exact fun _ => rfl
  | cons i is ih =>
    intro a
    rw [List.map_cons, List.foldl_cons, List.foldl_cons, (dig_b36 i (h i (by simp))).2]
    exact ih (fun j hj => h j (by simp [hj])) _

/-! ### small rules -/
theorem T_addD {is js : List Nat} {k : DL.D → Prop} : addD (.str (T is)) (.str (T js)) k = (is.length + js.length ≤ sizeLine ∧ k (.str (T (is ++ js)))) := by rw [addD_ss, T_len, T_len, T_app]
theorem szl0 : (0 ≤ sizeLine) = True := eq_true (len_line (by decide))
theorem szl1 : (1 ≤ sizeLine) = True := eq_true (len_line (by decide))
theorem szl2 : (2 ≤ sizeLine) = True := eq_true (len_line (by decide))
theorem szl3 : (3 ≤ sizeLine) = True := eq_true (len_line (by decide))
theorem szl4 : (4 ≤ sizeLine) = True := eq_true (len_line (by decide))
theorem szl5 : (5 ≤ sizeLine) = True := eq_true (len_line (by decide))
theorem szl6 : (6 ≤ sizeLine) = True := eq_true (len_line (by decide))
theorem szl7 : (7 ≤ sizeLine) = True := eq_true (len_line (by decide))
theorem szl8 : (8 ≤ sizeLine) = True := eq_true (len_line (by decide))
theorem szl9 : (9 ≤ sizeLine) = True := eq_true (len_line (by decide))
theorem szl10 : (10 ≤ sizeLine) = True := eq_true (len_line (by decide))
theorem szl11 : (11 ≤ sizeLine) = True := eq_true (len_line (by decide))
theorem szl12 : (12 ≤ sizeLine) = True := eq_true (len_line (by decide))
theorem szl13 : (13 ≤ sizeLine) = True := eq_true (len_line (by decide))
theorem szl14 : (14 ≤ sizeLine) = True := eq_true (len_line (by decide))
theorem szl15 : (15 ≤ sizeLine) = True := eq_true (len_line (by decide))
theorem szl16 : (16 ≤ sizeLine) = True := eq_true (len_line (by decide))
theorem szt0 : (0 < sizeLine) = True := eq_true (Nat.lt_of_lt_of_le (by decide) (len_line (n := 100) (by decide)))
theorem szt1 : (1 < sizeLine) = True := eq_true (Nat.lt_of_lt_of_le (by decide) (len_line (n := 100) (by decide)))
theorem szt2 : (2 < sizeLine) = True := eq_true (Nat.lt_of_lt_of_le (by decide) (len_line (n := 100) (by decide)))
theorem szt3 : (3 < sizeLine) = True := eq_true (Nat.lt_of_lt_of_le (by decide) (len_line (n := 100) (by decide)))
theorem szt4 : (4 < sizeLine) = True := eq_true (Nat.lt_of_lt_of_le (by decide) (len_line (n := 100) (by decide)))
theorem szt5 : (5 < sizeLine) = True := eq_true (Nat.lt_of_lt_of_le (by decide) (len_line (n := 100) (by decide)))
theorem szt6 : (6 < sizeLine) = True := eq_true (Nat.lt_of_lt_of_le (by decide) (len_line (n := 100) (by decide)))
theorem szt7 : (7 < sizeLine) = True := eq_true (Nat.lt_of_lt_of_le (by decide) (len_line (n := 100) (by decide)))
theorem szt8 : (8 < sizeLine) = True := eq_true (Nat.lt_of_lt_of_le (by decide) (len_line (n := 100) (by decide)))
theorem szt9 : (9 < sizeLine) = True := eq_true (Nat.lt_of_lt_of_le (by decide) (len_line (n := 100) (by decide)))
theorem szt10 : (10 < sizeLine) = True := eq_true (Nat.lt_of_lt_of_le (by decide) (len_line (n := 100) (by decide)))
theorem szt11 : (11 < sizeLine) = True := eq_true (Nat.lt_of_lt_of_le (by decide) (len_line (n := 100) (by decide)))
theorem szt12 : (12 < sizeLine) = True := eq_true (Nat.lt_of_lt_of_le (by decide) (len_line (n := 100) (by decide)))
theorem sSeq_eq {m m' : SMon} {k : SK} {ρ : List Slot} : sSeq m m' k ρ = m { k with nx := m' k } ρ := rfl
theorem ix30 : ixN 3 0 = some 0 := by decide
theorem ix32 : ixN 3 2 = some 2 := by decide
theorem indexD_s {z b : Str} {k : DL.D → Prop} : indexD z [.str b] k = ∃ i rest, Builtin.Str.occurrences z b 0 z.length 1 = i :: rest ∧ k (.int (i : Nat)) := rfl
theorem joinD_l {z : Str} {xs : List DL.D} {k : DL.D → Prop} : joinD z [.list xs] k = ∃ ys, strsOf xs = some ys ∧ (ys.map (·.length)).sum + ys.length * z.length ≤ 16777216 ∧ k (.str (Txt.join z ys)) := rfl
theorem int36D_s {z : Str} {k : DL.D → Prop} : int36D [.str z, .int 36] k = (z.cps.toList ≠ [] ∧ z.length ≤ 640 ∧ (∀ c ∈ z.cps.toList, B36.IsB c) ∧ k (.int ((B36.num z.cps.toList : Nat) : Int))) := rfl
theorem cmul_r {i j : Int} (h0 : 0 ≤ j) (h : j < 18446744073709551616) : CMul i j := .inr ⟨by omega, by omega⟩
theorem cmul_l {i j : Int} (h0 : 0 ≤ i) (h : i < 18446744073709551616) : CMul i j := .inl ⟨by omega, by omega⟩
theorem forLoop_cons {g : GMn} {body : SMon} {k : SK} {d : DL.D} {ds : List DL.D} {ρ : List Slot} : forLoop g body k (d :: ds) ρ = g d ρ fun ρ1 => body (loopK k (forLoop g body k ds)) ρ1 := rfl
theorem dget_i {l : List (DL.D × DL.D)} {l' : List (Str × Int)} {x : Str} {n : Int} {k : DL.D → Prop} (e : l = dsiD l') (f : (l'.find? fun kv => decide (kv.1 = x)) = some (x, n)) (q : k (.int n)) : dgetD (.dict l) (.str x) k := ⟨l', n, e, f, q⟩
theorem nat_mod (n : Nat) : ((n : Int) % 36).toNat = n % 36 := by omega
theorem nat_div (n : Nat) : ((n : Int) / 36) = ((n / 36 : Nat) : Int) := by omega
theorem strline {a b : Nat} (h : a + b ≤ 1000000) : a + b ≤ sizeLine := len_line (by omega)
theorem lcLoop_nil {g : GMn} {tt : M Bool} {te : M DL.D} {vs : List Nat} {k : List DL.D → List Slot → Prop} {acc : List DL.D} {ρ : List Slot} : lcLoop g tt te vs k [] acc ρ = k acc (wipeS ρ vs) := rfl
theorem lcLoop_cons {g : GMn} {tt : M Bool} {te : M DL.D} {vs : List Nat} {k : List DL.D → List Slot → Prop} {d : DL.D} {ds acc : List DL.D} {ρ : List Slot} :
    lcLoop g tt te vs k (d :: ds) acc ρ = g d ρ fun ρ1 => tt ρ1 fun b ρ2 => if b = true then te ρ2 fun e ρ3 => acc.length < sizeLine ∧ lcLoop g tt te vs k ds (acc ++ [e]) (wipeS ρ3 vs) else lcLoop g tt te vs k ds acc (wipeS ρ2 vs) := rfl
theorem inD_one {z : Str} {c : Nat} {k : DL.D → Prop} : inD (.str ⟨#[c]⟩) (.str z) k = k (.bool (decide (c ∈ z.cps.toList))) := by
  show k (.bool (!(Builtin.Str.occurrences z ⟨#[c]⟩ 0 z.length 1).isEmpty)) = _
  rw [PySem.StrLaws.found_one]
theorem dig_in : ∀ i, i < 36 → dig i ∈ (T (List.range 36)).cps.toList := by decide
theorem bools_rep (m : Nat) : boolsOf (List.replicate m (.bool true)) = some (List.replicate m true) := by
  induction m with
  | zero => rfl
  | succ m ih =>
    show (boolsOf (List.replicate m (.bool true))).map _ = _
    rw [ih]; rfl
theorem allD_rep {m : Nat} {k : DL.D → Prop} (q : k (.bool true)) : allD [.list (List.replicate m (.bool true))] k := ⟨_, bools_rep m, by rw [show (List.replicate m true).all id = true by simp]; exact q⟩
def Bx (n : Nat) (bs : List DL.D) : Prop := ∃ a b c : Int, bs = [.int a, .int b, .int c] ∧ 0 ≤ a ∧ 0 ≤ b ∧ b < 2147483648 ∧ 0 ≤ c ∧ c ≤ n
theorem Bx.mono {m n : Nat} {bs : List DL.D} (h : Bx m bs) (l : m ≤ n) : Bx n bs := by
  obtain ⟨a, b, c, e, h1, h2, h3, h4, h5⟩ := h
  exact ⟨a, b, c, e, h1, h2, h3, h4, by omega⟩
def CAP : Nat := 1099511627776
theorem sum_ones (is : List Nat) : ((is.map fun i => T [i]).map (·.length)).sum = is.length := by
  induction is with
  | nil => rfl
  | cons i is ih =>
    rw [List.map_cons, List.map_cons, List.sum_cons, ih, T_len, List.length_cons, List.length_cons, List.length_nil]; omega
theorem flat_ones (is : List Nat) : (is.map fun i => [i]).flatten = is := by
  induction is with
  | nil => rfl
  | cons i is ih => rw [List.map_cons, List.flatten_cons, ih]; rfl
theorem join_signs {is : List Nat} {k : DL.D → Prop} (hl : is.length ≤ 10000) (q : k (.str (T is))) : joinD (T []) [.list (is.map fun i => .str (T [i]))] k := by
  rw [joinD_l]
  have e : (is.map fun i => PyData.str (T [i])) = (is.map fun i => T [i]).map PyData.str := by rw [List.map_map]; rfl
  refine ⟨is.map fun i => T [i], by rw [e]; exact strsOf_map _, ?_, ?_⟩
  · rw [sum_ones, T_len]; simp; omega
  · have e2 : (is.map fun i => T [i]) = (is.map fun i => [i]).map T := by rw [List.map_map]; rfl
    rw [e2, join_T]
    rw [flat_ones]; exact q
theorem map_snoc (acc : List Nat) (i : Nat) : (acc.map fun i => PyData.str (T [i])) ++ [.str (T [i])] = (acc ++ [i]).map fun i => .str (T [i]) := by rw [List.map_append]; rfl
theorem all_snoc {m : Nat} {acc : List Nat} {i : Nat} (h : ∀ j ∈ acc, j < m) (hi : i < m) : ∀ j ∈ acc ++ [i], j < m := fun j hj => by
  rcases List.mem_append.mp hj with hj | hj
  · exact h j hj
  · rw [List.mem_singleton.mp hj]; exact hi
theorem mark0 : ("000000" : Str) = T [0, 0, 0, 0, 0, 0] := by decide +kernel
theorem markz : ("zzzzzz" : Str) = T [35, 35, 35, 35, 35, 35] := by decide +kernel
theorem num_lo : ∀ (m n : Nat), n < 10 ^ (m + 1) → ∃ is : List Nat, TL.numL n = is.map dig ∧ (∀ i ∈ is, i < 10) ∧ is.length ≤ m + 1
  | 0, n, h => by
    have h : n < 10 := h
    have d : ∀ n, n < 10 → 48 + n = dig n := by decide
    exact ⟨[n], by rw [TL.numL_lt h, d n h]; rfl, by simpa using h, by simp⟩
  | m + 1, n, h => by
    have d : ∀ n, n < 10 → 48 + n = dig n := by decide
    by_cases hn : n < 10
    · exact ⟨[n], by rw [TL.numL_lt hn, d n hn]; rfl, by simpa using hn, by simp⟩
    · obtain ⟨is, e, h1, h2⟩ := num_lo m (n / 10) (by rw [Nat.pow_succ] at h; exact Nat.div_lt_of_lt_mul (by rw [Nat.mul_comm]; exact h))
      have hm : n % 10 < 10 := Nat.mod_lt _ (by decide)
      refine ⟨is ++ [n % 10], by rw [TL.numL_step (by omega), e, d _ hm, List.map_append]; rfl, ?_, by rw [List.length_append, List.length_singleton]; omega⟩
      intro i hi
      rcases List.mem_append.mp hi with hi | hi
      · exact h1 i hi
      · rw [List.mem_singleton.mp hi]; exact hm
theorem str_num {n : Nat} (h : n < 10000000) : ∃ is : List Nat, Str.ofString (toString ((n : Nat) : Int)) = T is ∧ Lo is ∧ is.length ≤ 7 := by
  obtain ⟨is, e, h1, h2⟩ := num_lo 6 n h
  refine ⟨is, ?_, fun i hi => Nat.lt_trans (h1 i hi) (by decide), h2⟩
  have t := TL.tl_num n
  rw [e] at t
  have : ∀ x : Str, x.cps.toList = is.map dig → x = T is := fun ⟨c⟩ hx => by
    unfold T
    congr 1
    have hx : c.toList = is.map dig := hx
    rw [← hx]
  exact this _ t
def wid : List (List Nat) → Nat
  | [] => 0
  | a :: r => a.length + 1 + wid r
theorem join_sp : ∀ iss : List (List Nat), (∀ is ∈ iss, Lo is) → ∃ js : List Nat, Txt.join (T [36]) (iss.map T) = T js ∧ Lo js ∧ js.length ≤ wid iss
  | [], _ => ⟨[], by rw [TL.join_eq]; decide +kernel, .nil, Nat.le_refl _⟩
  | [a], h => ⟨a, by rw [TL.join_eq]; rfl, h a (by simp), by unfold wid; omega⟩
  | a :: b :: r, h => by
    obtain ⟨js, e, h1, h2⟩ := join_sp (b :: r) fun is hi => h is (by simp at hi ⊢; right; exact hi)
    refine ⟨a ++ [36] ++ js, ?_, ((h a (by simp)).app (.one (by decide))).app h1, ?_⟩
    · rw [TL.join_eq] at e ⊢
      show T a ++ T [36] ++ Str.join (T [36]) ((b :: r).map T) = _
      rw [e, T_app, T_app]
    · unfold wid
      rw [List.length_append, List.length_append, List.length_singleton]
      omega
theorem sum_wid (iss : List (List Nat)) : ((iss.map T).map (·.length)).sum + (iss.map T).length = wid iss := by
  induction iss with
  | nil => rfl
  | cons a r ih =>
    unfold wid
    rw [← ih, List.map_cons, List.map_cons, List.sum_cons, List.length_cons, T_len]; omega
theorem w_num : PyData.strOk "num" = true := by decide +kernel
theorem w_arg : PyData.strOk "arg" = true := by decide +kernel
theorem w_call : PyData.strOk "call" = true := by decide +kernel
theorem w_ring : PyData.strOk "ring" = true := by decide +kernel
theorem ne1 : (("arg" : Str) == ("num" : Str)) = false := by decide +kernel
theorem ne2 : (("call" : Str) == ("num" : Str)) = false := by decide +kernel
theorem ne3 : (("call" : Str) == ("arg" : Str)) = false := by decide +kernel
theorem ne4 : (("ring" : Str) == ("num" : Str)) = false := by decide +kernel
theorem ne5 : (("ring" : Str) == ("arg" : Str)) = false := by decide +kernel
theorem ne6 : (("ring" : Str) == ("call" : Str)) = false := by decide +kernel
theorem abcd_T : ("abcd" : Str) = T [10, 11, 12, 13] := by decide +kernel
theorem ht_T : ("#" : Str) = T [37] := by decide +kernel
theorem at_T : ("@" : Str) = T [38] := by decide +kernel
theorem sp_T : (" " : Str) = T [36] := by decide +kernel
theorem op_T : ("(" : Str) = T [39] := by decide +kernel
theorem cl_T : (")" : Str) = T [40] := by decide +kernel
theorem inD_two {x a b : Str} {k : DL.D → Prop} : inD (.str x) (.tuple [.str a, .str b]) k = k (.bool (a == x || b == x)) := by
  show ((flatD (.str x) = true ∧ _) ∧ k (.bool (memF (.str x) [.str a, .str b]))) = _
  have e : memF (.str x) [.str a, .str b] = (a == x || b == x) := by
    show (eqF (.str a) (.str x) || (eqF (.str b) (.str x) || false)) = _
    rw [Bool.or_false]; rfl
  rw [e]
  exact propext ⟨fun h => h.2, fun h => ⟨⟨rfl, rfl⟩, h⟩⟩
theorem strs_T (iss : List (List Nat)) : (iss.map fun is => PyData.str (T is)) = (iss.map T).map PyData.str := by rw [List.map_map]; rfl
theorem join_spD {iss : List (List Nat)} {k : DL.D → Prop} (lo : ∀ is ∈ iss, Lo is) (hw : wid iss ≤ 100000) (q : ∀ js, Lo js → js.length ≤ wid iss → k (.str (T js))) : joinD (T [36]) [.list (iss.map fun is => .str (T is))] k := by
  obtain ⟨js, e, h1, h2⟩ := join_sp iss lo
  rw [joinD_l]
  refine ⟨iss.map T, by rw [strs_T]; exact strsOf_map _, ?_, by rw [e]; exact q js h1 h2⟩
  have := sum_wid iss
  rw [T_len]
  simp only [List.length_cons, List.length_nil, Nat.mul_one]
  omega
theorem cut1 {a : DL.D} {ds : List DL.D} : cutL (a :: ds) (some 1) none = ds := by
  unfold cutL
  rw [show HT.sIx (a :: ds).length 0 (some 1) = 1 from by rw [show (some (1 : Int)) = some ((1 : Nat) : Int) from rfl, HT.sIx_nat, List.length_cons]; omega, HT.sIx_none]
  simp
theorem log2_small {n : Nat} (h : n < 10000000) : (n : Int).natAbs.log2 < 1920 := by
  rw [Int.natAbs_natCast]
  by_cases h0 : n = 0
  · subst h0; decide
  · exact Nat.lt_trans ((Nat.log2_lt h0).mpr (Nat.lt_trans h (by decide : 10000000 < 2 ^ 24))) (by decide)
theorem wid_nil : wid [] = 0 := rfl
theorem eqi {r s : Int} {P : DL.D → Prop} (a : r = s → P (.bool true)) (b : r ≠ s → P (.bool false)) : eqD (.int r) (.int s) P := by
  rw [eqD_ii]
  by_cases h : r = s
  · rw [decide_eq_true h]; exact a h
  · rw [decide_eq_false h]; exact b h
theorem lti {r s : Int} {P : DL.D → Prop} (a : r < s → P (.bool true)) (b : ¬ r < s → P (.bool false)) : ltD (.int r) (.int s) P := by
  rw [ltD_ii]
  by_cases h : r < s
  · rw [decide_eq_true h]; exact a h
  · rw [decide_eq_false h]; exact b h
theorem gti {r s : Int} {P : DL.D → Prop} (a : s < r → P (.bool true)) (b : ¬ s < r → P (.bool false)) : gtD (.int r) (.int s) P := lti a b
theorem cut_lo {is : List Nat} (lo : Lo is) (a b : Option Int) : Lo (cutL is a b) := by unfold cutL; exact (lo.drop _).take _
theorem cut_len (is : List Nat) (a b : Option Int) : (cutL is a b).length ≤ is.length := by
  unfold cutL
  rw [List.length_take, List.length_drop]; omega
theorem sl_T {is : List Nat} {a b : Option Int} {k : DL.D → Prop} (hl : is.length ≤ 1000000) (q : k (.str (T (cutL is a b)))) : slD (.str (T is)) a b k := by
  refine ⟨by rw [T_len]; exact len_line (by omega), ?_⟩
  rw [T_cut]; exact q
theorem add_T {is js : List Nat} {k : DL.D → Prop} (hl : is.length + js.length ≤ 1000000) (q : k (.str (T (is ++ js)))) : addD (.str (T is)) (.str (T js)) k := by
  rw [addD_ss, T_len, T_len, T_app]
  exact ⟨len_line (by omega), q⟩
theorem at_ints {cs : List Int} {i : Int} (h0 : 0 ≤ i) (h : i < cs.length) : ∃ c, atI (cs.map PyData.int) i = some (.int c) := by
  obtain ⟨x, e, hx⟩ := atI_ex (xs := cs.map PyData.int) h0 (by rw [List.length_map]; exact h)
  obtain ⟨c, _, rfl⟩ := List.mem_map.mp hx
  exact ⟨c, e⟩
theorem box_core {c i : Int} {P : DL.D → DL.D → Prop} (h0 : 0 ≤ i) (hi : i ≤ 100) (q : ∀ a b : Int, 0 ≤ a → 0 ≤ b → b < 2147483648 → P (.int a) (.int b)) :
    CPow 10 18 ∧ CMul (if c < 0 then -c else c) (if 10 ^ Int.toNat 18 ≤ (if c < 0 then -c else c) then 1 else 0) ∧ (0 : Int) < 2147483629 ∧ CMul 15485863 i ∧ CMul (c % 2147483629 + 15485863 * i + 43) 48271 ∧ (0 : Int) < 2147483647 ∧
      P (.int ((if c < 0 then -c else c) * (if 10 ^ Int.toNat 18 ≤ (if c < 0 then -c else c) then 1 else 0))) (.int ((c % 2147483629 + 15485863 * i + 43) * 48271 % 2147483647)) := by
  refine ⟨⟨by decide, by decide, by decide⟩, ?_, by decide, cmul_l (by decide) (by decide), cmul_r (by decide) (by decide), by decide, ?_⟩
  · split <;> split <;> exact cmul_r (by decide) (by decide)
  · refine q _ _ ?_ (Int.emod_nonneg _ (by decide)) (Int.lt_trans (Int.emod_lt_of_pos _ (by decide)) (by decide))
    split <;> split <;> omega

/-! ### comprehensions over like things -/
theorem lc_map {α : Type} {te : M DL.D} {v : Nat} {k : List DL.D → List Slot → Prop} {ρ : List Slot} (hv : ρ.set v .non = ρ) (dat f : α → DL.D) : ∀ (xs : List α) (acc : List DL.D), acc.length + xs.length ≤ 1000000 →
    (∀ x ∈ xs, ∀ kk : DL.D → List Slot → Prop, kk (f x) (ρ.set v (.dat (dat x))) → te (ρ.set v (.dat (dat x))) kk) → k (acc ++ xs.map f) ρ → lcLoop (gVar v) (mPure true) te [v] k (xs.map dat) acc ρ
  | [], acc, _, _, q => by
    rw [List.map_nil, lcLoop_nil]
    show k acc (ρ.set v .non)
    rw [hv]
    simpa using q
  | x :: xs, acc, hl, h, q => by
    rw [List.length_cons] at hl
    have ih := lc_map (te := te) (k := k) hv dat f xs (acc ++ [f x]) (by rw [List.length_append, List.length_singleton]; omega) (fun y hy => h y (by simp [hy])) (by simpa using q)
    rw [List.map_cons, lcLoop_cons]
    show te (ρ.set v (.dat (dat x))) _
    refine h x (by simp) _ ⟨Nat.lt_of_lt_of_le (by omega) (len_line (n := 1000001) (by decide)), ?_⟩
    show lcLoop _ _ _ _ _ _ _ ((ρ.set v (.dat (dat x))).set v .non)
    rw [List.set_set, hv]
    exact ih
theorem bools_map {α : Type} (xs : List α) : boolsOf (xs.map fun _ => .bool true) = some (xs.map fun _ => true) := by
  induction xs with
  | nil => rfl
  | cons x xs ih =>
    show (boolsOf (xs.map fun _ => .bool true)).map _ = _
    rw [ih]; rfl
theorem all_map {α : Type} {xs : List α} {k : DL.D → Prop} (q : k (.bool true)) : allD [.list (xs.map fun _ => .bool true)] k := ⟨_, bools_map xs, by rw [show (xs.map fun _ => true).all id = true by simp]; exact q⟩
theorem bools_of (bs : List Bool) : boolsOf (bs.map PyData.bool) = some bs := by
  induction bs with
  | nil => rfl
  | cons x xs ih =>
    show (boolsOf (xs.map PyData.bool)).map _ = _
    rw [ih]; rfl
theorem lc_map2 {α : Type} {m1 : M DL.D} {v v1 : Nat} {k : List DL.D → List Slot → Prop} {ρ : List Slot} (hv : ρ.set v .non = ρ) (hv1 : ρ.set v1 .non = ρ) (hne : v ≠ v1) (hl1 : v1 < ρ.length) (dat : α → DL.D) (f : α → List DL.D) : ∀ (xs : List α) (acc : List DL.D), acc.length + (xs.flatMap f).length ≤ 1000000 →
    (∀ x ∈ xs, ∀ kk : DL.D → List Slot → Prop, kk (.list (f x)) (ρ.set v (.dat (dat x))) → m1 (ρ.set v (.dat (dat x))) kk) → k (acc ++ xs.flatMap f) ρ →
    lcLoop2 (gVar v) (mPure true) (mItL m1) (gVar v1) (mPure true) (mVar v1) [v, v1] [v1] k (xs.map dat) acc ρ
  | [], acc, _, _, q => by
    show k acc ((ρ.set v1 .non).set v .non)
    rw [hv1, hv]
    simpa using q
  | x :: xs, acc, hl, h, q => by
    rw [List.flatMap_cons, List.length_append] at hl
    have ih := lc_map2 (m1 := m1) (k := k) hv hv1 hne hl1 dat f xs (acc ++ f x) (by rw [List.length_append]; omega) (fun y hy => h y (by simp [hy])) (by simpa [List.flatMap_cons] using q)
    have c1 : (ρ.set v (.dat (dat x))).set v1 .non = ρ.set v (.dat (dat x)) := by rw [List.set_comm _ _ hne, hv1]
    show m1 (ρ.set v (.dat (dat x))) _
    refine h x (by simp) _ ?_
    show lcLoop (gVar v1) (mPure true) (mVar v1) [v1] _ (f x) acc ((ρ.set v (.dat (dat x))).set v1 .non)
    rw [c1]
    have e : f x = (f x).map id := by simp
    rw [e]
    refine lc_map c1 id id (f x) acc (by omega) (fun y hy kk hk => ?_) ?_
    · unfold mVar
      have g : ((ρ.set v (.dat (dat x))).set v1 (.dat (id y)))[v1]? = some (.dat (id y)) := by rw [List.getElem?_set_self (by rw [List.length_set]; exact hl1)]
      rw [g]
      exact hk
    · show lcLoop2 _ _ _ _ _ _ _ _ _ _ _ (((ρ.set v (.dat (dat x))).set v1 .non).set v .non)
      rw [c1, List.set_set, hv]
      simpa using ih

/-! ### terms -/
inductive Hed where
  | num (n : Nat) | arg (n : Nat) | op (w : Nat) | call (m : List Nat) | ring (p : Nat)
inductive Te where
  | node (h : Hed) (ps : List Te)
def opS (w : Nat) : Str := if w = 0 then "add" else if w = 1 then "less" else if w = 2 then "times" else if w = 3 then "under" else "if"
def opL (w : Nat) : List Nat := if w = 0 then [10, 13, 13] else if w = 1 then [21, 14, 28, 28] else if w = 2 then [29, 18, 22, 14, 28] else if w = 3 then [30, 23, 13, 14, 27] else [18, 15]
def Hed.D (ds : List DL.D) : Hed → DL.D
  | .num n => .tuple [.str "num", .int (n : Nat)]
  | .arg n => .tuple [.str "arg", .int (n : Nat)]
  | .op w => .tuple (.str (opS w) :: ds)
  | .call m => .tuple [.str "call", .str (T m), .tuple ds]
  | .ring p => .tuple [.str "ring", .int (p : Nat), .tuple ds]
mutual
def Te.dat : Te → DL.D
  | .node h ps => h.D (Te.dats ps)
def Te.dats : List Te → List DL.D
  | [] => []
  | t :: ts => t.dat :: Te.dats ts
end
mutual
def Te.deep : Te → Nat
  | .node _ ps => 1 + Te.deeps ps
def Te.deeps : List Te → Nat
  | [] => 0
  | t :: ts => max t.deep (Te.deeps ts)
end
mutual
def Te.size : Te → Nat
  | .node _ ps => 1 + Te.sizes ps
def Te.sizes : List Te → Nat
  | [] => 0
  | t :: ts => t.size + Te.sizes ts
end
theorem deeps_cons (t : Te) (ts : List Te) : Te.deeps (t :: ts) = max t.deep (Te.deeps ts) := rfl
theorem sizes_cons (t : Te) (ts : List Te) : Te.sizes (t :: ts) = t.size + Te.sizes ts := rfl
theorem deep_node (h : Hed) (ps : List Te) : Te.deep (.node h ps) = 1 + Te.deeps ps := rfl
theorem size_node (h : Hed) (ps : List Te) : Te.size (.node h ps) = 1 + Te.sizes ps := rfl
def Te.ps : Te → List Te | .node _ ps => ps
def Te.hd : Te → Hed | .node h _ => h
theorem dats_eq : ∀ ts : List Te, Te.dats ts = ts.map Te.dat
  | [] => rfl
  | t :: ts => by rw [Te.dats, dats_eq ts]; rfl
theorem dats_len (ts : List Te) : (Te.dats ts).length = ts.length := by rw [dats_eq, List.length_map]
theorem deep_mem : ∀ {ts : List Te} {t : Te}, t ∈ ts → t.deep ≤ Te.deeps ts
  | a :: ts, t, h => by
    unfold Te.deeps
    rcases List.mem_cons.mp h with rfl | h
    · exact Nat.le_max_left _ _
    · exact Nat.le_trans (deep_mem h) (Nat.le_max_right _ _)
theorem deeps_le {n : Nat} : ∀ {ts : List Te}, (∀ t ∈ ts, t.deep ≤ n) → Te.deeps ts ≤ n
  | [], _ => Nat.zero_le _
  | a :: ts, h => by
    unfold Te.deeps
    exact Nat.max_le.mpr ⟨h a (by simp), deeps_le fun t ht => h t (by simp [ht])⟩
theorem deep_pos : ∀ t : Te, 1 ≤ t.deep
  | .node _ ps => by unfold Te.deep; omega
theorem size_pos : ∀ t : Te, 1 ≤ t.size
  | .node _ ps => by unfold Te.size; omega
/-- how many parts -/
def Hed.fit (k : Nat) : Hed → Prop
  | .num n => n ≤ 1000002 ∧ k = 0
  | .arg n => n < 4 ∧ k = 0
  | .op w => w < 5 ∧ k = (if w = 4 then 3 else 2)
  | .call m => m.length = 6 ∧ (∀ i ∈ m, i < 36) ∧ k ≤ 4
  | .ring p => p ≤ 11 ∧ k ≤ 4
inductive Te.Ok : Te → Prop
  | mk {h : Hed} {ps : List Te} : h.fit ps.length → (∀ p ∈ ps, Te.Ok p) → Te.Ok (.node h ps)
theorem Te.Ok.fit {h : Hed} {ps : List Te} (o : Te.Ok (.node h ps)) : h.fit ps.length := by cases o; assumption
theorem Te.Ok.all {h : Hed} {ps : List Te} (o : Te.Ok (.node h ps)) : ∀ p ∈ ps, Te.Ok p := by cases o; assumption
theorem Hed.fit.four {h : Hed} {k : Nat} (f : h.fit k) : k ≤ 4 := by
  cases h with
  | num n => have := f.2; omega
  | arg n => have := f.2; omega
  | op w => have := f.2; split at this <;> omega
  | call m => exact f.2.2
  | ring p => exact f.2
theorem sizes_le {c : Nat} : ∀ {ts : List Te}, (∀ t ∈ ts, 3 * t.size + 1 ≤ c) → 3 * Te.sizes ts + ts.length ≤ ts.length * c
  | [], _ => by simp [Te.sizes]
  | a :: ts, h => by
    have h1 := h a (by simp)
    have h2 := sizes_le (c := c) (ts := ts) fun t ht => h t (by simp [ht])
    rw [List.length_cons, Te.sizes, Nat.add_mul, Nat.one_mul]
    omega
theorem size_le : ∀ (n : Nat) (t : Te), t.Ok → t.deep ≤ n → 3 * t.size + 1 ≤ 4 ^ n
  | 0, t, _, h => by have := deep_pos t; omega
  | n + 1, .node hd ps, o, h => by
    have hp : ∀ t ∈ ps, 3 * t.size + 1 ≤ 4 ^ n := fun t ht => size_le n t (o.all t ht) (by have := deep_mem ht; unfold Te.deep at h; omega)
    have s := sizes_le hp
    have f := o.fit.four
    have c1 : 1 ≤ 4 ^ n := Nat.pos_of_ne_zero (by simp)
    have : ps.length * 4 ^ n + (4 - ps.length) * 4 ^ n = 4 * 4 ^ n := by rw [← Nat.add_mul]; congr 1; omega
    have c2 : (4 - ps.length) ≤ (4 - ps.length) * 4 ^ n := Nat.le_mul_of_pos_right _ c1
    unfold Te.size
    rw [Nat.pow_succ]
    omega
theorem size8 {t : Te} (o : t.Ok) (h : t.deep ≤ 8) : t.size ≤ 21845 := by
  have := size_le 8 t o h
  have e : 4 ^ 8 = 65536 := by decide
  omega
theorem deep_kids {h : Hed} {ps : List Te} {n : Nat} (l : Te.deep (.node h ps) ≤ n + 1) : ∀ t ∈ ps, t.deep ≤ n := fun t ht => by
  have := deep_mem ht
  unfold Te.deep at l
  omega
/-! ### what they are written as -/
theorem num_ten : ∀ m n : Nat, n < 10 ^ (m + 1) → ∃ is : List Nat, TL.numL n = is.map dig ∧ (∀ i ∈ is, i < 10) ∧ is.length ≤ m + 1 := num_lo
/-- the figures of a number, in tens -/
def tenF : Nat → Nat → List Nat → List Nat
  | 0, _, acc => acc
  | f + 1, n, acc => if n < 10 then n :: acc else tenF f (n / 10) (n % 10 :: acc)
def ten (n : Nat) : List Nat := tenF 8 n []
theorem tenF_numL : ∀ (f n : Nat) (acc : List Nat), n < 10 ^ f → 0 < f → (tenF f n acc).map dig = TL.numL n ++ acc.map dig
  | 0, _, _, _, h => absurd h (by decide)
  | f + 1, n, acc, h, _ => by
    have d : ∀ n, n < 10 → 48 + n = dig n := by decide
    unfold tenF
    by_cases hn : n < 10
    · rw [if_pos hn, TL.numL_lt hn, d n hn]; rfl
    · rw [if_neg hn]
      have hf : 0 < f := by
        cases f with
        | zero => exact absurd h (by simpa using hn)
        | succ f => omega
      rw [tenF_numL f (n / 10) _ (by rw [Nat.pow_succ] at h; exact Nat.div_lt_of_lt_mul (by rw [Nat.mul_comm]; exact h)) hf, TL.numL_step (n := n) (by omega), List.map_cons, d _ (Nat.mod_lt _ (by decide))]
      simp
theorem tenF_lt : ∀ (f n : Nat) (acc : List Nat), (∀ i ∈ acc, i < 10) → ∀ i ∈ tenF f n acc, i < 10
  | 0, _, _, h => h
  | f + 1, n, acc, h => by
    unfold tenF
    by_cases hn : n < 10
    · rw [if_pos hn]
      intro i hi
      rcases List.mem_cons.mp hi with rfl | hi
      · exact hn
      · exact h i hi
    · rw [if_neg hn]
      exact tenF_lt f _ _ fun i hi => (List.mem_cons.mp hi).elim (fun e => e ▸ Nat.mod_lt _ (by decide)) (h i)
theorem tenF_len : ∀ (f n : Nat) (acc : List Nat), n < 10 ^ f → 0 < f → acc.length < (tenF f n acc).length ∧ (tenF f n acc).length ≤ f + acc.length
  | 0, _, _, _, h => absurd h (by decide)
  | f + 1, n, acc, h, _ => by
    unfold tenF
    by_cases hn : n < 10
    · rw [if_pos hn, List.length_cons]; omega
    · rw [if_neg hn]
      have hf : 0 < f := by
        cases f with
        | zero => exact absurd h (by simpa using hn)
        | succ f => omega
      have := tenF_len f (n / 10) (n % 10 :: acc) (by rw [Nat.pow_succ] at h; exact Nat.div_lt_of_lt_mul (by rw [Nat.mul_comm]; exact h)) hf
      rw [List.length_cons] at this
      omega
theorem ten_lt (n : Nat) : ∀ i ∈ ten n, i < 10 := tenF_lt 8 n [] fun _ h => nomatch h
theorem ten_lo (n : Nat) : Lo (ten n) := fun i h => Nat.lt_trans (ten_lt n i h) (by decide)
theorem ten_pos {n : Nat} (h : n < 10000000) : 1 ≤ (ten n).length := (tenF_len 8 n [] (Nat.lt_trans h (by decide)) (by decide)).1
theorem ten_str {n : Nat} (h : n < 10000000) : Str.ofString (toString ((n : Nat) : Int)) = T (ten n) := by
  have t := TL.tl_num n
  have e : (ten n).map dig = TL.numL n := by
    have := tenF_numL 8 n [] (Nat.lt_trans h (by decide)) (by decide)
    simpa [ten] using this
  rw [← e] at t
  have : ∀ x : Str, x.cps.toList = (ten n).map dig → x = T (ten n) := fun ⟨c⟩ hx => by
    unfold T
    congr 1
    have hx : c.toList = (ten n).map dig := hx
    rw [← hx]
  exact this _ t
theorem ten_len7 {n : Nat} (h : n < 10000000) : (ten n).length ≤ 7 := by
  obtain ⟨is, e, _, l⟩ := num_lo 6 n h
  have e2 : (ten n).map dig = TL.numL n := by
    have := tenF_numL 8 n [] (Nat.lt_trans h (by decide)) (by decide)
    simpa [ten] using this
  have := congrArg List.length (e2.trans e)
  rw [List.length_map, List.length_map] at this
  omega
/-- its value -/
def val10 (is : List Nat) : Nat := is.foldl (fun a i => a * 10 + i) 0
theorem val10_app (a : Nat) (is : List Nat) : is.foldl (fun a i => a * 10 + i) a = a * 10 ^ is.length + val10 is := by
  unfold val10
  induction is generalizing a with
  | nil => simp
  | cons i is ih =>
    rw [List.foldl_cons, ih, List.foldl_cons, ih (0 * 10 + i), List.length_cons, Nat.pow_succ]
    rw [Nat.add_mul, Nat.zero_mul, Nat.zero_add, Nat.mul_assoc, Nat.mul_comm 10]
    omega
theorem tenF_val : ∀ (f n : Nat) (acc : List Nat), n < 10 ^ f → 0 < f → val10 (tenF f n acc) = n * 10 ^ acc.length + val10 acc
  | 0, _, _, _, h => absurd h (by decide)
  | f + 1, n, acc, h, _ => by
    unfold tenF
    have c : ∀ m, val10 (m :: acc) = m * 10 ^ acc.length + val10 acc := fun m => by
      show List.foldl _ (0 * 10 + m) acc = _
      rw [val10_app, Nat.zero_mul, Nat.zero_add]
    by_cases hn : n < 10
    · rw [if_pos hn]; exact c n
    · rw [if_neg hn]
      have hf : 0 < f := by
        cases f with
        | zero => exact absurd h (by simpa using hn)
        | succ f => omega
      rw [tenF_val f (n / 10) _ (by rw [Nat.pow_succ] at h; exact Nat.div_lt_of_lt_mul (by rw [Nat.mul_comm]; exact h)) hf, c, List.length_cons, Nat.pow_succ, ← Nat.add_assoc]
      congr 1
      have := Nat.div_add_mod n 10
      calc n / 10 * (10 ^ acc.length * 10) + n % 10 * 10 ^ acc.length = (10 * (n / 10) + n % 10) * 10 ^ acc.length := by
            rw [Nat.add_mul, Nat.mul_comm (10 ^ acc.length) 10, ← Nat.mul_assoc, Nat.mul_comm (n / 10) 10]
        _ = _ := by rw [this]
theorem ten_val {n : Nat} (h : n < 10000000) : val10 (ten n) = n := by
  have := tenF_val 8 n [] (Nat.lt_trans h (by decide)) (by decide)
  simpa [ten, val10] using this
def Hed.txt : Hed → List Nat
  | .op w => opL w
  | .call m => 37 :: m
  | .ring p => 38 :: ten p
  | .num n => ten n
  | .arg n => [10 + n]
def Hed.isLeaf : Hed → Bool
  | .num _ => true
  | .arg _ => true
  | _ => false
mutual
def Te.txt : Te → List Nat
  | .node h ps => if h.isLeaf then h.txt else 39 :: (h.txt ++ (Te.txts ps ++ [40]))
def Te.txts : List Te → List Nat
  | [] => []
  | t :: ts => 36 :: (t.txt ++ Te.txts ts)
end
theorem opL_ok : ∀ w, w < 5 → opS w = T (opL w) ∧ (∀ i ∈ opL w, 10 ≤ i ∧ i < 36) ∧ 2 ≤ (opL w).length ∧ (opL w).length ≤ 5 ∧ (opS w == ("num" : Str)) = false ∧ (opS w == ("arg" : Str)) = false ∧ (opS w == ("call" : Str)) = false ∧ (opS w == ("ring" : Str)) = false ∧ PyData.strOk (opS w) = true := by
  decide +kernel
theorem Hed.lo {h : Hed} {k : Nat} (f : h.fit k) : Lo h.txt := by
  cases h with
  | num n => exact ten_lo n
  | arg n => exact .one (by have := f.1; omega)
  | op w => exact fun i hi => by have := ((opL_ok w f.1).2.1 i hi).2; omega
  | call m => exact .cons (by decide) fun i hi => by have := f.2.1 i hi; omega
  | ring p => exact .cons (by decide) (ten_lo p)
theorem Hed.len {h : Hed} {k : Nat} (f : h.fit k) : h.txt.length ≤ 8 := by
  cases h with
  | num n => have := ten_len7 (n := n) (by have := f.1; omega); show (ten n).length ≤ 8; omega
  | arg n => show 1 ≤ 8; decide
  | op w => have := (opL_ok w f.1).2.2.2.1; show (opL w).length ≤ 8; omega
  | call m => show m.length + 1 ≤ 8; have := f.1; omega
  | ring p => have := ten_len7 (n := p) (by have := f.1; omega); show (ten p).length + 1 ≤ 8; omega
theorem txts_lo : ∀ {ts : List Te}, (∀ t ∈ ts, Lo t.txt) → Lo (Te.txts ts)
  | [], _ => .nil
  | a :: ts, h => by
    unfold Te.txts
    exact .cons (by decide) ((h a (by simp)).app (txts_lo fun t ht => h t (by simp [ht])))
theorem Te.lo : ∀ (n : Nat) (t : Te), t.Ok → t.deep ≤ n → Lo t.txt
  | 0, t, _, h => by have := deep_pos t; omega
  | n + 1, .node hd ps, o, h => by
    have hp : ∀ t ∈ ps, Lo t.txt := fun t ht => Te.lo n t (o.all t ht) (by have := deep_mem ht; unfold Te.deep at h; omega)
    unfold Te.txt
    split
    · exact Hed.lo o.fit
    · exact .cons (by decide) ((Hed.lo o.fit).app ((txts_lo hp).app (.one (by decide))))
theorem txts_len {ts : List Te} (h : ∀ t ∈ ts, t.txt.length + 1 ≤ 11 * t.size) : (Te.txts ts).length ≤ 11 * Te.sizes ts := by
  induction ts with
  | nil => exact Nat.zero_le _
  | cons a ts ih =>
    have h1 := h a (by simp)
    have h2 := ih fun t ht => h t (by simp [ht])
    unfold Te.txts Te.sizes
    rw [List.length_cons, List.length_append]; omega
theorem Te.txt_len : ∀ (n : Nat) (t : Te), t.Ok → t.deep ≤ n → t.txt.length + 1 ≤ 11 * t.size
  | 0, t, _, h => by have := deep_pos t; omega
  | n + 1, .node hd ps, o, h => by
    have hp := txts_len fun t (ht : t ∈ ps) => Te.txt_len n t (o.all t ht) (by have := deep_mem ht; unfold Te.deep at h; omega)
    have hl := Hed.len o.fit
    unfold Te.txt Te.size
    split
    · omega
    · rw [List.length_cons, List.length_append, List.length_append, List.length_singleton]; omega
theorem Te.txt_len8 {t : Te} (o : t.Ok) (h : t.deep ≤ 8) : t.txt.length ≤ 240295 := by
  have := Te.txt_len 8 t o h
  have := size8 o h
  omega
theorem txts_cons (t : Te) (ts : List Te) : Te.txts (t :: ts) = 36 :: (t.txt ++ Te.txts ts) := rfl
theorem txts_join (hd : List Nat) : ∀ ts : List Te, Txt.join (T [36]) ((hd :: ts.map Te.txt).map T) = T (hd ++ Te.txts ts)
  | [] => by rw [TL.join_eq]; unfold Te.txts; rw [List.append_nil]; rfl
  | t :: ts => by
    have ih := txts_join t.txt ts
    rw [TL.join_eq] at ih ⊢
    show T hd ++ T [36] ++ Str.join (T [36]) ((t.txt :: ts.map Te.txt).map T) = _
    rw [ih, T_app, T_app, txts_cons]
    simp

local macro_rules | `(tactic| walk_at "ev") => `(tactic| (
  simp (config := { maxSteps := 100000000 }) only [fnS, fnB, sSeq, sIf, sNext, sNever, sRet, sRetN, sRet0, sRetOwn, sSet, sSetN, sDrop, sAsg, sPar, sFor, sAug, sBreak, sCont, loopK, mTest, mBin, mIxO, withOwn, mPure, mVar, mCall, mCons, mNil, mTup, mLen, mList, mListOf, mIf, mAnd, mOr, mNot, mAndV, mOrV, mNotV, mSl, mSome, mFn, mFnN, mFnB, mFnBn, mLenOwn, mAppend, mPD, mPN, mMeth, mRevS, mIsi, mIsi2, mLc, mItL, mItT, mItS, mRng1, mRng2, mZip, mEnum, wipeS, sStar, mChain, mKw, mItU, mFix, mNinF, mFnV, mLc2, mLenU, mIxU, mAddN, addN_ll,
    gTupD, gConsD, gNilD, gSubD, gVar, setAll, Put.slot, List.length_cons, List.length_nil, Nat.reduceAdd,
    addD_ii, addD_ss, addD_ll, addD_tt, subD_ii, mulD_ii, mulD_si, fdivD_ii, fdivWD_ii, modD_ii, powD_ii, divmodD_ii, absD_i, maxD_ii, minD_ii, lenD_l, lenD_t, lenD_s, intD_b, intD_i, strD_i, tupleD_l, tupleD_t, ltD_ii, leD_ii, gtD_ii, geD_ii,
    isD_nn, isD_sn, isD_in, isD_bn, isD_ln, isD_tn, isD_bb, isnD_nn, isnD_sn, isnD_in, isnD_bn, isnD_ln, isnD_tn, isnD_bb, ixD_li, ixD_ti, ixD_si, eqD_ii, neD_ii, eqD_ss, neD_ss, eqD_bb, neD_bb, at0, at1, at2, ix30, ix32, indexD_s,
    List.map_cons, List.map_nil, List.cons_append, List.nil_append, List.replicate, List.getElem?_cons_zero, List.getElem?_cons_succ, List.set_cons_zero, List.set_cons_succ,
    decide_eq_true_eq, ex_ownT, ex_ownP, ex_own1, Option.some.injEq, true_and, and_true, exists_eq_left', exists_eq_left, exists_eq, bool_ite, bool_ite', if_true, Bool.not_true, Bool.not_false, ite_true, ite_false]))
local macro_rules | `(tactic| walk_at "t") => `(tactic| (dsimp only; rw [bool_ite]))
local macro_rules | `(tactic| walk_at "f") => `(tactic| (dsimp only; rw [bool_ite']))
local macro_rules | `(tactic| walk_at "ev1") => `(tactic| (
  simp (config := { maxSteps := 100000000 }) only [fnS, fnB, sIf, sNext, sNever, sRet, sRetN, sRet0, sRetOwn, sSet, sSetN, sDrop, sAsg, sPar, sFor, sAug, sBreak, sCont, loopK, mTest, mBin, mIxO, withOwn, mPure, mVar, mCall, mCons, mNil, mTup, mLen, mList, mListOf, mIf, mAnd, mOr, mNot, mAndV, mOrV, mNotV, mSl, mSome, mFn, mFnN, mFnB, mFnBn, mLenOwn, mAppend, mPD, mPN, mMeth, mRevS, mIsi, mIsi2, mLc, mItL, mItT, mItS, mRng1, mRng2, mZip, mEnum, wipeS, sStar, mChain, mKw, mItU, mFix, mNinF, mFnV, mLc2, mLenU, mIxU, mAddN, addN_ll,
    gTupD, gConsD, gNilD, gSubD, gVar, setAll, Put.slot, List.length_cons, List.length_nil, Nat.reduceAdd,
    addD_ii, T_addD, addD_ll, addD_tt, subD_ii, mulD_ii, mulD_si, fdivD_ii, fdivWD_ii, modD_ii, powD_ii, divmodD_ii, absD_i, maxD_ii, minD_ii, lenD_l, lenD_t, lenD_s, intD_b, intD_i, strD_i, tupleD_l, tupleD_t, ltD_ii, leD_ii, gtD_ii, geD_ii,
    isD_nn, isD_sn, isD_in, isD_bn, isD_ln, isD_tn, isD_bb, isnD_nn, isnD_sn, isnD_in, isnD_bn, isnD_ln, isnD_tn, isnD_bb, ixD_li, ixD_ti, ixD_si, eqD_ii, neD_ii, eqD_ss, neD_ss, eqD_bb, neD_bb, at0, at1, at2, ix30, ix32, indexD_s,
    List.map_cons, List.map_nil, List.cons_append, List.nil_append, List.replicate, List.getElem?_cons_zero, List.getElem?_cons_succ, List.set_cons_zero, List.set_cons_succ,
    decide_eq_true_eq, List.length_append, szl0, szl1, szl2, szl3, szl4, szl5, szl6, szl7, szl8, szl9, szl10, szl11, szl12, szl13, szl14, szl15, szl16, szt0, szt1, szt2, szt3, szt4, szt5, szt6, szt7, szt8, szt9, szt10, szt11, szt12, ex_ownT, ex_ownP, ex_own1, Option.some.injEq, true_and, and_true, exists_eq_left', exists_eq_left, exists_eq, bool_ite, bool_ite', if_true, Bool.not_true, Bool.not_false, ite_true, ite_false]))
local macro_rules | `(tactic| walk_at "sq") => `(tactic| (rw [sSeq_eq]; walk_at "ev1"))
local macro_rules | `(tactic| walk_at "sz") => `(tactic| (repeat ((with_reducible refine And.intro ?_ ?_); (focus (exact len_line (by first | decide | omega | (simp; omega)))))))
/-! ### what is a term, of anything -/
def b36C (c : Nat) : Bool := decide (c ∈ ("0123456789abcdefghijklmnopqrstuvwxyz" : Str).cps.toList)
def belowB (m : Nat) : DL.D → Bool
  | .int i => decide (0 ≤ i) && decide (i < (m : Nat))
  | _ => false
def markB : DL.D → Bool
  | .str w => decide (w.length = 6) && w.cps.toList.all b36C
  | _ => false
def numB (M : Nat) : List DL.D → Bool
  | [a] => belowB M a
  | _ => false
def partsB (g f : DL.D → Bool) : List DL.D → Bool
  | [a, .tuple qs] => g a && (decide (qs.length ≤ 4) && qs.all f)
  | _ => false
/-- so deep at most -/
def isTm : Nat → DL.D → Bool
  | 0, _ => false
  | n + 1, .tuple (.str w :: ps) =>
    if w = "num" then numB 1000003 ps
    else if w = "arg" then numB 4 ps
    else if w = "call" then partsB markB (isTm n) ps
    else if w = "ring" then partsB (belowB 12) (isTm n) ps
    else if w = "if" then decide (ps.length = 3) && ps.all (isTm n)
    else if w = "add" ∨ w = "less" ∨ w = "times" ∨ w = "under" then decide (ps.length = 2) && ps.all (isTm n)
    else false
  | _ + 1, _ => false
/-- data, no dict in it, no text longer than a line -/
inductive Pl : DL.D → Prop
  | none : Pl .none
  | bool (b) : Pl (.bool b)
  | int (i) : Pl (.int i)
  | str {x : Str} : x.length ≤ 1000000 → PyData.strOk x = true → Pl (.str x)
  | list {ds : List DL.D} : ds.length ≤ 100000 → (∀ d ∈ ds, Pl d) → Pl (.list ds)
  | tuple {ds : List DL.D} : ds.length ≤ 100000 → (∀ d ∈ ds, Pl d) → Pl (.tuple ds)
theorem Pl.all {ds : List DL.D} (h : Pl (.tuple ds)) : ds.length ≤ 100000 ∧ ∀ d ∈ ds, Pl d := by cases h; exact ⟨by assumption, by assumption⟩
theorem all_bs {α : Type} {xs : List α} {f : α → Bool} {k : DL.D → Prop} (q : k (.bool (xs.all f))) : allD [.list (xs.map fun x => .bool (f x))] k :=
  ⟨xs.map f, by rw [← bools_of, List.map_map]; rfl, by rw [List.all_map]; exact q⟩
theorem below_gen {m : Nat} {d : DL.D} (h : Pl d) {k : Bool → DL.D → Prop} (q : k false (.bool (belowB m d))) : W_is_below [d, .int (m : Nat)] k := by
  unfold W_is_below m_is_below
  walk_at "ev"
  cases h with
  | none => exact ⟨rfl, q⟩
  | bool b => exact ⟨rfl, rfl, q⟩
  | str a b => exact ⟨rfl, q⟩
  | list a b => exact ⟨rfl, q⟩
  | tuple a b => exact ⟨rfl, q⟩
  | int i =>
    refine ⟨rfl, ?_⟩
    show ndD (.int i) = true ∧ _
    refine ⟨rfl, ?_⟩
    rw [show isiD "bool" (.int i) = false from rfl]
    walk_at "ev"
    unfold belowB at q
    dsimp only at q
    cases h0 : decide (0 ≤ i) with
    | false => rw [h0] at q; exact q
    | true => rw [h0] at q; exact q
theorem mark_gen {d : DL.D} (h : Pl d) {k : Bool → DL.D → Prop} (q : k false (.bool (markB d))) : W_is_mark [d] k := by
  unfold W_is_mark m_is_mark
  walk_at "ev"
  cases h with
  | none => exact ⟨rfl, q⟩
  | bool b => exact ⟨rfl, q⟩
  | int i => exact ⟨rfl, q⟩
  | list a b => exact ⟨rfl, q⟩
  | tuple a b => exact ⟨rfl, q⟩
  | @str w hl _ =>
    refine ⟨rfl, ?_⟩
    unfold markB at q
    dsimp only at q
    rw [show isiD "str" (.str w) = true from rfl]
    dsimp only
    walk_at "ev"
    refine ⟨len_line (by omega), ?_⟩
    by_cases h6 : w.length = 6
    · rw [decide_eq_true h6] at q
      rw [decide_eq_true (by omega : ((w.length : Nat) : Int) = 6)]
      dsimp only
      refine lc_map (ρ := [.dat (.str w), .non]) rfl (fun c => .str ⟨#[c]⟩) (fun c => .bool (b36C c)) w.cps.toList [] (by show 0 + w.length ≤ _; omega) (fun c hc kk hk => ?_) ?_
      · unfold E1_is_mark
        walk_at "ev"
        rw [inD_one]
        exact hk
      · exact all_bs q
    · rw [decide_eq_false h6] at q
      rw [decide_eq_false (by omega : ¬ ((w.length : Nat) : Int) = 6)]
      exact q
theorem are_gen {self : FS} {m : Int} {ds : List DL.D} {A : DL.D} {f : DL.D → Bool} {k : Bool → DL.D → Prop} (hA : A = .list ds ∨ A = .tuple ds) (hl : ds.length ≤ 100000) (h : ∀ d ∈ ds, ∀ k : Bool → DL.D → Prop, k false (.bool (f d)) → self [d, .int m] k) (q : k false (.bool (ds.all f))) : W_are_terms self [A, .int m] k := by
  unfold W_are_terms m_are_terms
  have e : ds = ds.map id := by simp
  rcases hA with rfl | rfl
  · walk_at "ev"
    refine Eq.mp (congrArg (fun xs => lcLoop (gVar 2) (mPure true) (E1_are_terms self) [2] _ xs [] [Slot.dat (.list ds), .dat (.int m), .non]) e.symm) ?_
    refine lc_map (ρ := [.dat (.list ds), .dat (.int m), .non]) rfl id (fun d => .bool (f d)) ds [] (by simp; omega) (fun t ht kk hk => ?_) ?_
    · unfold E1_are_terms
      walk_at "ev"
      exact h t ht _ hk
    · exact all_bs q
  · walk_at "ev"
    refine Eq.mp (congrArg (fun xs => lcLoop (gVar 2) (mPure true) (E1_are_terms self) [2] _ xs [] [Slot.dat (.tuple ds), .dat (.int m), .non]) e.symm) ?_
    refine lc_map (ρ := [.dat (.tuple ds), .dat (.int m), .non]) rfl id (fun d => .bool (f d)) ds [] (by simp; omega) (fun t ht kk hk => ?_) ?_
    · unfold E1_are_terms
      walk_at "ev"
      exact h t ht _ hk
    · exact all_bs q
theorem parts_gen {self : FS} {n : Nat} {m : Int} {d : DL.D} {k : Bool → DL.D → Prop} (hd : Pl d) (h : ∀ d, Pl d → ∀ k : Bool → DL.D → Prop, k false (.bool (isTm n d)) → self [d, .int m] k)
    (q : k false (.bool (match d with | .tuple qs => decide (qs.length ≤ 4) && qs.all (isTm n) | _ => false))) : W_are_parts self [d, .int m] k := by
  unfold W_are_parts m_are_parts
  walk_at "ev"
  cases hd with
  | none => exact ⟨rfl, q⟩
  | bool b => exact ⟨rfl, q⟩
  | int i => exact ⟨rfl, q⟩
  | str a b => exact ⟨rfl, q⟩
  | list a b => exact ⟨rfl, q⟩
  | @tuple qs a b =>
    refine ⟨rfl, ?_⟩
    rw [show isiD "tuple" (.tuple qs) = true from rfl]
    dsimp only
    walk_at "ev"
    dsimp only at q
    by_cases h4 : qs.length ≤ 4
    · rw [decide_eq_true h4] at q
      rw [decide_eq_true (by omega : ((qs.length : Nat) : Int) ≤ 4)]
      exact are_gen (.inr rfl) a (fun d hd k hk => h d (b d hd) k hk) q
    · rw [decide_eq_false h4] at q
      rw [decide_eq_false (by omega : ¬ ((qs.length : Nat) : Int) ≤ 4)]
      exact q
theorem look_num {self : FS} : txLook (tab_TERM_FORMS self) "is_num" = some (2, W_is_num self) := by
  unfold tab_TERM_FORMS; simp only [txLook]; rw [if_pos trivial]
theorem look_arg {self : FS} : txLook (tab_TERM_FORMS self) "is_arg" = some (2, W_is_arg self) := by
  unfold tab_TERM_FORMS; simp only [txLook]; rw [if_neg (by decide +kernel), if_pos trivial]
theorem look_two {self : FS} : txLook (tab_TERM_FORMS self) "is_two" = some (2, W_is_two self) := by
  unfold tab_TERM_FORMS; simp only [txLook]; rw [if_neg (by decide +kernel), if_neg (by decide +kernel), if_pos trivial]
theorem look_three {self : FS} : txLook (tab_TERM_FORMS self) "is_three" = some (2, W_is_three self) := by
  unfold tab_TERM_FORMS; simp only [txLook]; rw [if_neg (by decide +kernel), if_neg (by decide +kernel), if_neg (by decide +kernel), if_pos trivial]
theorem look_call {self : FS} : txLook (tab_TERM_FORMS self) "is_call" = some (2, W_is_call self) := by
  unfold tab_TERM_FORMS; simp only [txLook]; rw [if_neg (by decide +kernel), if_neg (by decide +kernel), if_neg (by decide +kernel), if_neg (by decide +kernel), if_pos trivial]
theorem look_ring {self : FS} : txLook (tab_TERM_FORMS self) "is_ring" = some (2, W_is_ring self) := by
  unfold tab_TERM_FORMS; simp only [txLook]; rw [if_neg (by decide +kernel), if_neg (by decide +kernel), if_neg (by decide +kernel), if_neg (by decide +kernel), if_neg (by decide +kernel), if_pos trivial]
theorem within_step {fuel m : Nat} {w y : Str} {rest : List DL.D} {F : FS} {k : Bool → DL.D → Prop} (m1 : 1 ≤ m) (hy : txLook tbl_TERM_FORMS w = some y) (hF : txLook (tab_TERM_FORMS (W_is_term_within fuel)) y = some (2, F))
    (q : F [.list rest, .int (((m - 1 : Nat)) : Int)] fun _ d => k false d) : W_is_term_within (fuel + 1) [.tuple (.str w :: rest), .int (m : Nat)] k := by
  have em : ((m : Nat) : Int) - 1 = ((m - 1 : Nat) : Int) := by omega
  unfold W_is_term_within m_is_term_within
  walk_at "ev"
  rw [if_neg (by omega)]
  refine ⟨rfl, ?_⟩
  rw [if_neg (show ¬ ((!isiD "tuple" (PyData.tuple (PyData.str w :: rest))) = true) from Bool.false_ne_true), if_neg (by omega)]
  refine ⟨rfl, ?_⟩
  rw [if_neg (show ¬ ((!isiD "str" (PyData.str w)) = true) from Bool.false_ne_true), hy]
  simp only [Option.isSome_some, Bool.not_true, bool_ite', Option.some.injEq, exists_eq_left']
  rw [em]
  exact ⟨y, 2, F, rfl, hF, rfl, q⟩
theorem within_none {fuel m : Nat} {w : Str} {rest : List DL.D} {k : Bool → DL.D → Prop} (hy : txLook tbl_TERM_FORMS w = none) (q : k false (.bool false)) : W_is_term_within (fuel + 1) [.tuple (.str w :: rest), .int ((m + 1 : Nat) : Int)] k := by
  unfold W_is_term_within m_is_term_within
  walk_at "ev"
  rw [if_neg (by omega)]
  refine ⟨rfl, ?_⟩
  rw [if_neg (show ¬ ((!isiD "tuple" (PyData.tuple (PyData.str w :: rest))) = true) from Bool.false_ne_true), if_neg (by omega)]
  refine ⟨rfl, ?_⟩
  rw [if_neg (show ¬ ((!isiD "str" (PyData.str w)) = true) from Bool.false_ne_true), hy]
  exact q
theorem num_gen {self : FS} {m : Int} {ps : List DL.D} (h : ∀ d ∈ ps, Pl d) {k : Bool → DL.D → Prop} (q : k false (.bool (numB 1000003 ps))) : W_is_num self [.list ps, .int m] k := by
  unfold W_is_num m_is_num
  walk_at "ev"
  match ps, h, q with
  | [], h, q => exact q
  | [a], h, q =>
    rw [decide_eq_true (by simp)]
    dsimp only
    refine ⟨_, at0, ?_⟩
    exact below_gen (m := 1000003) (h a (by simp)) q
  | a :: b :: r, h, q =>
    rw [decide_eq_false (by simp; omega)]
    exact q
theorem arg_gen {self : FS} {m : Int} {ps : List DL.D} (h : ∀ d ∈ ps, Pl d) {k : Bool → DL.D → Prop} (q : k false (.bool (numB 4 ps))) : W_is_arg self [.list ps, .int m] k := by
  unfold W_is_arg m_is_arg
  walk_at "ev"
  match ps, h, q with
  | [], h, q => exact q
  | [a], h, q =>
    rw [decide_eq_true (by simp)]
    dsimp only
    refine ⟨_, at0, ?_⟩
    exact below_gen (m := 4) (h a (by simp)) q
  | a :: b :: r, h, q =>
    rw [decide_eq_false (by simp; omega)]
    exact q
theorem two_gen {self : FS} {n : Nat} {m : Int} {ps : List DL.D} (hl : ps.length ≤ 100000) (h : ∀ d ∈ ps, ∀ k : Bool → DL.D → Prop, k false (.bool (isTm n d)) → self [d, .int m] k) {k : Bool → DL.D → Prop} (q : k false (.bool (decide (ps.length = 2) && ps.all (isTm n)))) : W_is_two self [.list ps, .int m] k := by
  unfold W_is_two m_is_two
  walk_at "ev"
  by_cases e : ps.length = 2
  · rw [decide_eq_true e] at q
    rw [decide_eq_true (by omega : ((ps.length : Nat) : Int) = 2)]
    exact are_gen (.inl rfl) hl h q
  · rw [decide_eq_false e] at q
    rw [decide_eq_false (by omega : ¬ ((ps.length : Nat) : Int) = 2)]
    exact q
theorem three_gen {self : FS} {n : Nat} {m : Int} {ps : List DL.D} (hl : ps.length ≤ 100000) (h : ∀ d ∈ ps, ∀ k : Bool → DL.D → Prop, k false (.bool (isTm n d)) → self [d, .int m] k) {k : Bool → DL.D → Prop} (q : k false (.bool (decide (ps.length = 3) && ps.all (isTm n)))) : W_is_three self [.list ps, .int m] k := by
  unfold W_is_three m_is_three
  walk_at "ev"
  by_cases e : ps.length = 3
  · rw [decide_eq_true e] at q
    rw [decide_eq_true (by omega : ((ps.length : Nat) : Int) = 3)]
    exact are_gen (.inl rfl) hl h q
  · rw [decide_eq_false e] at q
    rw [decide_eq_false (by omega : ¬ ((ps.length : Nat) : Int) = 3)]
    exact q
theorem call_gen {self : FS} {n : Nat} {m : Int} {ps : List DL.D} (h : ∀ d ∈ ps, Pl d) (ih : ∀ d, Pl d → ∀ k : Bool → DL.D → Prop, k false (.bool (isTm n d)) → self [d, .int m] k) {k : Bool → DL.D → Prop}
    (q : k false (.bool (partsB markB (isTm n) ps))) : W_is_call self [.list ps, .int m] k := by
  unfold W_is_call m_is_call
  walk_at "ev"
  match ps, h, q with
  | [], h, q => exact q
  | [a], h, q => exact q
  | a :: b :: c :: r, h, q =>
    rw [decide_eq_false (by simp; omega)]
    have e : ∀ (g f : DL.D → Bool), partsB g f (a :: b :: c :: r) = false := fun g f => by cases b <;> rfl
    rw [e] at q
    exact q
  | [a, b], h, q =>
    rw [decide_eq_true (by simp)]
    dsimp only
    refine ⟨_, at0, ?_⟩
    refine mark_gen (h a (by simp)) ?_
    cases e : markB a with
    | false =>
      have hb := h b (by simp)
      cases hb <;> (first | exact q | (unfold partsB at q; dsimp only at q; rw [e] at q; exact q))
    | true =>
      dsimp only
      have hb := h b (by simp)
      refine ⟨_, at1, ?_⟩
      refine parts_gen hb ih ?_
      cases hb <;> (first | exact q | (unfold partsB at q; dsimp only at q; rw [e] at q; exact q))
theorem ring_gen {self : FS} {n : Nat} {m : Int} {ps : List DL.D} (h : ∀ d ∈ ps, Pl d) (ih : ∀ d, Pl d → ∀ k : Bool → DL.D → Prop, k false (.bool (isTm n d)) → self [d, .int m] k) {k : Bool → DL.D → Prop}
    (q : k false (.bool (partsB (belowB 12) (isTm n) ps))) : W_is_ring self [.list ps, .int m] k := by
  unfold W_is_ring m_is_ring
  walk_at "ev"
  match ps, h, q with
  | [], h, q => exact q
  | [a], h, q => exact q
  | a :: b :: c :: r, h, q =>
    rw [decide_eq_false (by simp; omega)]
    have e : ∀ (g f : DL.D → Bool), partsB g f (a :: b :: c :: r) = false := fun g f => by cases b <;> rfl
    rw [e] at q
    exact q
  | [a, b], h, q =>
    rw [decide_eq_true (by simp)]
    dsimp only
    refine ⟨_, at0, ?_⟩
    refine below_gen (m := 12) (h a (by simp)) ?_
    cases e : belowB 12 a with
    | false =>
      have hb := h b (by simp)
      cases hb <;> (first | exact q | (unfold partsB at q; dsimp only at q; rw [e] at q; exact q))
    | true =>
      dsimp only
      have hb := h b (by simp)
      refine ⟨_, at1, ?_⟩
      refine parts_gen hb ih ?_
      cases hb <;> (first | exact q | (unfold partsB at q; dsimp only at q; rw [e] at q; exact q))
theorem is_gen : ∀ (fuel m : Nat) (d : DL.D) (k : Bool → DL.D → Prop), m + 1 ≤ fuel → Pl d → k false (.bool (isTm m d)) → W_is_term_within fuel [d, .int (m : Nat)] k
  | 0, m, d, _, h, _, _ => absurd h (by omega)
  | fuel + 1, 0, d, k, _, hd, q => by
    unfold W_is_term_within m_is_term_within
    walk_at "ev"
    rw [if_pos (by omega)]
    exact q
  | fuel + 1, m + 1, d, k, hf, hd, q => by
    have ih : ∀ d, Pl d → ∀ k : Bool → DL.D → Prop, k false (.bool (isTm m d)) → W_is_term_within fuel [d, .int (((m + 1 - 1 : Nat)) : Int)] k := fun d h k hk => is_gen fuel m d k (by omega) h hk
    have no : (isTm (m + 1) d = false) → (∀ w ps, d ≠ .tuple (.str w :: ps)) → W_is_term_within (fuel + 1) [d, .int ((m + 1 : Nat) : Int)] k := fun e ne => by
      rw [e] at q
      unfold W_is_term_within m_is_term_within
      walk_at "ev"
      rw [if_neg (by omega)]
      cases hd with
      | none => exact ⟨rfl, q⟩
      | bool b => exact ⟨rfl, q⟩
      | int i => exact ⟨rfl, q⟩
      | str a b => exact ⟨rfl, q⟩
      | list a b => exact ⟨rfl, q⟩
      | @tuple ds a b =>
        refine ⟨rfl, ?_⟩
        rw [if_neg (show ¬ ((!isiD "tuple" (PyData.tuple ds)) = true) from Bool.false_ne_true)]
        walk_at "ev"
        cases ds with
        | nil => rw [if_pos (by simp)]; exact q
        | cons x r =>
          rw [if_neg (by simp; omega)]
          refine ⟨x, at0, ?_⟩
          have hx := b x (by simp)
          cases hx with
          | none => exact ⟨rfl, q⟩
          | bool b => exact ⟨rfl, q⟩
          | int i => exact ⟨rfl, q⟩
          | str a b => exact (ne _ _ rfl).elim
          | list a b => exact ⟨rfl, q⟩
          | tuple a b => exact ⟨rfl, q⟩
    by_cases hs : ∃ w ps, d = .tuple (.str w :: ps)
    · obtain ⟨w, ps, rfl⟩ := hs
      have ha := hd.all
      have hps : ∀ d ∈ ps, Pl d := fun d h => ha.2 d (by simp [h])
      have hl : ps.length ≤ 100000 := by have := ha.1; rw [List.length_cons] at this; omega
      have ihs : ∀ d ∈ ps, ∀ k : Bool → DL.D → Prop, k false (.bool (isTm m d)) → W_is_term_within fuel [d, .int (((m + 1 - 1 : Nat)) : Int)] k := fun d h k hk => ih d (hps d h) k hk
      by_cases w1 : w = "num"
      · subst w1
        have e : isTm (m + 1) (.tuple (.str "num" :: ps)) = numB 1000003 ps := by
          unfold isTm
          rw [if_pos rfl]
        rw [e] at q
        exact within_step (by omega) (y := "is_num") (by decide +kernel) look_num (num_gen hps q)
      by_cases w2 : w = "arg"
      · subst w2
        have e : isTm (m + 1) (.tuple (.str "arg" :: ps)) = numB 4 ps := by
          unfold isTm
          rw [if_neg (by decide +kernel), if_pos rfl]
        rw [e] at q
        exact within_step (by omega) (y := "is_arg") (by decide +kernel) look_arg (arg_gen hps q)
      by_cases w3 : w = "call"
      · subst w3
        have e : isTm (m + 1) (.tuple (.str "call" :: ps)) = partsB markB (isTm m) ps := by
          unfold isTm
          rw [if_neg (by decide +kernel), if_neg (by decide +kernel), if_pos rfl]
        rw [e] at q
        exact within_step (by omega) (y := "is_call") (by decide +kernel) look_call (call_gen hps ih q)
      by_cases w4 : w = "ring"
      · subst w4
        have e : isTm (m + 1) (.tuple (.str "ring" :: ps)) = partsB (belowB 12) (isTm m) ps := by
          unfold isTm
          rw [if_neg (by decide +kernel), if_neg (by decide +kernel), if_neg (by decide +kernel), if_pos rfl]
        rw [e] at q
        exact within_step (by omega) (y := "is_ring") (by decide +kernel) look_ring (ring_gen hps ih q)
      by_cases w5 : w = "if"
      · subst w5
        have e : isTm (m + 1) (.tuple (.str "if" :: ps)) = (decide (ps.length = 3) && ps.all (isTm m)) := by
          unfold isTm
          rw [if_neg (by decide +kernel), if_neg (by decide +kernel), if_neg (by decide +kernel), if_neg (by decide +kernel), if_pos rfl]
        rw [e] at q
        exact within_step (by omega) (y := "is_three") (by decide +kernel) look_three (three_gen hl ihs q)
      by_cases w6 : w = "add" ∨ w = "less" ∨ w = "times" ∨ w = "under"
      · have e : isTm (m + 1) (.tuple (.str w :: ps)) = (decide (ps.length = 2) && ps.all (isTm m)) := by
          unfold isTm
          rw [if_neg w1, if_neg w2, if_neg w3, if_neg w4, if_neg w5, if_pos w6]
        rw [e] at q
        have tb : txLook tbl_TERM_FORMS w = some "is_two" := by
          rcases w6 with rfl | rfl | rfl | rfl <;> decide +kernel
        exact within_step (by omega) tb look_two (two_gen hl ihs q)
      · have e : isTm (m + 1) (.tuple (.str w :: ps)) = false := by
          unfold isTm
          rw [if_neg w1, if_neg w2, if_neg w3, if_neg w4, if_neg w5, if_neg w6]
        rw [e] at q
        simp only [not_or] at w6
        obtain ⟨w6, w7, w8, w9⟩ := w6
        refine within_none ?_ q
        unfold tbl_TERM_FORMS
        simp only [txLook]
        rw [if_neg (Ne.symm w1), if_neg (Ne.symm w2), if_neg (Ne.symm w6), if_neg (Ne.symm w7), if_neg (Ne.symm w8), if_neg (Ne.symm w9), if_neg (Ne.symm w5), if_neg (Ne.symm w3), if_neg (Ne.symm w4)]
    · refine no ?_ fun w ps e => hs ⟨w, ps, e⟩
      cases d with
      | tuple ds =>
        cases ds with
        | nil => rfl
        | cons x r => cases x <;> first | rfl | exact (hs ⟨_, _, rfl⟩).elim
      | _ => rfl
theorem is_term_gen {d : DL.D} (h : Pl d) {k : Bool → DL.D → Prop} (q : k false (.bool (isTm 8 d))) : W_is_term [d] k := by
  unfold W_is_term m_is_term
  walk_at "ev"
  exact is_gen 9 8 d _ (by omega) h q

/-! ### clean data -/
theorem lc_mapG {α : Type} {g : GMn} {te : M DL.D} {vs : List Nat} {k : List DL.D → List Slot → Prop} {ρ : List Slot} (dat f : α → DL.D) (st : α → List Slot) (hg : ∀ x (kk : List Slot → Prop), kk (st x) → g (dat x) ρ kk) (hw : ∀ x, wipeS (st x) vs = ρ) (hρ : wipeS ρ vs = ρ) :
    ∀ (xs : List α) (acc : List DL.D), acc.length + xs.length ≤ 1000000 → (∀ x ∈ xs, ∀ kk : DL.D → List Slot → Prop, kk (f x) (st x) → te (st x) kk) → k (acc ++ xs.map f) ρ → lcLoop g (mPure true) te vs k (xs.map dat) acc ρ
  | [], acc, _, _, q => by
    rw [List.map_nil, lcLoop_nil, hρ]
    simpa using q
  | x :: xs, acc, hl, h, q => by
    rw [List.length_cons] at hl
    have ih := lc_mapG (te := te) (k := k) dat f st hg hw hρ xs (acc ++ [f x]) (by rw [List.length_append, List.length_singleton]; omega) (fun y hy => h y (by simp [hy])) (by simpa using q)
    rw [List.map_cons, lcLoop_cons]
    refine hg x _ ?_
    show te (st x) _
    refine h x (by simp) _ ⟨Nat.lt_of_lt_of_le (by omega) (len_line (n := 1000001) (by decide)), ?_⟩
    rw [hw]
    exact ih
def Cl : Nat → DL.D → Prop
  | 0, _ => False
  | _ + 1, .none => True
  | _ + 1, .bool _ => True
  | _ + 1, .int _ => True
  | _ + 1, .str x => PyData.strOk x = true
  | n + 1, .list ds => ds.length ≤ 1000000 ∧ ∀ d ∈ ds, Cl n d
  | n + 1, .tuple ds => ds.length ≤ 1000000 ∧ ∀ d ∈ ds, Cl n d
  | _ + 1, .dict _ => False
theorem cl_up : ∀ (n : Nat) (d : DL.D), Cl n d → Cl (n + 1) d
  | 0, _, h => h.elim
  | n + 1, d, h => by
    cases d with
    | none => trivial
    | bool b => trivial
    | int i => trivial
    | str x => exact h
    | list ds => exact ⟨h.1, fun d hd => cl_up n d (h.2 d hd)⟩
    | tuple ds => exact ⟨h.1, fun d hd => cl_up n d (h.2 d hd)⟩
    | dict l => exact h.elim
theorem zip_self (ds : List DL.D) : zipD ds ds = ds.map fun d => .tuple [d, d] := by
  unfold zipD
  induction ds with
  | nil => rfl
  | cons d ds ih => rw [List.zip_cons_cons, List.map_cons, ih]; rfl
theorem bools_true {α : Type} (xs : List α) : boolsOf (xs.map fun _ => .bool true) = some (xs.map fun _ => true) := by
  induction xs with
  | nil => rfl
  | cons x xs ih =>
    show (boolsOf (xs.map fun _ => .bool true)).map _ = _
    rw [ih]; rfl
theorem all_true {α : Type} {xs : List α} {k : DL.D → Prop} (q : k (.bool true)) : allD [.list (xs.map fun _ => .bool true)] k := ⟨_, bools_true xs, by rw [show (xs.map fun _ => true).all id = true by simp]; exact q⟩

/-! ### what is a term, clause by clause -/
theorem strip_empty (x y : Str) : (Txt.stripChars x y == ("" : Str)) = x.cps.toList.all fun c => decide (c ∈ y.cps.toList) := by
  have e : Txt.stripChars x y = Builtin.Str.strSub x (stripLo y.cps.contains true x) (stripHi y.cps.contains true x (stripLo y.cps.contains true x)) := PyProof.Rows.stripBy_eq _ _ _ _
  obtain ⟨l1, l2, l3⟩ := PyProof.Rows.lo_facts y.cps.contains x
  obtain ⟨h1, h2, h3, h4⟩ := PyProof.Rows.hi_facts y.cps.contains x _ l1
  generalize stripLo y.cps.contains true x = lo at *
  generalize stripHi y.cps.contains true x lo = hi at *
  have cn : ∀ c, y.cps.contains c = decide (c ∈ y.cps.toList) := fun c => by
    rw [Bool.eq_iff_iff]; simp
  have len : (Builtin.Str.strSub x lo hi).length = hi - lo := by
    show (x.cps.extract lo hi).size = _
    have : hi ≤ x.cps.size := h2
    rw [Array.size_extract]; omega
  have emp : ∀ z : Str, (z == ("" : Str)) = decide (z.length = 0) := fun z => by
    rw [Bool.eq_iff_iff, beq_iff_eq, decide_eq_true_eq]
    constructor
    · rintro rfl; rfl
    · intro h
      obtain ⟨a⟩ := z
      have : a = #[] := Array.eq_empty_of_size_eq_zero h
      rw [this]; rfl
  rw [e, emp, len]
  have at_ : ∀ k, k < x.length → x.cps.getD k 0 ∈ x.cps.toList := fun k hk => by
    have hk : k < x.cps.size := hk
    rw [Array.getD_eq_getD_getElem?, Array.getElem?_eq_getElem hk]
    simp
  rw [Bool.eq_iff_iff, decide_eq_true_eq, List.all_eq_true]
  constructor
  · intro hz c hc
    have hlh : hi = lo := by omega
    have lo_all : lo = x.length := by
      rcases l3 with h | h
      · exact h
      · by_cases hl : lo < x.length
        · have := h3 lo (by omega) hl
          rw [h] at this; cases this
        · omega
    obtain ⟨k, hk, rfl⟩ := List.getElem_of_mem hc
    have hk' : k < x.length := by rw [Array.length_toList] at hk; exact hk
    have := l2 k (by omega)
    rw [cn] at this
    have e : x.cps.getD k 0 = x.cps.toList[k] := by
      have hk2 : k < x.cps.size := hk'
      rw [Array.getD_eq_getD_getElem?, Array.getElem?_eq_getElem hk2]
      exact (Array.getElem_toList hk2).symm
    rwa [e] at this
  · intro h
    rcases l3 with h' | h'
    · omega
    · by_cases hl : lo < x.length
      · have := h _ (at_ lo hl)
        rw [cn, this] at h'; cases h'
      · omega
theorem strip_ok {x y : Str} (h : PyData.strOk x = true) : PyData.strOk (Txt.stripChars x y) = true := by
  have e : Txt.stripChars x y = Builtin.Str.strSub x (stripLo y.cps.contains true x) (stripHi y.cps.contains true x (stripLo y.cps.contains true x)) := PyProof.Rows.stripBy_eq _ _ _ _
  rw [e]
  refine okC.mpr fun c hc => okC.mp h c ?_
  have hc : c ∈ (x.cps.extract _ _).toList := hc
  rw [Array.toList_extract] at hc
  exact List.mem_of_mem_drop (List.mem_of_mem_take hc)
theorem lmark_gen {d : DL.D} (h : Pl d) {k : Bool → DL.D → Prop} (q : k false (.bool (markB d))) : W__law_is_a_mark [d] k := by
  unfold W__law_is_a_mark m__law_is_a_mark
  walk_at "ev"
  cases h with
  | none => exact ⟨rfl, q⟩
  | bool b => exact ⟨rfl, q⟩
  | int i => exact ⟨rfl, q⟩
  | list a b => exact ⟨rfl, q⟩
  | tuple a b => exact ⟨rfl, q⟩
  | @str w hl ok =>
    refine ⟨rfl, ?_⟩
    rw [if_neg (show ¬ ((!isiD "str" (PyData.str w)) = true) from Bool.false_ne_true)]
    walk_at "ev"
    refine ⟨len_line (by omega), ?_⟩
    unfold markB at q
    dsimp only at q
    by_cases h6 : w.length = 6
    · rw [decide_eq_true h6] at q
      rw [decide_eq_true (by omega : ((w.length : Nat) : Int) = 6), if_neg (by decide)]
      show stripD w _ _
      refine ⟨len_line (by omega), ?_⟩
      dsimp only
      rw [eqD_ss]
      refine ⟨⟨strip_ok ok, by decide +kernel⟩, ?_⟩
      rw [strip_empty]
      exact q
    · rw [decide_eq_false h6] at q
      rw [decide_eq_false (by omega : ¬ ((w.length : Nat) : Int) = 6), if_pos (by rfl)]
      exact q
theorem lbelow_gen {m : Nat} {d : DL.D} (h : Pl d) {k : Bool → DL.D → Prop} (q : k false (.bool (belowB m d))) : W__law_is_below [d, .int (m : Nat)] k := by
  unfold W__law_is_below m__law_is_below
  walk_at "ev"
  cases h with
  | none => exact ⟨rfl, q⟩
  | bool b => exact ⟨rfl, rfl, q⟩
  | str a b => exact ⟨rfl, q⟩
  | list a b => exact ⟨rfl, q⟩
  | tuple a b => exact ⟨rfl, q⟩
  | int i =>
    refine ⟨rfl, ?_⟩
    show ndD (.int i) = true ∧ _
    refine ⟨rfl, ?_⟩
    rw [show isiD "bool" (.int i) = false from rfl]
    walk_at "ev"
    unfold belowB at q
    dsimp only at q
    cases h0 : decide (0 ≤ i) with
    | false => rw [h0] at q; exact q
    | true => rw [h0] at q; exact q
theorem pl_lay {d : DL.D} (h : Pl d) : d.canLay0 = true := by
  have all : ∀ ds : List DL.D, (∀ d ∈ ds, d.canLay0 = true) → PyData.canLayAll0 ds = true := by
    intro ds
    induction ds with
    | nil => intro _; rfl
    | cons x xs ih =>
      intro h
      show (x.canLay0 && PyData.canLayAll0 xs) = true
      rw [h x (by simp), ih fun d hd => h d (by simp [hd])]; rfl
  induction h with
  | none => rfl
  | bool b => rfl
  | int i => rfl
  | str a b => exact b
  | list a b ih => exact all _ ih
  | tuple a b ih => exact all _ ih
theorem depth_mem : ∀ {ds : List DL.D} {d : DL.D}, d ∈ ds → d.depth ≤ PyData.depthAll ds
  | x :: ds, d, h => by
    show d.depth ≤ max x.depth (PyData.depthAll ds)
    rcases List.mem_cons.mp h with rfl | h
    · omega
    · have := depth_mem h; omega
theorem lall_gen {self : FS} {ds : List DL.D} {f : DL.D → Bool} {s0 : Slot} {i : Int} {kk : DL.D → Prop} (hl : ds.length ≤ 100000) (h : ∀ d ∈ ds, ∀ k : Bool → DL.D → Prop, k false (.bool (f d)) → self [d, .int (i - 1)] k) (q : kk (.bool (ds.all f))) :
    lcLoop (gVar 3) (mPure true) (E1__law_is_a_term self) [3] (fun ds ρ1 => allD [PyData.list ds] kk) ds [] [s0, .dat (.int i), .dat (.tuple ds), .non] := by
  have e : ds = ds.map id := by simp
  refine Eq.mp (congrArg (fun xs => lcLoop (gVar 3) (mPure true) (E1__law_is_a_term self) [3] _ xs [] [s0, .dat (.int i), .dat (.tuple ds), .non]) e.symm) ?_
  refine lc_map (ρ := [s0, .dat (.int i), .dat (.tuple ds), .non]) rfl id (fun d => .bool (f d)) ds [] (by simp; omega) (fun t ht kk hk => ?_) ?_
  · unfold E1__law_is_a_term
    walk_at "ev"
    exact h t ht _ hk
  · exact all_bs q
theorem isTm_num {m : Nat} {ps : List DL.D} : isTm (m + 1) (.tuple (.str "num" :: ps)) = numB 1000003 ps := by unfold isTm; rw [if_pos rfl]
theorem isTm_arg {m : Nat} {ps : List DL.D} : isTm (m + 1) (.tuple (.str "arg" :: ps)) = numB 4 ps := by unfold isTm; rw [if_neg (by decide +kernel), if_pos rfl]
theorem isTm_call {m : Nat} {ps : List DL.D} : isTm (m + 1) (.tuple (.str "call" :: ps)) = partsB markB (isTm m) ps := by unfold isTm; rw [if_neg (by decide +kernel), if_neg (by decide +kernel), if_pos rfl]
theorem isTm_ring {m : Nat} {ps : List DL.D} : isTm (m + 1) (.tuple (.str "ring" :: ps)) = partsB (belowB 12) (isTm m) ps := by unfold isTm; rw [if_neg (by decide +kernel), if_neg (by decide +kernel), if_neg (by decide +kernel), if_pos rfl]
theorem isTm_if {m : Nat} {ps : List DL.D} : isTm (m + 1) (.tuple (.str "if" :: ps)) = (decide (ps.length = 3) && ps.all (isTm m)) := by unfold isTm; rw [if_neg (by decide +kernel), if_neg (by decide +kernel), if_neg (by decide +kernel), if_neg (by decide +kernel), if_pos rfl]
theorem isTm_two {m : Nat} {w : Str} {ps : List DL.D} (h : w = "add" ∨ w = "less" ∨ w = "times" ∨ w = "under") : isTm (m + 1) (.tuple (.str w :: ps)) = (decide (ps.length = 2) && ps.all (isTm m)) := by
  have ne : w ≠ "num" ∧ w ≠ "arg" ∧ w ≠ "call" ∧ w ≠ "ring" ∧ w ≠ "if" := by rcases h with rfl | rfl | rfl | rfl <;> decide +kernel
  obtain ⟨n1, n2, n3, n4, n5⟩ := ne
  unfold isTm
  rw [if_neg n1, if_neg n2, if_neg n3, if_neg n4, if_neg n5, if_pos h]
theorem isTm_no {m : Nat} {w : Str} {ps : List DL.D} (n1 : w ≠ "num") (n2 : w ≠ "arg") (n3 : w ≠ "call") (n4 : w ≠ "ring") (n5 : w ≠ "if") (h : ¬ (w = "add" ∨ w = "less" ∨ w = "times" ∨ w = "under")) : isTm (m + 1) (.tuple (.str w :: ps)) = false := by
  unfold isTm
  rw [if_neg n1, if_neg n2, if_neg n3, if_neg n4, if_neg n5, if_neg h]
theorem slTail {a : DL.D} {ds : List DL.D} {k : DL.D → Prop} : slD (.tuple (a :: ds)) (some 1) none k = k (.tuple ds) := by
  show k (.tuple (cutL (a :: ds) (some 1) none)) = _
  rw [cut1]
def litN : List (Str × Int) := [("num", 1000003), ("arg", 4)]
def litO : List (Str × Int) := [("add", 2), ("less", 2), ("times", 2), ("under", 2), ("if", 3)]
theorem litO_of {w : Str} (n5 : w ≠ "if") (h : ¬ (w = "add" ∨ w = "less" ∨ w = "times" ∨ w = "under")) : litO.find? (fun kv => decide (kv.1 = w)) = none := by
  simp only [not_or] at h
  obtain ⟨a, b, c, d⟩ := h
  unfold litO
  simp only [List.find?_cons, List.find?_nil, decide_eq_false (Ne.symm a), decide_eq_false (Ne.symm b), decide_eq_false (Ne.symm c), decide_eq_false (Ne.symm d), decide_eq_false (Ne.symm n5)]
theorem lterm_gen : ∀ (fuel m : Nat) (d : DL.D) (k : Bool → DL.D → Prop), m + 1 ≤ fuel → Pl d → d.depth ≤ 60 → k false (.bool (isTm m d)) → W__law_is_a_term fuel [d, .int (m : Nat)] k
  | 0, m, d, _, h, _, _, _ => absurd h (by omega)
  | fuel + 1, 0, d, k, _, hd, _, q => by
    unfold W__law_is_a_term m__law_is_a_term
    walk_at "ev"
    rw [if_pos (by omega)]
    exact q
  | fuel + 1, m + 1, d, k, hf, hd, d6, q => by
    have ih : ∀ d, Pl d → d.depth ≤ 60 → ∀ k : Bool → DL.D → Prop, k false (.bool (isTm m d)) → W__law_is_a_term fuel [d, .int (((m + 1 : Nat) : Int) - 1)] k := fun d h h6 k hk => by
      rw [show (((m + 1 : Nat) : Int) - 1) = ((m : Nat) : Int) by omega]
      exact lterm_gen fuel m d k (by omega) h h6 hk
    have lay := pl_lay hd
    unfold W__law_is_a_term m__law_is_a_term mGetI mIfT
    walk_at "ev"
    rw [if_neg (by omega)]
    cases hd with
    | none => exact ⟨rfl, q⟩
    | bool b => exact ⟨rfl, q⟩
    | int i => exact ⟨rfl, q⟩
    | str a b => exact ⟨rfl, q⟩
    | list a b => exact ⟨rfl, q⟩
    | @tuple ds a b =>
      refine ⟨rfl, ?_⟩
      rw [if_neg (show ¬ ((!isiD "tuple" (PyData.tuple ds)) = true) from Bool.false_ne_true)]
      have d6' : PyData.depthAll ds + 1 ≤ 60 := d6
      refine ⟨Nat.zero_le _, ⟨Bool.and_eq_true_iff.mpr ⟨lay, decide_eq_true (by omega)⟩, rfl⟩, ?_⟩
      cases ds with
      | nil => exact q
      | cons x r =>
        rw [show PyData.eqv (.tuple (x :: r)) (.tuple []) = false from rfl]
        walk_at "ev"
        have hx := b x (by simp)
        have hr : ∀ d ∈ r, Pl d := fun d h => b d (by simp [h])
        have hr6 : ∀ d ∈ r, d.depth ≤ 60 := fun d h => by have := depth_mem (ds := x :: r) (d := d) (by simp [h]); omega
        have rl : r.length ≤ 100000 := by rw [List.length_cons] at a; omega
        cases hx with
        | none => exact ⟨rfl, q⟩
        | bool b => exact ⟨rfl, q⟩
        | int i => exact ⟨rfl, q⟩
        | list a b => exact ⟨rfl, q⟩
        | tuple a b => exact ⟨rfl, q⟩
        | @str w wl wok =>
          refine ⟨rfl, ?_⟩
          rw [if_neg (show ¬ ((!isiD "str" (PyData.str w)) = true) from Bool.false_ne_true)]
          refine ⟨len_line (by decide), ?_⟩
          rw [inD_two]
          by_cases w1 : w = "num"
          · subst w1
            rw [isTm_num] at q
            rw [beq_self_eq_true, Bool.true_or]
            walk_at "ev"
            match r, hr, q with
            | [], _, q => exact q
            | a :: b :: c, _, q =>
              rw [decide_eq_false (by simp; omega)]; exact q
            | [a], hr, q =>
              rw [decide_eq_true (by simp)]
              dsimp only
              refine ⟨_, at1, ⟨litN, 1000003, rfl, by decide +kernel, ?_⟩⟩
              exact lbelow_gen (m := 1000003) (hr a (by simp)) q
          by_cases w2 : w = "arg"
          · subst w2
            rw [isTm_arg] at q
            rw [beq_self_eq_true, Bool.or_true]
            walk_at "ev"
            match r, hr, q with
            | [], _, q => exact q
            | a :: b :: c, _, q =>
              rw [decide_eq_false (by simp; omega)]; exact q
            | [a], hr, q =>
              rw [decide_eq_true (by simp)]
              dsimp only
              refine ⟨_, at1, ⟨litN, 4, rfl, by decide +kernel, ?_⟩⟩
              exact lbelow_gen (m := 4) (hr a (by simp)) q
          rw [beq_eq_false_iff_ne.mpr (Ne.symm w1), beq_eq_false_iff_ne.mpr (Ne.symm w2)]
          rw [Bool.or_self]
          dsimp only
          rw [if_neg (by decide), slTail]
          refine ⟨len_line (by decide), ?_⟩
          rw [inD_two]
          by_cases w3 : w = "call"
          · subst w3
            rw [isTm_call] at q
            rw [beq_self_eq_true, Bool.true_or]
            walk_at "ev"
            match r, hr, hr6, rl, q with
            | [], _, _, _, q => rw [if_pos (by decide)]; exact q
            | [a], _, _, _, q => rw [if_pos (by simp)]; exact q
            | a :: b :: c :: e, _, _, _, q =>
              rw [if_pos (by rw [decide_eq_false (by simp; omega)]; rfl)]
              have e : ∀ (g f : DL.D → Bool), partsB g f (a :: b :: c :: e) = false := fun g f => by cases b <;> rfl
              rw [e] at q
              exact q
            | [a, t], hr, hr6, _, q =>
              rw [if_neg (by simp)]
              refine ⟨t, at2, ?_⟩
              have ht := hr t (by simp)
              have h6 := hr6 t (by simp)
              cases ht with
              | none => exact ⟨rfl, q⟩
              | bool b => exact ⟨rfl, q⟩
              | int i => exact ⟨rfl, q⟩
              | str a b => exact ⟨rfl, q⟩
              | list a b => exact ⟨rfl, q⟩
              | @tuple qs al ab =>
                refine ⟨rfl, ?_⟩
                rw [if_neg (show ¬ ((!isiD "tuple" (PyData.tuple qs)) = true) from Bool.false_ne_true)]
                refine ⟨_, at2, ?_⟩
                walk_at "ev"
                have kids : ∀ d ∈ qs, d.depth ≤ 60 := fun d h => by
                  have h1 := depth_mem h
                  have h2 : PyData.depthAll qs + 1 ≤ 60 := h6
                  omega
                have e : partsB markB (isTm m) [a, .tuple qs] = (markB a && (decide (qs.length ≤ 4) && qs.all (isTm m))) := rfl
                rw [e] at q
                by_cases h4 : qs.length ≤ 4
                · rw [decide_eq_true h4] at q
                  rw [if_neg (by omega)]
                  refine ⟨⟨by decide +kernel, by decide +kernel⟩, ?_⟩
                  rw [beq_self_eq_true, if_pos rfl]
                  refine lmark_gen (hr a (by simp)) ?_
                  cases em : markB a with
                  | false => rw [em] at q; exact q
                  | true =>
                    rw [em] at q
                    exact lall_gen (f := isTm m) (kk := fun d => k false d) al (fun d hd k hk => ih d (ab d hd) (kids d hd) k hk) q
                · rw [decide_eq_false h4, Bool.false_and, Bool.and_false] at q
                  rw [if_pos (by omega)]
                  exact q
          by_cases w4 : w = "ring"
          · subst w4
            rw [isTm_ring] at q
            rw [beq_self_eq_true, Bool.or_true]
            walk_at "ev"
            match r, hr, hr6, rl, q with
            | [], _, _, _, q => rw [if_pos (by decide)]; exact q
            | [a], _, _, _, q => rw [if_pos (by simp)]; exact q
            | a :: b :: c :: e, _, _, _, q =>
              rw [if_pos (by rw [decide_eq_false (by simp; omega)]; rfl)]
              have e : ∀ (g f : DL.D → Bool), partsB g f (a :: b :: c :: e) = false := fun g f => by cases b <;> rfl
              rw [e] at q
              exact q
            | [a, t], hr, hr6, _, q =>
              rw [if_neg (by simp)]
              refine ⟨t, at2, ?_⟩
              have ht := hr t (by simp)
              have h6 := hr6 t (by simp)
              cases ht with
              | none => exact ⟨rfl, q⟩
              | bool b => exact ⟨rfl, q⟩
              | int i => exact ⟨rfl, q⟩
              | str a b => exact ⟨rfl, q⟩
              | list a b => exact ⟨rfl, q⟩
              | @tuple qs al ab =>
                refine ⟨rfl, ?_⟩
                rw [if_neg (show ¬ ((!isiD "tuple" (PyData.tuple qs)) = true) from Bool.false_ne_true)]
                refine ⟨_, at2, ?_⟩
                walk_at "ev"
                have kids : ∀ d ∈ qs, d.depth ≤ 60 := fun d h => by
                  have h1 := depth_mem h
                  have h2 : PyData.depthAll qs + 1 ≤ 60 := h6
                  omega
                have e : partsB (belowB 12) (isTm m) [a, .tuple qs] = ((belowB 12) a && (decide (qs.length ≤ 4) && qs.all (isTm m))) := rfl
                rw [e] at q
                by_cases h4 : qs.length ≤ 4
                · rw [decide_eq_true h4] at q
                  rw [if_neg (by omega)]
                  refine ⟨⟨by decide +kernel, by decide +kernel⟩, ?_⟩
                  rw [show (("ring" : Str) == "call") = false from by decide +kernel, if_neg (by decide)]
                  refine lbelow_gen (m := 12) (hr a (by simp)) ?_
                  cases em : belowB 12 a with
                  | false => rw [em] at q; exact q
                  | true =>
                    rw [em] at q
                    exact lall_gen (f := isTm m) (kk := fun d => k false d) al (fun d hd k hk => ih d (ab d hd) (kids d hd) k hk) q
                · rw [decide_eq_false h4, Bool.false_and, Bool.and_false] at q
                  rw [if_pos (by omega)]
                  exact q
          rw [beq_eq_false_iff_ne.mpr (Ne.symm w3), beq_eq_false_iff_ne.mpr (Ne.symm w4), Bool.or_self]
          dsimp only
          rw [if_neg (by decide)]
          unfold mNeg
          walk_at "ev"
          refine ⟨litO, rfl, w, -1, rfl, rfl, ?_⟩
          have all_ : isTm (m + 1) (.tuple (.str w :: r)) = (decide (((r.length : Nat) : Int) = (Option.map (fun x => x.snd) (litO.find? fun kv => decide (kv.fst = w))).getD (-1)) && r.all (isTm m)) := by
            by_cases w5 : w = "if"
            · subst w5
              rw [isTm_if, show (litO.find? fun kv => decide (kv.fst = ("if" : Str))) = some (("if" : Str), (3 : Int)) from by decide +kernel]
              congr 1
              rw [decide_eq_decide]
              show r.length = 3 ↔ ((r.length : Nat) : Int) = 3
              omega
            · by_cases w6 : w = "add" ∨ w = "less" ∨ w = "times" ∨ w = "under"
              · rw [isTm_two w6]
                have f : (Option.map (fun x => x.snd) (litO.find? fun kv => decide (kv.fst = w))).getD (-1) = 2 := by
                  rcases w6 with rfl | rfl | rfl | rfl <;> decide +kernel
                rw [f]
                congr 1
                rw [decide_eq_decide]
                omega
              · rw [isTm_no w1 w2 w3 w4 w5 w6, litO_of w5 w6]
                show false = (decide (((r.length : Nat) : Int) = -1) && _)
                rw [decide_eq_false (by omega)]; rfl
          rw [all_] at q
          cases hc : decide (((r.length : Nat) : Int) = (Option.map (fun x => x.snd) (litO.find? fun kv => decide (kv.fst = w))).getD (-1)) with
          | false =>
            rw [hc] at q
            exact q
          | true =>
            rw [hc] at q
            exact lall_gen rl (fun d hd k hk => ih d (hr d hd) (hr6 d hd) k hk) q

/-! ### draws -/
theorem take_spec {n : Nat} {bs : List DL.D} {size : Int} {k : Bool → DL.D → List DL.D → Prop} (h : Bx n bs) (hn : n < CAP) (hs : 1 ≤ size) (hs2 : size ≤ 10000000)
    (q : ∀ r bs', 0 ≤ r → r < size → Bx (n + 1) bs' → k false (.int r) bs') : W__law_take bs [.int size] k := by
  obtain ⟨a, b, c, rfl, ha, hb, hb2, hc, hc2⟩ := h
  unfold CAP at hn
  unfold W__law_take m__law_take
  walk_at "ev"
  have m1 : ∀ i : Int, 0 ≤ i % 2147483587 ∧ i % 2147483587 < 2147483587 := fun i => ⟨Int.emod_nonneg _ (by decide), Int.emod_lt_of_pos _ (by decide)⟩
  have m2 : ∀ i : Int, 0 ≤ i % 2147483563 ∧ i % 2147483563 < 2147483563 := fun i => ⟨Int.emod_nonneg _ (by decide), Int.emod_lt_of_pos _ (by decide)⟩
  split
  · rename_i h0
    exact ⟨⟨by omega, by omega⟩, q _ _ (Int.emod_nonneg _ (by omega)) (Int.emod_lt_of_pos _ (by omega)) ⟨_, _, _, rfl, Int.ediv_nonneg ha (by omega), hb, hb2, hc, by omega⟩⟩
  · refine ⟨⟨by decide, by decide, by decide⟩, ?_⟩
    rw [if_neg (by rw [show ((10 : Int) ^ Int.toNat 7) = 10000000 by decide]; omega)]
    refine ⟨cmul_l (by omega) (by omega), cmul_l (by decide) (by decide), cmul_l (by omega) (by omega), by decide, by decide, ?_, by decide, by decide, ?_, by decide, ⟨by decide, by decide⟩, by omega, ?_⟩
    · exact cmul_l (m1 _).1 (by have := (m1 ((b + 39373 * (c + 1)) * (69621 + (c + 1) * (c + 1)))).2; omega)
    · exact cmul_l (m2 _).1 (Int.lt_trans (m2 _).2 (by decide))
    · exact q _ _ (Int.emod_nonneg _ (by omega)) (Int.emod_lt_of_pos _ (by omega)) ⟨_, _, _, rfl, ha, hb, hb2, by omega, by omega⟩

/-! ### unlike terms have unlike texts, and are unlike data -/
def stops : List Nat := [36, 39, 40]
/-- where a word ends -/
def Stop (post : List Nat) : Prop := post = [] ∨ ∃ i r, post = i :: r ∧ i ∈ stops
theorem no_stop_ten (n : Nat) : ∀ i ∈ ten n, i ∉ stops := fun i hi z => by
  have : ∀ i, i < 10 → i ∉ stops := by decide
  exact this i (ten_lt n i hi) z
theorem no_stop_head {h : Hed} {k : Nat} (f : h.fit k) : ∀ i ∈ h.txt, i ∉ stops := by
  have low : ∀ i, i < 36 → i ∉ stops := by decide
  cases h with
  | num n => exact no_stop_ten n
  | arg n =>
    intro i hi
    have : i = 10 + n := by simpa [Hed.txt] using hi
    exact low i (by have := f.1; omega)
  | op w => exact fun i hi => low i ((opL_ok w f.1).2.1 i hi).2
  | call m =>
    intro i hi
    rcases List.mem_cons.mp hi with rfl | hi
    · decide
    · exact low i (f.2.1 i hi)
  | ring p =>
    intro i hi
    rcases List.mem_cons.mp hi with rfl | hi
    · decide
    · exact no_stop_ten p i hi
theorem word_split : ∀ {w w' r r' : List Nat}, w ++ r = w' ++ r' → (∀ i ∈ w, i ∉ stops) → (∀ i ∈ w', i ∉ stops) → Stop r → Stop r' → w = w' ∧ r = r'
  | [], [], _, _, e, _, _, _, _ => ⟨rfl, e⟩
  | [], i :: w', r, r', e, _, h', s, _ => by
    have e : r = i :: (w' ++ r') := e
    rcases s with rfl | ⟨j, q, rfl, hj⟩
    · cases e
    · cases e
      exact absurd hj (h' _ (by simp))
  | i :: w, [], r, r', e, h, _, _, s => by
    have e : i :: (w ++ r) = r' := e
    rcases s with rfl | ⟨j, q, rfl, hj⟩
    · cases e
    · cases e
      exact absurd hj (h _ (by simp))
  | i :: w, j :: w', r, r', e, h, h', s, s' => by
    have e : i :: (w ++ r) = j :: (w' ++ r') := e
    obtain ⟨rfl, e2⟩ := List.cons.inj e
    obtain ⟨rfl, rfl⟩ := word_split e2 (fun x hx => h x (by simp [hx])) (fun x hx => h' x (by simp [hx])) s s'
    exact ⟨rfl, rfl⟩
theorem opL_inj : ∀ w, w < 5 → ∀ v, v < 5 → opL w = opL v → w = v := by decide
theorem ten_inj {n m : Nat} (hn : n < 10000000) (hm : m < 10000000) (e : ten n = ten m) : n = m := by
  rw [← ten_val hn, ← ten_val hm, e]
theorem head_pos {h : Hed} {k : Nat} (f : h.fit k) : h.txt ≠ [] := by
  cases h with
  | num n => exact fun z => by have := ten_pos (n := n) (by have := f.1; omega); rw [show Hed.txt (.num n) = ten n from rfl] at z; rw [z] at this; exact absurd this (by decide)
  | arg n => exact fun z => nomatch z
  | op w => exact fun z => by have := (opL_ok w f.1).2.2.1; rw [show Hed.txt (.op w) = opL w from rfl] at z; rw [z] at this; exact absurd this (by decide)
  | call m => exact fun z => nomatch z
  | ring p => exact fun z => nomatch z
/-- which sort, by the first sign -/
theorem head_inj {h h' : Hed} {k k' : Nat} (f : h.fit k) (f' : h'.fit k') (e : h.txt = h'.txt) : h = h' := by
  have sort : ∀ (h : Hed) (k : Nat), h.fit k → ∀ i r, h.txt = i :: r → (match h with
      | .num _ => i < 10
      | .arg n => i = 10 + n ∧ r = []
      | .op w => 10 ≤ i ∧ i < 36 ∧ r ≠ []
      | .call m => i = 37 ∧ r = m
      | .ring p => i = 38 ∧ r = ten p) := by
    intro h k f i r e
    cases h with
    | num n => exact ten_lt n i (by rw [show ten n = Hed.txt (.num n) from rfl, e]; simp)
    | arg n => cases e; exact ⟨rfl, rfl⟩
    | op w =>
      have o := opL_ok w f.1
      have e : opL w = i :: r := e
      have hi := o.2.1 i (by rw [e]; simp)
      refine ⟨hi.1, hi.2, fun z => ?_⟩
      have := o.2.2.1
      rw [e, z, List.length_singleton] at this
      exact absurd this (by decide)
    | call m => cases e; exact ⟨rfl, rfl⟩
    | ring p => cases e; exact ⟨rfl, rfl⟩
  cases ht : h.txt with
  | nil => exact absurd ht (head_pos f)
  | cons i r =>
    have s := sort h k f i r ht
    have s' := sort h' k' f' i r (e ▸ ht)
    cases h with
    | num x =>
      cases h' with
      | num y => (have e : ten _ = ten _ := e; rw [ten_inj (by have := f.1; omega) (by have := f'.1; omega) e])
      | arg y => (exfalso; have h1 : i < 10 := s; have h2 := s'.1; have h2b := f'.1; omega)
      | op y => (exfalso; have h1 : i < 10 := s; have h2 := s'.1; have h2b := s'.2.1; omega)
      | call y => (exfalso; have h1 : i < 10 := s; have h2 := s'.1; omega)
      | ring y => (exfalso; have h1 : i < 10 := s; have h2 := s'.1; omega)
    | arg x =>
      cases h' with
      | num y => (exfalso; have h1 := s.1; have h1b := f.1; have h2 : i < 10 := s'; omega)
      | arg y => (have : 10 + x = 10 + y := s.1.symm.trans s'.1; rw [show x = y by omega])
      | op y => (exact absurd s.2 s'.2.2)
      | call y => (exfalso; have h1 := s.1; have h1b := f.1; have h2 := s'.1; omega)
      | ring y => (exfalso; have h1 := s.1; have h1b := f.1; have h2 := s'.1; omega)
    | op x =>
      cases h' with
      | num y => (exfalso; have h1 := s.1; have h1b := s.2.1; have h2 : i < 10 := s'; omega)
      | arg y => (exact absurd s'.2 s.2.2)
      | op y => (rw [opL_inj _ f.1 _ f'.1 e])
      | call y => (exfalso; have h1 := s.1; have h1b := s.2.1; have h2 := s'.1; omega)
      | ring y => (exfalso; have h1 := s.1; have h1b := s.2.1; have h2 := s'.1; omega)
    | call x =>
      cases h' with
      | num y => (exfalso; have h1 := s.1; have h2 : i < 10 := s'; omega)
      | arg y => (exfalso; have h1 := s.1; have h2 := s'.1; have h2b := f'.1; omega)
      | op y => (exfalso; have h1 := s.1; have h2 := s'.1; have h2b := s'.2.1; omega)
      | call y => (rw [← s.2, s'.2])
      | ring y => (exfalso; have h1 := s.1; have h2 := s'.1; omega)
    | ring x =>
      cases h' with
      | num y => (exfalso; have h1 := s.1; have h2 : i < 10 := s'; omega)
      | arg y => (exfalso; have h1 := s.1; have h2 := s'.1; have h2b := f'.1; omega)
      | op y => (exfalso; have h1 := s.1; have h2 := s'.1; have h2b := s'.2.1; omega)
      | call y => (exfalso; have h1 := s.1; have h2 := s'.1; omega)
      | ring y => (have e2 : ten _ = ten _ := s.2.symm.trans s'.2; rw [ten_inj (by have := f.1; omega) (by have := f'.1; omega) e2])
theorem txts_split {n : Nat} (ih : ∀ t t' : Te, ∀ r r' : List Nat, t.Ok → t'.Ok → t.deep ≤ n → t.txt ++ r = t'.txt ++ r' → Stop r → Stop r' → t = t' ∧ r = r') :
    ∀ (ps ps' : List Te) (r r' : List Nat), (∀ p ∈ ps, p.Ok ∧ p.deep ≤ n) → (∀ p ∈ ps', p.Ok) → Te.txts ps ++ 40 :: r = Te.txts ps' ++ 40 :: r' → ps = ps' ∧ r = r'
  | [], [], r, r', _, _, e => ⟨rfl, by have e : 40 :: r = 40 :: r' := e; exact (List.cons.inj e).2⟩
  | [], p :: ps', r, r', _, _, e => by
    rw [txts_cons] at e
    have e : 40 :: r = 36 :: (p.txt ++ Te.txts ps' ++ 40 :: r') := e
    exact absurd (List.cons.inj e).1 (by decide)
  | p :: ps, [], r, r', _, _, e => by
    rw [txts_cons] at e
    have e : 36 :: (p.txt ++ Te.txts ps ++ 40 :: r) = 40 :: r' := e
    exact absurd (List.cons.inj e).1 (by decide)
  | p :: ps, q :: ps', r, r', h, h', e => by
    have st : ∀ (ps : List Te) (r : List Nat), Stop (Te.txts ps ++ 40 :: r) := fun ps r => by
      cases ps with
      | nil => exact .inr ⟨40, r, rfl, by decide⟩
      | cons a b => exact .inr ⟨36, a.txt ++ Te.txts b ++ 40 :: r, by rw [txts_cons]; simp, by decide⟩
    rw [txts_cons, txts_cons] at e
    have e : 36 :: (p.txt ++ Te.txts ps ++ 40 :: r) = 36 :: (q.txt ++ Te.txts ps' ++ 40 :: r') := e
    have e2 := (List.cons.inj e).2
    rw [List.append_assoc, List.append_assoc] at e2
    obtain ⟨rfl, e3⟩ := ih p q _ _ (h p (by simp)).1 (h' q (by simp)) (h p (by simp)).2 e2 (st _ _) (st _ _)
    obtain ⟨rfl, rfl⟩ := txts_split ih ps ps' r r' (fun x hx => h x (by simp [hx])) (fun x hx => h' x (by simp [hx])) e3
    exact ⟨rfl, rfl⟩
theorem txt_split : ∀ (n : Nat) (t t' : Te) (r r' : List Nat), t.Ok → t'.Ok → t.deep ≤ n → t.txt ++ r = t'.txt ++ r' → Stop r → Stop r' → t = t' ∧ r = r'
  | 0, t, _, _, _, _, _, h, _, _, _ => by have := deep_pos t; omega
  | n + 1, .node h ps, .node h' ps', r, r', o, o', l, e, s, s' => by
    have f := o.fit
    have f' := o'.fit
    have leafp : ∀ (h : Hed) (ps : List Te), h.fit ps.length → h.isLeaf = true → ps = [] := fun h ps f hl => by
      cases h with
      | num n => exact List.eq_nil_of_length_eq_zero f.2
      | arg n => exact List.eq_nil_of_length_eq_zero f.2
      | op w => cases hl
      | call m => cases hl
      | ring p => cases hl
    have n39 : ∀ (h : Hed) (k : Nat) (r q : List Nat), h.fit k → h.txt ++ r ≠ 39 :: q := fun h k r q f z => by
      cases ht : h.txt with
      | nil => exact head_pos f ht
      | cons i w =>
        rw [ht] at z
        have z : i :: (w ++ r) = 39 :: q := z
        exact no_stop_head f i (by rw [ht]; simp) (by rw [(List.cons.inj z).1]; decide)
    have st : ∀ (ps : List Te) (r : List Nat), Stop (Te.txts ps ++ 40 :: r) := fun ps r => by
      cases ps with
      | nil => exact .inr ⟨40, r, rfl, by decide⟩
      | cons a b => exact .inr ⟨36, a.txt ++ Te.txts b ++ 40 :: r, by rw [txts_cons]; simp, by decide⟩
    have tx : ∀ (h : Hed) (ps : List Te) (r : List Nat), Te.txt (.node h ps) ++ r = if h.isLeaf then h.txt ++ r else 39 :: (h.txt ++ (Te.txts ps ++ 40 :: r)) := fun h ps r => by
      unfold Te.txt
      split <;> simp
    rw [tx, tx] at e
    by_cases hl : h.isLeaf = true
    · rw [if_pos hl] at e
      by_cases hl' : h'.isLeaf = true
      · rw [if_pos hl'] at e
        obtain ⟨e1, e2⟩ := word_split e (no_stop_head f) (no_stop_head f') s s'
        have e3 := head_inj f f' e1
        subst e3
        rw [leafp h ps f hl, leafp h ps' f' hl]
        exact ⟨rfl, e2⟩
      · rw [if_neg hl'] at e
        exact absurd e (n39 _ _ _ _ f)
    · rw [if_neg hl] at e
      by_cases hl' : h'.isLeaf = true
      · rw [if_pos hl'] at e
        exact absurd e.symm (n39 _ _ _ _ f')
      · rw [if_neg hl'] at e
        obtain ⟨e1, e2⟩ := word_split (List.cons.inj e).2 (no_stop_head f) (no_stop_head f') (st _ _) (st _ _)
        have e3 := head_inj f f' e1
        subst e3
        obtain ⟨rfl, rfl⟩ := txts_split (n := n) (fun t t' r r' o o' l e s s' => txt_split n t t' r r' o o' l e s s') ps ps' r r' (fun p hp => ⟨o.all p hp, deep_kids l p hp⟩) o'.all e2
        exact ⟨rfl, rfl⟩
theorem txt_inj {t t' : Te} (o : t.Ok) (o' : t'.Ok) (e : t.txt = t'.txt) : t = t' :=
  (txt_split t.deep t t' [] [] o o' (Nat.le_refl _) (by rw [e]) (.inl rfl) (.inl rfl)).1
/-! ### data -/
theorem opS_inj : ∀ w, w < 5 → ∀ v, v < 5 → (opS w == opS v) = true → w = v := by decide +kernel
theorem eqv_heads {x y : Str} {xs ys : List DL.D} (e : PyData.eqv (.tuple (.str x :: xs)) (.tuple (.str y :: ys)) = true) : (x == y) = true ∧ PyData.eqvAll xs ys = true :=
  Bool.and_eq_true_iff.mp (show ((x == y) && PyData.eqvAll xs ys) = true from e)
theorem eqv_dat : ∀ (n : Nat) (t t' : Te), t.Ok → t'.Ok → t.deep ≤ n → PyData.eqv t.dat t'.dat = true → t = t'
  | 0, t, _, _, _, h, _ => by have := deep_pos t; omega
  | n + 1, .node h ps, .node h' ps', o, o', l, e => by
    have f := o.fit
    have f' := o'.fit
    have all : ∀ (ps ps' : List Te), (∀ p ∈ ps, p.Ok ∧ p.deep ≤ n) → (∀ p ∈ ps', p.Ok) → PyData.eqvAll (Te.dats ps) (Te.dats ps') = true → ps = ps' := by
      intro ps
      induction ps with
      | nil => intro ps' _ _ e; cases ps' with | nil => rfl | cons a b => cases e
      | cons p ps ih =>
        intro ps' h h' e
        cases ps' with
        | nil => cases e
        | cons q ps' =>
          have e : (PyData.eqv p.dat q.dat && PyData.eqvAll (Te.dats ps) (Te.dats ps')) = true := e
          rw [Bool.and_eq_true] at e
          rw [eqv_dat n p q (h p (by simp)).1 (h' q (by simp)) (h p (by simp)).2 e.1, ih ps' (fun x hx => h x (by simp [hx])) (fun x hx => h' x (by simp [hx])) e.2]
    have kids := all ps ps' (fun p hp => ⟨o.all p hp, deep_kids l p hp⟩) o'.all
    have e : PyData.eqv (h.D (Te.dats ps)) (h'.D (Te.dats ps')) = true := e
    cases h with
    | num x =>
      cases h' with
      | num y => (
        have e1 := (Bool.and_eq_true_iff.mp (show ((("num" : Str) == ("num" : Str)) && ((((x : Nat) : Int) == ((y : Nat) : Int)) && true)) = true from e)).2
        rw [Bool.and_true, beq_iff_eq] at e1
        rw [show x = y by omega, (List.eq_nil_of_length_eq_zero f.2), (List.eq_nil_of_length_eq_zero f'.2)])
      | arg y => (have e1 : (("num" : Str) == ("arg" : Str)) = true := (eqv_heads e).1; rw [show (("num" : Str) == ("arg" : Str)) = false from (by decide +kernel)] at e1; cases e1)
      | op y => (have e1 : (("num" : Str) == opS y) = true := (eqv_heads e).1; rw [show (("num" : Str) == opS y) = false from (by rw [BEq.comm]; exact (opL_ok y f'.1).2.2.2.2.1)] at e1; cases e1)
      | call y => (have e1 : (("num" : Str) == ("call" : Str)) = true := (eqv_heads e).1; rw [show (("num" : Str) == ("call" : Str)) = false from (by decide +kernel)] at e1; cases e1)
      | ring y => (have e1 : (("num" : Str) == ("ring" : Str)) = true := (eqv_heads e).1; rw [show (("num" : Str) == ("ring" : Str)) = false from (by decide +kernel)] at e1; cases e1)
    | arg x =>
      cases h' with
      | num y => (have e1 : (("arg" : Str) == ("num" : Str)) = true := (eqv_heads e).1; rw [show (("arg" : Str) == ("num" : Str)) = false from (by decide +kernel)] at e1; cases e1)
      | arg y => (
        have e1 := (Bool.and_eq_true_iff.mp (show ((("arg" : Str) == ("arg" : Str)) && ((((x : Nat) : Int) == ((y : Nat) : Int)) && true)) = true from e)).2
        rw [Bool.and_true, beq_iff_eq] at e1
        rw [show x = y by omega, (List.eq_nil_of_length_eq_zero f.2), (List.eq_nil_of_length_eq_zero f'.2)])
      | op y => (have e1 : (("arg" : Str) == opS y) = true := (eqv_heads e).1; rw [show (("arg" : Str) == opS y) = false from (by rw [BEq.comm]; exact (opL_ok y f'.1).2.2.2.2.2.1)] at e1; cases e1)
      | call y => (have e1 : (("arg" : Str) == ("call" : Str)) = true := (eqv_heads e).1; rw [show (("arg" : Str) == ("call" : Str)) = false from (by decide +kernel)] at e1; cases e1)
      | ring y => (have e1 : (("arg" : Str) == ("ring" : Str)) = true := (eqv_heads e).1; rw [show (("arg" : Str) == ("ring" : Str)) = false from (by decide +kernel)] at e1; cases e1)
    | op x =>
      cases h' with
      | num y => (have e1 : (opS x == ("num" : Str)) = true := (eqv_heads e).1; rw [show (opS x == ("num" : Str)) = false from (opL_ok x f.1).2.2.2.2.1] at e1; cases e1)
      | arg y => (have e1 : (opS x == ("arg" : Str)) = true := (eqv_heads e).1; rw [show (opS x == ("arg" : Str)) = false from (opL_ok x f.1).2.2.2.2.2.1] at e1; cases e1)
      | op y => (
        have e1 := Bool.and_eq_true_iff.mp (show ((opS x == opS y) && PyData.eqvAll (Te.dats ps) (Te.dats ps')) = true from e)
        rw [opS_inj x f.1 y f'.1 e1.1, kids e1.2])
      | call y => (have e1 : (opS x == ("call" : Str)) = true := (eqv_heads e).1; rw [show (opS x == ("call" : Str)) = false from (opL_ok x f.1).2.2.2.2.2.2.1] at e1; cases e1)
      | ring y => (have e1 : (opS x == ("ring" : Str)) = true := (eqv_heads e).1; rw [show (opS x == ("ring" : Str)) = false from (opL_ok x f.1).2.2.2.2.2.2.2.1] at e1; cases e1)
    | call x =>
      cases h' with
      | num y => (have e1 : (("call" : Str) == ("num" : Str)) = true := (eqv_heads e).1; rw [show (("call" : Str) == ("num" : Str)) = false from (by decide +kernel)] at e1; cases e1)
      | arg y => (have e1 : (("call" : Str) == ("arg" : Str)) = true := (eqv_heads e).1; rw [show (("call" : Str) == ("arg" : Str)) = false from (by decide +kernel)] at e1; cases e1)
      | op y => (have e1 : (("call" : Str) == opS y) = true := (eqv_heads e).1; rw [show (("call" : Str) == opS y) = false from (by rw [BEq.comm]; exact (opL_ok y f'.1).2.2.2.2.2.2.1)] at e1; cases e1)
      | call y => (
        have e1 := (Bool.and_eq_true_iff.mp (show ((("call" : Str) == ("call" : Str)) && ((T x == T y) && (PyData.eqvAll (Te.dats ps) (Te.dats ps') && true))) = true from e)).2
        have e2 := Bool.and_eq_true_iff.mp e1
        rw [T_inj (fun i hi => Nat.lt_trans (f.2.1 i hi) (by decide)) (fun i hi => Nat.lt_trans (f'.2.1 i hi) (by decide)) (beq_iff_eq.mp e2.1), kids (by have := e2.2; rwa [Bool.and_true] at this)])
      | ring y => (have e1 : (("call" : Str) == ("ring" : Str)) = true := (eqv_heads e).1; rw [show (("call" : Str) == ("ring" : Str)) = false from (by decide +kernel)] at e1; cases e1)
    | ring x =>
      cases h' with
      | num y => (have e1 : (("ring" : Str) == ("num" : Str)) = true := (eqv_heads e).1; rw [show (("ring" : Str) == ("num" : Str)) = false from (by decide +kernel)] at e1; cases e1)
      | arg y => (have e1 : (("ring" : Str) == ("arg" : Str)) = true := (eqv_heads e).1; rw [show (("ring" : Str) == ("arg" : Str)) = false from (by decide +kernel)] at e1; cases e1)
      | op y => (have e1 : (("ring" : Str) == opS y) = true := (eqv_heads e).1; rw [show (("ring" : Str) == opS y) = false from (by rw [BEq.comm]; exact (opL_ok y f'.1).2.2.2.2.2.2.2.1)] at e1; cases e1)
      | call y => (have e1 : (("ring" : Str) == ("call" : Str)) = true := (eqv_heads e).1; rw [show (("ring" : Str) == ("call" : Str)) = false from (by decide +kernel)] at e1; cases e1)
      | ring y => (
        have e1 := (Bool.and_eq_true_iff.mp (show ((("ring" : Str) == ("ring" : Str)) && ((((x : Nat) : Int) == ((y : Nat) : Int)) && (PyData.eqvAll (Te.dats ps) (Te.dats ps') && true))) = true from e)).2
        have e2 := Bool.and_eq_true_iff.mp e1
        have e3 := beq_iff_eq.mp e2.1
        rw [show x = y by omega, kids (by have := e2.2; rwa [Bool.and_true] at this)])
theorem dat_lay : ∀ (n : Nat) (t : Te), t.Ok → t.deep ≤ n → PyData.canLay0 t.dat = true ∧ t.dat.depth ≤ 2 * n
  | 0, t, _, h => by have := deep_pos t; omega
  | n + 1, .node h ps, o, l => by
    have f := o.fit
    have kids : ∀ ps : List Te, (∀ p ∈ ps, p.Ok ∧ p.deep ≤ n) → PyData.canLayAll0 (Te.dats ps) = true ∧ PyData.depthAll (Te.dats ps) ≤ 2 * n := by
      intro ps
      induction ps with
      | nil => exact fun _ => ⟨rfl, Nat.zero_le _⟩
      | cons p ps ih =>
        intro h
        obtain ⟨a1, a2⟩ := dat_lay n p (h p (by simp)).1 (h p (by simp)).2
        obtain ⟨b1, b2⟩ := ih fun x hx => h x (by simp [hx])
        refine ⟨?_, ?_⟩
        · show PyData.canLayAll0 (p.dat :: Te.dats ps) = true
          simp [PyData.canLayAll0, a1, b1]
        · show PyData.depthAll (p.dat :: Te.dats ps) ≤ 2 * n
          simp [PyData.depthAll]; omega
    obtain ⟨k1, k2⟩ := kids ps fun p hp => ⟨o.all p hp, deep_kids l p hp⟩
    cases h with
    | num n => exact ⟨by simp [Te.dat, Hed.D, PyData.canLay0, PyData.canLayAll0, w_num], by simp [Te.dat, Hed.D, PyData.depth, PyData.depthAll]; omega⟩
    | arg n => exact ⟨by simp [Te.dat, Hed.D, PyData.canLay0, PyData.canLayAll0, w_arg], by simp [Te.dat, Hed.D, PyData.depth, PyData.depthAll]; omega⟩
    | op w => exact ⟨by simp [Te.dat, Hed.D, PyData.canLay0, PyData.canLayAll0, (opL_ok w f.1).2.2.2.2.2.2.2.2, k1], by simp [Te.dat, Hed.D, PyData.depth, PyData.depthAll]; omega⟩
    | call m =>
      have ok := T_ok (fun i hi => Nat.lt_trans (f.2.1 i hi) (by decide : 36 < 43))
      exact ⟨by simp [Te.dat, Hed.D, PyData.canLay0, PyData.canLayAll0, w_call, ok, k1], by simp [Te.dat, Hed.D, PyData.depth, PyData.depthAll]; omega⟩
    | ring p => exact ⟨by simp [Te.dat, Hed.D, PyData.canLay0, PyData.canLayAll0, w_ring, k1], by simp [Te.dat, Hed.D, PyData.depth, PyData.depthAll]; omega⟩
theorem dat_shaped {t : Te} {n : Nat} (o : t.Ok) (l : t.deep ≤ n) (hn : n ≤ 32) : SeqAt.shaped t.dat = true := by
  obtain ⟨a, b⟩ := dat_lay n t o l
  unfold SeqAt.shaped
  rw [a, decide_eq_true (by omega)]; rfl
/-- terms compared -/
theorem eqTe {t t' : Te} [Decidable (t = t')] (o : t.Ok) (o' : t'.Ok) (l : t.deep ≤ 30) (l' : t'.deep ≤ 30) {k : DL.D → Prop} (q : k (.bool (decide (t = t')))) : eqD t.dat t'.dat k := by
  refine ⟨⟨dat_shaped o l (by decide), dat_shaped o' l' (by decide)⟩, ?_⟩
  by_cases e : t = t'
  · subst e
    rw [decide_eq_true rfl] at q
    rw [PySem.SeqAt.eqv_refl t.dat (dat_lay 30 t o l).1]
    exact q
  · rw [decide_eq_false e] at q
    cases h : PyData.eqv t.dat t'.dat with
    | true => exact absurd (eqv_dat 30 t t' o o' l h) e
    | false => exact q

/-! ### terms are shown -/
theorem short_of {x : Str} (h : PyData.strOk x = true) : (x.cps.toList.all fun c => decide (c < 16 ^ 8)) = true := by
  unfold PyData.strOk at h
  rw [← Array.all_toList, List.all_eq_true] at h
  rw [List.all_eq_true]
  intro c hc
  have := of_decide_eq_true (h c hc)
  exact decide_eq_true (by omega)
theorem int_short {n : Nat} (h : n < 10000000) : PyData.showable (.int (n : Nat)) = true ∧ PyData.leavesShort 12 (.int (n : Nat)) = true ∧ PyData.weight (.int (n : Nat)) ≤ 24 := by
  have l : n.log2 < 24 := by
    by_cases h0 : n = 0
    · subst h0; decide
    · exact (Nat.log2_lt h0).mpr (Nat.lt_trans h (by decide))
  refine ⟨?_, ?_, ?_⟩
  · unfold PyData.showable
    exact decide_eq_true (by rw [Int.natAbs_natCast]; omega)
  · unfold PyData.leavesShort
    refine decide_eq_true ?_
    have e : PyData.shown (.int (n : Nat)) = Str.ofString (toString ((n : Nat) : Int)) := rfl
    have := ten_len7 h
    rw [e, ten_str h, T_len]; omega
  · unfold PyData.weight
    split
    · omega
    · rw [Int.natAbs_natCast]; omega
theorem op_short {w : Nat} (h : w < 5) : (opS w).cps.size ≤ 5 := by
  obtain ⟨e, _, _, l, _⟩ := opL_ok w h
  rw [e]
  have : (T (opL w)).cps.size = (T (opL w)).length := rfl
  rw [this, T_len]; exact l
theorem dat_short : ∀ (n : Nat) (t : Te), t.Ok → t.deep ≤ n → t.dat.showable = true ∧ t.dat.leavesShort 12 = true ∧ t.dat.weight + 1 ≤ 40 * t.size
  | 0, t, _, h => by have := deep_pos t; omega
  | n + 1, .node h ps, o, l => by
    have f := o.fit
    have kids : ∀ ps : List Te, (∀ p ∈ ps, p.Ok ∧ p.deep ≤ n) → PyData.showableAll (Te.dats ps) = true ∧ PyData.leavesShortAll 12 (Te.dats ps) = true ∧ PyData.weightAll (Te.dats ps) ≤ 40 * Te.sizes ps := by
      intro ps
      induction ps with
      | nil => exact fun _ => ⟨rfl, rfl, Nat.zero_le _⟩
      | cons p ps ih =>
        intro h
        obtain ⟨a1, a2, a3⟩ := dat_short n p (h p (by simp)).1 (h p (by simp)).2
        obtain ⟨b1, b2, b3⟩ := ih fun x hx => h x (by simp [hx])
        refine ⟨?_, ?_, ?_⟩
        · show PyData.showableAll (p.dat :: Te.dats ps) = true
          simp [PyData.showableAll, a1, b1]
        · show PyData.leavesShortAll 12 (p.dat :: Te.dats ps) = true
          simp [PyData.leavesShortAll, a2, b2]
        · show PyData.weightAll (p.dat :: Te.dats ps) ≤ _
          simp only [PyData.weightAll, sizes_cons]; omega
    obtain ⟨k1, k2, k3⟩ := kids ps fun p hp => ⟨o.all p hp, deep_kids l p hp⟩
    rw [size_node]
    cases h with
    | num n =>
      obtain ⟨i1, i2, i3⟩ := int_short (n := n) (by have := f.1; omega)
      have e := short_of (x := "num") w_num
      have z : ("num" : Str).cps.size = 3 := by decide
      exact ⟨by simp [Te.dat, Hed.D, PyData.showable, PyData.showableAll] at i1 ⊢; exact i1, by simp only [Te.dat, Hed.D, PyData.leavesShort, PyData.leavesShortAll, e] at i2 ⊢; rw [i2]; rfl, by simp only [Te.dat, Hed.D]; unfold PyData.weight PyData.weightAll PyData.weightAll PyData.weightAll; simp only [PyData.weight] at i3 ⊢; omega⟩
    | arg n =>
      obtain ⟨i1, i2, i3⟩ := int_short (n := n) (by have := f.1; omega)
      have e := short_of (x := "arg") w_arg
      have z : ("arg" : Str).cps.size = 3 := by decide
      exact ⟨by simp [Te.dat, Hed.D, PyData.showable, PyData.showableAll] at i1 ⊢; exact i1, by simp only [Te.dat, Hed.D, PyData.leavesShort, PyData.leavesShortAll, e] at i2 ⊢; rw [i2]; rfl, by simp only [Te.dat, Hed.D]; unfold PyData.weight PyData.weightAll PyData.weightAll PyData.weightAll; simp only [PyData.weight] at i3 ⊢; omega⟩
    | op w =>
      have e := short_of (opL_ok w f.1).2.2.2.2.2.2.2.2
      have z := op_short f.1
      exact ⟨by simp [Te.dat, Hed.D, PyData.showable, PyData.showableAll, k1], by simp only [Te.dat, Hed.D, PyData.leavesShort, PyData.leavesShortAll, e, k2]; rfl, by simp only [Te.dat, Hed.D, PyData.weight, PyData.weightAll]; omega⟩
    | call m =>
      have e := short_of (T_ok (fun i hi => Nat.lt_trans (f.2.1 i hi) (by decide : 36 < 43)))
      have e2 := short_of (x := "call") w_call
      have z : ("call" : Str).cps.size = 4 := by decide
      have z2 : (T m).cps.size = 6 := by rw [show (T m).cps.size = (T m).length from rfl, T_len]; exact f.1
      exact ⟨by simp [Te.dat, Hed.D, PyData.showable, PyData.showableAll, k1], by simp only [Te.dat, Hed.D, PyData.leavesShort, PyData.leavesShortAll, e, e2, k2]; rfl, by simp only [Te.dat, Hed.D, PyData.weight, PyData.weightAll]; omega⟩
    | ring p =>
      obtain ⟨i1, i2, i3⟩ := int_short (n := p) (by have := f.1; omega)
      have e := short_of (x := "ring") w_ring
      have z : ("ring" : Str).cps.size = 4 := by decide
      exact ⟨by simp [Te.dat, Hed.D, PyData.showable, PyData.showableAll, k1] at i1 ⊢; exact i1, by simp only [Te.dat, Hed.D, PyData.leavesShort, PyData.leavesShortAll, e, k2] at i2 ⊢; rw [i2]; rfl, by simp only [Te.dat, Hed.D]; unfold PyData.weight PyData.weightAll PyData.weightAll PyData.weightAll PyData.weightAll; simp only [PyData.weight] at i3 ⊢; omega⟩
theorem dat_shows {t : Te} (o : t.Ok) (l : t.deep ≤ 8) (s : t.size ≤ 2000) : Shows t.dat := by
  obtain ⟨a1, a2, a3⟩ := dat_short 8 t o l
  obtain ⟨b1, b2⟩ := dat_lay 8 t o l
  refine ⟨b1, by omega, a1, ?_⟩
  have := PyData.shown_le 12 (by decide) t.dat a2
  rw [sizeLine_eq]
  omega

/-! ### things: plain signs, small numbers, so deep, so heavy -/
inductive Asc (nn : Nat) : DL.D → Prop
  | none : Asc nn .none
  | bool (b) : Asc nn (.bool b)
  | int {i : Int} : i.natAbs < 10 ^ 35 + nn → Asc nn (.int i)
  | str {x : Str} : (∀ c ∈ x.cps.toList, c < 128) → Asc nn (.str x)
  | list {ds : List DL.D} : (∀ d ∈ ds, Asc nn d) → Asc nn (.list ds)
  | tuple {ds : List DL.D} : (∀ d ∈ ds, Asc nn d) → Asc nn (.tuple ds)
structure Gd (nn a w : Nat) (d : DL.D) : Prop where
  asc : Asc nn d
  dep : d.depth ≤ a
  wgt : d.weight ≤ w
structure Gs (nn a w : Nat) (ds : List DL.D) : Prop where
  asc : ∀ d ∈ ds, Asc nn d
  dep : PyData.depthAll ds ≤ a
  wgt : PyData.weightAll ds ≤ w
variable {nn : Nat}
theorem Gd.up {a w a' w' : Nat} {d : DL.D} (h : Gd nn a w d) (ha : a ≤ a') (hw : w ≤ w') : Gd nn a' w' d := ⟨h.asc, Nat.le_trans h.dep ha, Nat.le_trans h.wgt hw⟩
theorem Gs.up {a w a' w' : Nat} {ds : List DL.D} (h : Gs nn a w ds) (ha : a ≤ a') (hw : w ≤ w') : Gs nn a' w' ds := ⟨h.asc, Nat.le_trans h.dep ha, Nat.le_trans h.wgt hw⟩
theorem Gs.nil {a w : Nat} : Gs nn a w [] := ⟨fun _ h => (List.not_mem_nil h).elim, Nat.zero_le _, Nat.zero_le _⟩
theorem Gs.cons {a w v u : Nat} {d : DL.D} {ds : List DL.D} (h : Gd nn a w d) (hs : Gs nn a v ds) (l : w + 1 + v ≤ u) : Gs nn a u (d :: ds) := by
  refine ⟨fun x hx => ?_, ?_, ?_⟩
  · rcases List.mem_cons.mp hx with rfl | hx
    · exact h.asc
    · exact hs.asc x hx
  · show max d.depth (PyData.depthAll ds) ≤ a
    exact Nat.max_le.mpr ⟨h.dep, hs.dep⟩
  · show d.weight + 1 + PyData.weightAll ds ≤ u
    have := h.wgt
    have := hs.wgt
    omega
theorem Gs.tup {a w : Nat} {ds : List DL.D} (h : Gs nn a w ds) : Gd nn (a + 1) w (.tuple ds) := ⟨.tuple h.asc, by show PyData.depthAll ds + 1 ≤ a + 1; have := h.dep; omega, h.wgt⟩
theorem Gs.lst {a w : Nat} {ds : List DL.D} (h : Gs nn a w ds) : Gd nn (a + 1) w (.list ds) := ⟨.list h.asc, by show PyData.depthAll ds + 1 ≤ a + 1; have := h.dep; omega, h.wgt⟩
theorem Gd.un {a w : Nat} {ds : List DL.D} (h : Gd nn a w (.tuple ds)) : Gs nn (a - 1) w ds := by
  refine ⟨fun d hd => ?_, ?_, h.wgt⟩
  · have := h.asc
    cases this with | tuple x => exact x d hd
  · have : PyData.depthAll ds + 1 ≤ a := h.dep
    omega
theorem wa_app (xs ys : List DL.D) : PyData.weightAll (xs ++ ys) = PyData.weightAll xs + PyData.weightAll ys := by
  induction xs with
  | nil => show PyData.weightAll ys = 0 + _; omega
  | cons x xs ih =>
    show x.weight + 1 + PyData.weightAll (xs ++ ys) = x.weight + 1 + PyData.weightAll xs + _
    omega
theorem da_app (xs ys : List DL.D) : PyData.depthAll (xs ++ ys) = max (PyData.depthAll xs) (PyData.depthAll ys) := by
  induction xs with
  | nil => show PyData.depthAll ys = max 0 _; omega
  | cons x xs ih =>
    show max x.depth (PyData.depthAll (xs ++ ys)) = max (max x.depth (PyData.depthAll xs)) _
    omega
theorem Gs.app {a w v u : Nat} {xs ys : List DL.D} (h : Gs nn a w xs) (k : Gs nn a v ys) (l : w + v ≤ u) : Gs nn a u (xs ++ ys) := by
  refine ⟨fun d hd => (List.mem_append.mp hd).elim (h.asc d) (k.asc d), ?_, ?_⟩
  · rw [da_app]; exact Nat.max_le.mpr ⟨h.dep, k.dep⟩
  · rw [wa_app]; have := h.wgt; have := k.wgt; omega
theorem Gs.split {a w : Nat} {xs ys : List DL.D} (h : Gs nn a w (xs ++ ys)) : Gs nn a (PyData.weightAll xs) xs ∧ Gs nn a (PyData.weightAll ys) ys ∧ PyData.weightAll xs + PyData.weightAll ys ≤ w := by
  have d := h.dep
  rw [da_app] at d
  have l := h.wgt
  rw [wa_app] at l
  exact ⟨⟨fun x hx => h.asc x (List.mem_append_left _ hx), by omega, Nat.le_refl _⟩, ⟨fun x hx => h.asc x (List.mem_append_right _ hx), by omega, Nat.le_refl _⟩, l⟩
theorem Gs.take {a w : Nat} {ds : List DL.D} (h : Gs nn a w ds) (n : Nat) : Gs nn a w (ds.take n) := by
  have h' : Gs nn a w (ds.take n ++ ds.drop n) := by rw [List.take_append_drop]; exact h
  obtain ⟨x, y, z⟩ := h'.split
  exact x.up (Nat.le_refl _) (by omega)
theorem Gs.drop {a w : Nat} {ds : List DL.D} (h : Gs nn a w ds) (n : Nat) : Gs nn a w (ds.drop n) := by
  have h' : Gs nn a w (ds.take n ++ ds.drop n) := by rw [List.take_append_drop]; exact h
  obtain ⟨x, y, z⟩ := h'.split
  exact y.up (Nat.le_refl _) (by omega)
theorem Gs.cut {a w : Nat} {ds : List DL.D} (h : Gs nn a w ds) (lo hi : Option Int) : Gs nn a w (cutL ds lo hi) := (h.drop _).take _
theorem wa_rev (xs : List DL.D) : PyData.weightAll xs.reverse = PyData.weightAll xs ∧ PyData.depthAll xs.reverse = PyData.depthAll xs := by
  induction xs with
  | nil => exact ⟨rfl, rfl⟩
  | cons x xs ih =>
    rw [List.reverse_cons, wa_app, da_app, ih.1, ih.2]
    constructor
    · show PyData.weightAll xs + (x.weight + 1 + 0) = x.weight + 1 + PyData.weightAll xs
      omega
    · show max (PyData.depthAll xs) (max x.depth 0) = max x.depth (PyData.depthAll xs)
      omega
theorem Gs.rev {a w : Nat} {ds : List DL.D} (h : Gs nn a w ds) : Gs nn a w ds.reverse := ⟨fun d hd => h.asc d (List.mem_reverse.mp hd), by rw [(wa_rev ds).2]; exact h.dep, by rw [(wa_rev ds).1]; exact h.wgt⟩
theorem wa_mem : ∀ {ds : List DL.D} {d : DL.D}, d ∈ ds → d.weight + 1 ≤ PyData.weightAll ds
  | x :: ds, d, h => by
    show d.weight + 1 ≤ x.weight + 1 + PyData.weightAll ds
    rcases List.mem_cons.mp h with rfl | h
    · omega
    · have := wa_mem h; omega
theorem Gs.mem {a w : Nat} {ds : List DL.D} (h : Gs nn a w ds) {d : DL.D} (hd : d ∈ ds) : Gd nn a w d := ⟨h.asc d hd, Nat.le_trans (depth_mem hd) h.dep, by have := wa_mem hd; have := h.wgt; omega⟩
theorem wa_len : ∀ ds : List DL.D, ds.length ≤ PyData.weightAll ds
  | [] => Nat.le_refl _
  | d :: ds => by
    have := wa_len ds
    show ds.length + 1 ≤ d.weight + 1 + PyData.weightAll ds
    omega
theorem asc_ok {x : Str} (h : ∀ c ∈ x.cps.toList, c < 128) : PyData.strOk x = true := okC.mpr fun c hc => Nat.lt_trans (h c hc) (by decide)
theorem Gd.pl {a w : Nat} {d : DL.D} (h : Gd nn a w d) (hw : w ≤ 90000) : Pl d := by
  obtain ⟨h1, h2, h3⟩ := h
  induction h1 generalizing w with
  | none => exact .none
  | bool b => exact .bool b
  | int i => exact .int _
  | @str x hx => exact .str (by have : x.length ≤ w := h3; omega) (asc_ok hx)
  | @list ds hd ih =>
    have l := wa_len ds
    have h3 : PyData.weightAll ds ≤ w := h3
    have h2 : PyData.depthAll ds + 1 ≤ a := h2
    exact .list (by omega) fun d hd' => ih d hd' (w := d.weight) (by have := wa_mem hd'; omega) (by have := depth_mem hd'; omega) (Nat.le_refl _)
  | @tuple ds hd ih =>
    have l := wa_len ds
    have h3 : PyData.weightAll ds ≤ w := h3
    have h2 : PyData.depthAll ds + 1 ≤ a := h2
    exact .tuple (by omega) fun d hd' => ih d hd' (w := d.weight) (by have := wa_mem hd'; omega) (by have := depth_mem hd'; omega) (Nat.le_refl _)
theorem int_len {i : Int} (h : i.natAbs < 10 ^ 40) : (Str.ofString (toString i)).length ≤ 41 := by
  have := int_text_length_le10 (a := i) (k := 40) (by decide) h
  rw [PyProof.Rows.ofString_len]; exact this
theorem asc_show {d : DL.D} (h : Asc nn d) (h9 : nn ≤ 1000) : d.showable = true ∧ d.leavesShort 50 = true := by
  have all : ∀ ds : List DL.D, (∀ d ∈ ds, d.showable = true ∧ d.leavesShort 50 = true) → PyData.showableAll ds = true ∧ PyData.leavesShortAll 50 ds = true := by
    intro ds
    induction ds with
    | nil => intro _; exact ⟨rfl, rfl⟩
    | cons x xs ih =>
      intro h
      obtain ⟨a, b⟩ := h x (by simp)
      obtain ⟨c, e⟩ := ih fun d hd => h d (by simp [hd])
      exact ⟨by show (x.showable && PyData.showableAll xs) = true; rw [a, c]; rfl, by show (x.leavesShort 50 && PyData.leavesShortAll 50 xs) = true; rw [b, e]; rfl⟩
  induction h with
  | none => exact ⟨rfl, rfl⟩
  | bool b => exact ⟨rfl, rfl⟩
  | @int i hi =>
    refine ⟨decide_eq_true ?_, decide_eq_true ?_⟩
    · by_cases h0 : i.natAbs = 0
      · rw [h0]; decide
      · exact (Nat.log2_lt h0).mpr (Nat.lt_trans (Nat.lt_of_lt_of_le hi (Nat.add_le_add_left h9 _)) (by decide))
    · have := int_len (Nat.lt_trans (Nat.lt_of_lt_of_le hi (Nat.add_le_add_left h9 _)) (by decide))
      show (Str.ofString (toString i)).length ≤ 50
      omega
  | @str x hx =>
    refine ⟨rfl, ?_⟩
    show (x.cps.toList.all fun c => decide (c < 16 ^ 8)) = true
    exact short_of (asc_ok hx)
  | list _ ih => exact all _ ih
  | tuple _ ih => exact all _ ih
theorem Gd.shows {a w : Nat} {d : DL.D} (h : Gd nn a w d) (h9 : nn ≤ 1000) (ha : a ≤ 60) (hw : w ≤ 90000) : ShowsA d ∧ PyData.strOk d.shown = true := by
  have lay := pl_lay (h.pl hw)
  obtain ⟨s1, s2⟩ := asc_show h.asc h9
  have l := PyData.shown_le 50 (by decide) d s2
  have l2 : d.shown.length ≤ sizeLine := by
    have := h.wgt
    rw [sizeLine_eq]
    omega
  refine ⟨?_, ok_shown d lay⟩
  have sh : Shows d := ⟨lay, Nat.le_trans h.dep ha, s1, l2⟩
  cases d with
  | none => trivial
  | bool b => trivial
  | int i =>
    have s1 : decide (i.natAbs.log2 < 1920) = true := s1
    exact (of_decide_eq_true s1 : i.natAbs.log2 < 1920)
  | str x => rw [PyData.shown_str] at l2; exact l2
  | list ds => exact sh
  | tuple ds => exact sh
  | dict l => exact sh
theorem Gd.shaped {a w : Nat} {d : DL.D} (h : Gd nn a w d) (ha : a ≤ 60) (hw : w ≤ 90000) : SeqAt.shaped d = true :=
  Bool.and_eq_true_iff.mpr ⟨pl_lay (h.pl hw), decide_eq_true (by have := h.dep; omega)⟩
/-! leaves -/
theorem gd_non {a w : Nat} : Gd nn a w .none := ⟨.none, Nat.zero_le _, Nat.zero_le _⟩
theorem gd_bool {a w : Nat} {b : Bool} : Gd nn a w (.bool b) := ⟨.bool b, Nat.zero_le _, Nat.zero_le _⟩
theorem gd_int {a w : Nat} {i : Int} (h : i.natAbs < 10 ^ 35 + nn) (h9 : nn ≤ 1000) (hw : 140 ≤ w) : Gd nn a w (.int i) := by
  refine ⟨.int h, Nat.zero_le _, ?_⟩
  show (if (i == 0) = true then 0 else i.natAbs.log2 + 1) ≤ w
  split
  · omega
  · rename_i h0
    have h0 : i.natAbs ≠ 0 := fun e => h0 (by rw [Int.natAbs_eq_zero.mp e]; rfl)
    have : i.natAbs.log2 < 133 := (Nat.log2_lt h0).mpr (Nat.lt_trans (Nat.lt_of_lt_of_le h (Nat.add_le_add_left h9 _)) (by decide))
    omega
theorem gd_str {a w : Nat} {x : Str} (h : ∀ c ∈ x.cps.toList, c < 128) (hw : x.length ≤ w) : Gd nn a w (.str x) := ⟨.str h, Nat.zero_le _, hw⟩
theorem gd_lit {a w : Nat} {x : Str} (h : (x.cps.toList.all fun c => decide (c < 128)) = true) (hw : x.length ≤ w) : Gd nn a w (.str x) := gd_str (fun c hc => of_decide_eq_true (List.all_eq_true.mp h c hc)) hw

/-! ### another thing in the place of one -/
def AllG (nn a w : Nat) (xs : List DL.D) : Prop := ∀ x ∈ xs, Gd nn a w x
theorem Asc.up {nn : Nat} {d : DL.D} (h : Asc nn d) : Asc (nn + 1) d := by
  induction h with
  | none => exact .none
  | bool b => exact .bool b
  | int h => exact .int (by omega)
  | str h => exact .str h
  | list _ ih => exact .list ih
  | tuple _ ih => exact .tuple ih
theorem AllG.app {nn a w : Nat} {xs ys : List DL.D} (h : AllG nn a w xs) (k : AllG nn a w ys) : AllG nn a w (xs ++ ys) := fun x hx => (List.mem_append.mp hx).elim (h x) (k x)
theorem AllG.nil {nn a w : Nat} : AllG nn a w [] := fun _ h => (List.not_mem_nil h).elim
theorem AllG.cons {nn a w : Nat} {x : DL.D} {xs : List DL.D} (h : Gd nn a w x) (k : AllG nn a w xs) : AllG nn a w (x :: xs) := fun y hy => by
  rcases List.mem_cons.mp hy with rfl | hy
  · exact h
  · exact k y hy
theorem rev_ok {x : Str} (h : ∀ c ∈ x.cps.toList, c < 128) : (∀ c ∈ (revS x).cps.toList, c < 128) ∧ (revS x).length = x.length := by
  refine ⟨fun c hc => h c ?_, ?_⟩
  · unfold revS at hc
    simpa using hc
  · show (x.cps.toList.reverse.toArray).size = x.cps.size
    simp
theorem cutS_ok {x : Str} {lo hi : Option Int} (h : ∀ c ∈ x.cps.toList, c < 128) : (∀ c ∈ (cutS x lo hi).cps.toList, c < 128) ∧ (cutS x lo hi).length ≤ x.length := by
  refine ⟨fun c hc => h c ?_, ?_⟩
  · have hc : c ∈ ((x.cps.toList.drop (HT.sIx x.length 0 lo)).take (HT.sIx x.length x.length hi - HT.sIx x.length 0 lo)) := by
      unfold cutS at hc; simpa using hc
    exact List.mem_of_mem_drop (List.mem_of_mem_take hc)
  · show (((x.cps.toList.drop (HT.sIx x.length 0 lo)).take (HT.sIx x.length x.length hi - HT.sIx x.length 0 lo)).toArray).size ≤ x.cps.size
    rw [List.size_toArray, List.length_take, List.length_drop, Array.length_toList]
    omega
theorem up_ok {x : Str} (h : ∀ c ∈ x.cps.toList, c < 128) : (∀ c ∈ (Txt.upper x).cps.toList, c < 128) ∧ (Txt.upper x).length = x.length := by
  rw [PyProof.Rows.upper_ascii h]
  refine ⟨fun c hc => ?_, ?_⟩
  · have hc : c ∈ (x.cps.map PyProof.Rows.up1).toList := hc
    rw [Array.toList_map] at hc
    obtain ⟨i, hi, rfl⟩ := List.mem_map.mp hc
    have := h i hi
    unfold PyProof.Rows.up1
    split <;> omega
  · show (x.cps.map _).size = x.cps.size
    simp
theorem app_ok {x y : Str} (h : ∀ c ∈ x.cps.toList, c < 128) (k : ∀ c ∈ y.cps.toList, c < 128) : (∀ c ∈ (x ++ y).cps.toList, c < 128) ∧ (x ++ y).length = x.length + y.length := by
  have e : (x ++ y).cps.toList = x.cps.toList ++ y.cps.toList := TL.tl_append x y
  refine ⟨fun c hc => ?_, ?_⟩
  · rw [e] at hc
    exact (List.mem_append.mp hc).elim (h c) (k c)
  · show (x ++ y).cps.toList.length = x.cps.toList.length + y.cps.toList.length
    rw [e, List.length_append]
mutual
def ascB : DL.D → Bool
  | .none => true
  | .bool _ => true
  | .int i => decide (i.natAbs < 10 ^ 35)
  | .str x => x.cps.toList.all fun c => decide (c < 128)
  | .list xs => ascBs xs
  | .tuple xs => ascBs xs
  | .dict _ => false
def ascBs : List DL.D → Bool
  | [] => true
  | x :: xs => ascB x && ascBs xs
end
mutual
theorem asc_of {nn : Nat} : ∀ d : DL.D, ascB d = true → Asc nn d
  | .none, _ => .none
  | .bool b, _ => .bool b
  | .int i, h => .int (Nat.lt_of_lt_of_le (of_decide_eq_true (show decide (i.natAbs < 10 ^ 35) = true from h)) (Nat.le_add_right _ _))
  | .str x, h => .str fun c hc => of_decide_eq_true (List.all_eq_true.mp (show (x.cps.toList.all fun c => decide (c < 128)) = true from h) c hc)
  | .list xs, h => .list (asc_ofs xs h)
  | .tuple xs, h => .tuple (asc_ofs xs h)
  | .dict _, h => by cases h
theorem asc_ofs {nn : Nat} : ∀ xs : List DL.D, ascBs xs = true → ∀ d ∈ xs, Asc nn d
  | [], _, _, h => (List.not_mem_nil h).elim
  | x :: xs, h, d, hd => by
    have h : (ascB x && ascBs xs) = true := h
    rw [Bool.and_eq_true] at h
    have hx := asc_of (nn := nn) x h.1
    have hs := asc_ofs (nn := nn) xs h.2
    rcases List.mem_cons.mp hd with e | hd
    · rw [e]; exact hx
    · exact hs d hd
end
theorem gd_closed {nn a w : Nat} {d : DL.D} (h : (ascB d && (decide (d.depth ≤ 3) && decide (d.weight ≤ 300))) = true) : Gd nn (a + 3) (2 * w + 400) d := by
  rw [Bool.and_eq_true, Bool.and_eq_true, decide_eq_true_eq, decide_eq_true_eq] at h
  exact ⟨asc_of d h.1, by omega, by omega⟩
theorem all_closed {nn a w : Nat} {xs : List DL.D} (h : (xs.all fun d => ascB d && (decide (d.depth ≤ 3) && decide (d.weight ≤ 300))) = true) : AllG nn (a + 3) (2 * w + 400) xs := fun d hd => gd_closed (List.all_eq_true.mp h d hd)
section
variable {k : DL.D → Prop} {i j : Int} {x y : Str} {xs ys : List DL.D} {p : Bool}
theorem addAD_ii : addAD (.int i) (.int j) k = k (.int (i + j)) := rfl
theorem addAD_bi : addAD (.bool p) (.int j) k = k (.int (b2 p + j)) := rfl
theorem subAD_ii : subAD (.int i) (.int j) k = k (.int (i - j)) := rfl
theorem subAD_bi : subAD (.bool p) (.int j) k = k (.int (b2 p - j)) := rfl
theorem addAD_ss : addAD (.str x) (.str y) k = (x.length + y.length ≤ sizeLine ∧ k (.str (x ++ y))) := rfl
theorem addAD_ll : addAD (.list xs) (.list ys) k = (xs.length + ys.length ≤ sizeLine ∧ k (.list (xs ++ ys))) := rfl
theorem addAD_tt : addAD (.tuple xs) (.tuple ys) k = (xs.length + ys.length ≤ sizeLine ∧ k (.tuple (xs ++ ys))) := rfl
theorem slD_t {lo hi : Option Int} : slD (.tuple xs) lo hi k = k (.tuple (cutL xs lo hi)) := rfl
theorem strAD_i : strAD [.int i] k = (i.natAbs.log2 < 1920 ∧ k (.str (toString i))) := rfl
theorem strAD_b : strAD [.bool p] k = k (.str (if p = true then "True" else "False")) := rfl
end
theorem odd_spec {nn a w n : Nat} {d : DL.D} {bs : List DL.D} {k : Bool → DL.D → List DL.D → Prop} (hb : Bx n bs) (hn : n + 2 < CAP) (h : Gd nn a w d) (h9 : nn ≤ 900) (ha : a ≤ 50) (hw : w ≤ 40000)
    (q : ∀ b e bs', Gd (nn + 1) (a + 3) (2 * w + 400) e → Bx (n + 1) bs' → k b e bs') : W__law_odd bs [d] k := by
  unfold W__law_odd m__law_odd mNeg
  walk_at "ev1"
  walk_at "sq"
  refine ⟨⟨by decide, by decide, by decide⟩, len_line (by decide), ?_⟩
  generalize hL : [PyData.none, _, _, _, _, _, _, _, _, _, _, _, _, _, _, _, _, _] = L
  have gL : AllG (nn + 1) (a + 3) (2 * w + 400) L := by rw [← hL]; exact all_closed (by decide +kernel)
  have lL : L.length = 18 := by rw [← hL]; rfl
  clear hL
  walk_at "sq"
  show L.length + 11 ≤ sizeLine ∧ _
  refine ⟨len_line (by omega), ?_⟩
  dsimp only
  generalize hM : L ++ [PyData.str "ring", _, _, _, _, _, _, _, _, _, _] = L2
  have gL2 : AllG (nn + 1) (a + 3) (2 * w + 400) L2 := by rw [← hM]; exact gL.app (all_closed (by decide +kernel))
  have lL2 : L2.length = 29 := by rw [← hM, List.length_append, lL]; rfl
  clear hM gL lL L
  walk_at "sq"
  show L2.length + 7 ≤ sizeLine ∧ _
  refine ⟨len_line (by omega), ?_⟩
  dsimp only
  have g0 : Gd (nn + 1) a w d := ⟨h.asc.up, h.dep, h.wgt⟩
  have one : Gs (nn + 1) a (w + 1) [d] := Gs.cons g0 Gs.nil (w := w) (v := 0) (by omega)
  have two : Gs (nn + 1) a (2 * w + 2) [d, d] := Gs.cons g0 one (by omega)
  generalize hM : L2 ++ [PyData.tuple [d], _, _, _, _, _, _] = L3
  have gL3 : AllG (nn + 1) (a + 3) (2 * w + 400) L3 := by
    rw [← hM]
    refine gL2.app (AllG.cons (one.tup.up (by omega) (by omega)) (AllG.cons (one.lst.up (by omega) (by omega)) (AllG.cons (two.tup.up (by omega) (by omega)) (all_closed (by decide +kernel)))))
  have lL3 : L3.length = 36 := by rw [← hM, List.length_append, lL2]; rfl
  clear hM gL2 lL2 L2
  have fin : ∀ (L : List DL.D) (z : Int), AllG (nn + 1) (a + 3) (2 * w + 400) L → z = ((L.length : Nat) : Int) → 1 ≤ L.length → L.length ≤ 1000 → W__law_take bs [.int z] fun x d bs' => ixD (.list L) d fun d => k false d bs' := fun L z gL ez l1 l2 => by
    subst ez
    refine take_spec hb (by omega) (by omega) (by omega) fun r b1 lr ur hb1 => ?_
    obtain ⟨x, e, hx⟩ := atI_ex (xs := L) lr ur
    exact ⟨x, e, q _ _ _ (gL x hx) hb1⟩
  cases d with
  | none =>
    walk_at "sq"
    refine ⟨rfl, ?_⟩
    rw [if_neg (show ¬ (isiD "int" PyData.none = true) from Bool.false_ne_true)]
    walk_at "sq"
    refine ⟨rfl, ?_⟩
    rw [if_neg (show ¬ (isiD "str" PyData.none = true) from Bool.false_ne_true)]
    walk_at "sq"
    refine ⟨rfl, ?_⟩
    rw [if_neg (show ¬ (isiD "tuple" PyData.none = true) from Bool.false_ne_true)]
    exact fin L3 _ gL3 rfl (by omega) (by omega)
  | list ds =>
    walk_at "sq"
    refine ⟨rfl, ?_⟩
    rw [if_neg (show ¬ (isiD "int" (PyData.list ds) = true) from Bool.false_ne_true)]
    walk_at "sq"
    refine ⟨rfl, ?_⟩
    rw [if_neg (show ¬ (isiD "str" (PyData.list ds) = true) from Bool.false_ne_true)]
    walk_at "sq"
    refine ⟨rfl, ?_⟩
    rw [if_neg (show ¬ (isiD "tuple" (PyData.list ds) = true) from Bool.false_ne_true)]
    exact fin L3 _ gL3 rfl (by omega) (by omega)
  | bool b =>
    walk_at "sq"
    refine ⟨rfl, ?_⟩
    rw [if_pos (show isiD "int" (PyData.bool b) = true from rfl)]
    simp only [addAD_bi, subAD_bi, strAD_b, addAD_ll]
    refine ⟨len_line (by simp only [List.length_cons, List.length_nil, lL3]; omega), ?_⟩
    walk_at "sq"
    refine ⟨rfl, ?_⟩
    rw [if_neg (show ¬ (isiD "str" (PyData.bool b) = true) from Bool.false_ne_true)]
    walk_at "sq"
    refine ⟨rfl, ?_⟩
    rw [if_neg (show ¬ (isiD "tuple" (PyData.bool b) = true) from Bool.false_ne_true)]
    refine fin (L3 ++ [_, _, _]) _ (gL3.app ?_) (by rw [List.length_append]; rfl) (by rw [List.length_append]; omega) (by simp only [List.length_append, List.length_cons, List.length_nil, lL3]; omega)
    cases b
    · exact all_closed (by decide +kernel)
    · exact all_closed (by decide +kernel)
  | int i =>
    have hi : i.natAbs < 10 ^ 35 + nn := by have := h.asc; cases this with | int z => exact z
    have hb40 : i.natAbs < 10 ^ 40 := Nat.lt_trans (Nat.lt_of_lt_of_le hi (Nat.add_le_add_left h9 _)) (by decide)
    have lg : i.natAbs.log2 < 1920 := by
      by_cases h0 : i.natAbs = 0
      · rw [h0]; decide
      · exact (Nat.log2_lt h0).mpr (Nat.lt_trans hb40 (by decide))
    walk_at "sq"
    refine ⟨rfl, ?_⟩
    rw [if_pos (show isiD "int" (PyData.int i) = true from rfl)]
    simp only [addAD_ii, subAD_ii, strAD_i, addAD_ll]
    refine ⟨lg, len_line (by simp only [List.length_cons, List.length_nil, lL3]; omega), ?_⟩
    walk_at "sq"
    refine ⟨rfl, ?_⟩
    rw [if_neg (show ¬ (isiD "str" (PyData.int i) = true) from Bool.false_ne_true)]
    walk_at "sq"
    refine ⟨rfl, ?_⟩
    rw [if_neg (show ¬ (isiD "tuple" (PyData.int i) = true) from Bool.false_ne_true)]
    refine fin (L3 ++ [_, _, _]) _ (gL3.app ?_) (by rw [List.length_append]; rfl) (by rw [List.length_append]; omega) (by simp only [List.length_append, List.length_cons, List.length_nil, lL3]; omega)
    refine AllG.cons (gd_int (by omega) (by omega) (by omega)) (AllG.cons (gd_int (by omega) (by omega) (by omega)) (AllG.cons (gd_str (fun c hc => ?_) (by have := int_len hb40; omega)) AllG.nil))
    have e : (Str.ofString (toString i)).cps.toList = (toString i).toList.map Char.toNat := by rw [Str.ofString_eq_toList]
    rw [e] at hc
    obtain ⟨ch, h1, rfl⟩ := List.mem_map.mp hc
    exact int_ascii i ch h1
  | str x =>
    have hx : ∀ c ∈ x.cps.toList, c < 128 := by have := h.asc; cases this with | str z => exact z
    have xl : x.length ≤ w := h.wgt
    walk_at "sq"
    refine ⟨rfl, ?_⟩
    rw [if_neg (show ¬ (isiD "int" (PyData.str x) = true) from Bool.false_ne_true)]
    walk_at "sq"
    refine ⟨rfl, ?_⟩
    rw [if_pos (show isiD "str" (PyData.str x) = true from rfl)]
    unfold mRevA
    walk_at "ev1"
    simp only [addAD_ss, addAD_ll]
    have lx : x.length ≤ sizeLine := len_line (by omega)
    have l0 : ("0" : Str).length = 1 := rfl
    refine ⟨len_line (by rw [l0]; omega), ?_⟩
    show x.length ≤ sizeLine ∧ (x.length ≤ 5592405 ∧ (x.length ≤ sizeLine ∧ (L3.length + 4 ≤ sizeLine ∧ _)))
    refine ⟨lx, by omega, lx, len_line (by omega), ?_⟩
    walk_at "sq"
    refine ⟨rfl, ?_⟩
    rw [if_neg (show ¬ (isiD "tuple" (PyData.str x) = true) from Bool.false_ne_true)]
    refine fin (L3 ++ [_, _, _, _]) _ (gL3.app ?_) (by rw [List.length_append]; rfl) (by rw [List.length_append]; omega) (by simp only [List.length_append, List.length_cons, List.length_nil, lL3]; omega)
    have a0 := app_ok hx (y := "0") (by decide +kernel)
    have a1 := cutS_ok (lo := none) (hi := some (-1)) hx
    have a2 := up_ok hx
    have a3 := rev_ok hx
    exact AllG.cons (gd_str a0.1 (by rw [a0.2, l0]; omega)) (AllG.cons (gd_str a1.1 (by omega)) (AllG.cons (gd_str a2.1 (by omega)) (AllG.cons (gd_str a3.1 (by omega)) AllG.nil)))
  | tuple ds =>
    walk_at "sq"
    refine ⟨rfl, ?_⟩
    rw [if_neg (show ¬ (isiD "int" (PyData.tuple ds) = true) from Bool.false_ne_true)]
    walk_at "sq"
    refine ⟨rfl, ?_⟩
    rw [if_neg (show ¬ (isiD "str" (PyData.tuple ds) = true) from Bool.false_ne_true)]
    walk_at "sq"
    refine ⟨rfl, ?_⟩
    rw [if_pos (show isiD "tuple" (PyData.tuple ds) = true from rfl)]
    unfold mRevA
    walk_at "sq"
    simp only [slD_t, addAD_tt, addAD_ll]
    have gs : Gs (nn + 1) (a - 1) w ds := g0.un
    have dl : ds.length ≤ w := Nat.le_trans (wa_len ds) gs.wgt
    have cl : ∀ lo hi, (cutL ds lo hi).length ≤ w := fun lo hi => Nat.le_trans (wa_len _) (gs.cut lo hi).wgt
    have a1 : 1 ≤ a := by have e : PyData.depthAll ds + 1 ≤ a := h.dep; omega
    have wd : ∀ {v : Str}, v = "less" ∨ v = "if" → Gd (nn + 1) (a - 1) 4 (.str v) := fun hv => by
      rcases hv with rfl | rfl
      · exact gd_lit (by decide +kernel) (by decide +kernel)
      · exact gd_lit (by decide +kernel) (by decide +kernel)
    have c1 := cl (some (-1)) none
    have c2 := cl (some 1) none
    refine ⟨len_line (by omega), len_line (by simp only [List.length_cons, List.length_nil]; omega), len_line (by simp only [List.length_cons, List.length_nil]; omega), len_line (by simp only [List.length_cons, List.length_nil, lL3]; omega), len_line (by simp only [List.length_cons, List.length_nil]; omega), len_line (by simp only [List.length_append, List.length_cons, List.length_nil, lL3]; omega), ?_⟩
    refine fin (L3 ++ [_, _, _, _, _, _] ++ [_, _, _, _]) _ ((gL3.app ?_).app ?_) (by first | rfl | (rw [List.length_append, List.length_append]; rfl) | simp) (by rw [List.length_append, List.length_append]; omega) (by simp only [List.length_append, List.length_cons, List.length_nil, lL3]; omega)
    · refine AllG.cons (gs.lst.up (by omega) (by omega)) (AllG.cons ((gs.app (gs.cut _ _) (u := w + w) (Nat.le_refl _)).tup.up (by omega) (by omega)) (AllG.cons ((gs.cut _ _).tup.up (by omega) (by omega)) (AllG.cons (gs.rev.tup.up (by omega) (by omega)) (AllG.cons ?_ (AllG.cons ?_ AllG.nil)))))
      · exact (Gs.cons (wd (.inl rfl)) (gs.cut _ _) (u := w + 5) (by omega)).tup.up (by omega) (by omega)
      · exact (Gs.cons (wd (.inr rfl)) (gs.cut _ _) (u := w + 5) (by omega)).tup.up (by omega) (by omega)
    · have s4 : ∀ {A : Nat} {v : Str}, v = "call" ∨ v = "add" ∨ v = "ring" ∨ v = "0a0a0a" ∨ v = "num" → Gd (nn + 1) A 6 (.str v) := fun hv => by
        rcases hv with rfl | rfl | rfl | rfl | rfl
        · exact gd_lit (by decide +kernel) (by decide +kernel)
        · exact gd_lit (by decide +kernel) (by decide +kernel)
        · exact gd_lit (by decide +kernel) (by decide +kernel)
        · exact gd_lit (by decide +kernel) (by decide +kernel)
        · exact gd_lit (by decide +kernel) (by decide +kernel)
      have inner : Gd (nn + 1) (a + 1) (w + 1) (.tuple [PyData.tuple ds]) := one.tup
      have e1 : Gd (nn + 1) (a + 2) (w + 20) (.tuple [.str "call", .str "0a0a0a", .tuple [PyData.tuple ds]]) :=
        (Gs.cons (s4 (.inl rfl)) (Gs.cons (s4 (.inr (.inr (.inr (.inl rfl))))) (Gs.cons inner Gs.nil (v := 0) (u := w + 2) (by omega)) (u := w + 9) (by omega)) (u := w + 20) (by omega)).tup
      have e2 : Gd (nn + 1) (a + 1) (2 * w + 20) (.tuple [.str "add", PyData.tuple ds, PyData.tuple ds]) := (Gs.cons (s4 (.inr (.inl rfl))) two (u := 2 * w + 20) (by omega)).tup
      have e3 : Gd (nn + 1) (a + 1) (w + 200) (.tuple [.str "ring", .int 11, PyData.tuple ds]) :=
        (Gs.cons (s4 (.inr (.inr (.inl rfl)))) (Gs.cons (gd_int (w := 140) (i := 11) (Nat.lt_of_lt_of_le (show Int.natAbs 11 < 10 ^ 35 from by decide) (Nat.le_add_right _ _)) (by omega) (by omega)) one (u := w + 150) (by omega)) (u := w + 200) (by omega)).tup
      have e4 : Gs (nn + 1) 1 200 [PyData.tuple [PyData.str "num", .int 0]] := ⟨asc_ofs _ (by decide +kernel), by decide, by decide +kernel⟩
      have e5 : Gd (nn + 1) (a + 1) (w + 200) (.tuple (ds ++ [PyData.tuple [PyData.str "num", .int 0]])) := by
        exact ((gs.up (by omega) (Nat.le_refl _)).app (e4.up a1 (Nat.le_refl _)) (Nat.le_refl _)).tup
      exact AllG.cons (e1.up (by omega) (by omega)) (AllG.cons (e2.up (by omega) (by omega)) (AllG.cons (e3.up (by omega) (by omega)) (AllG.cons (e5.up (by omega) (by omega)) AllG.nil)))
  | dict l => cases h.asc

/-! ### drawn numbers -/
theorem number_spec {n : Nat} {bs : List DL.D} {k : Bool → DL.D → List DL.D → Prop} (h : Bx n bs) (hn : n + 4 ≤ CAP)
    (q : ∀ (r : Nat) bs', r ≤ 1000002 → Bx (n + 4) bs' → k false (.int (r : Int)) bs') : W__law_number bs [] k := by
  unfold W__law_number m__law_number
  walk_at "ev"
  refine take_spec h (by omega) (by decide) (by decide) fun r1 b1 l1 u1 h1 => ?_
  refine take_spec h1 (by omega) (by decide) (by decide) fun r2 b2 l2 u2 h2 => ?_
  refine take_spec h2 (by omega) (by decide) (by decide) fun r3 b3 l3 u3 h3 => ?_
  rw [subD_ii]
  refine ⟨len_line (by decide), take_spec h3 (by omega) (by decide) (by decide) fun r4 b4 l4 u4 h4 => ?_⟩
  rw [ixD_li]
  obtain ⟨x, e, hx⟩ := atI_ex (xs := [PyData.int r1, .int r2, .int (1000002 - r3)]) l4 (by show r4 < 3; omega)
  refine ⟨x, e, ?_⟩
  simp only [List.mem_cons, List.not_mem_nil, or_false] at hx
  have key : ∀ r : Int, 0 ≤ r → r ≤ 1000002 → k false (.int r) b4 := fun r l u => by
    have := q r.toNat b4 (by omega) h4
    rwa [Int.toNat_of_nonneg l] at this
  rcases hx with rfl | rfl | rfl
  · exact key _ (by omega) (by omega)
  · exact key _ (by omega) (by omega)
  · exact key _ (by omega) (by omega)

/-! ### terms drawn -/
def Tm (h L : Nat) (d : DL.D) : Prop := ∃ t : Te, t.Ok ∧ t.deep ≤ h ∧ t.size ≤ L ∧ d = t.dat
def TmAll (h N : Nat) (ds : List DL.D) : Prop := ∃ ts : List Te, (∀ t ∈ ts, t.Ok ∧ t.deep ≤ h) ∧ Te.sizes ts ≤ N ∧ ds = ts.map Te.dat
def OpF (w : Str) (k : Nat) : Prop := ∃ i, i < 5 ∧ w = opS i ∧ k = if i = 4 then 3 else 2
theorem OpF.if3 : OpF "if" 3 := ⟨4, by decide, by decide +kernel, rfl⟩
theorem TmAll.nil {h N : Nat} : TmAll h N [] := ⟨[], fun _ z => (nomatch z), Nat.zero_le _, rfl⟩
theorem TmAll.cons {h L N N' : Nat} {d : DL.D} {ds : List DL.D} (a : Tm h L d) (b : TmAll h N ds) (l : L + 1 + N ≤ N') : TmAll h N' (d :: ds) := by
  obtain ⟨t, o, dp, sz, rfl⟩ := a
  obtain ⟨ts, all, szs, rfl⟩ := b
  refine ⟨t :: ts, fun x hx => ?_, by rw [sizes_cons]; omega, rfl⟩
  rcases List.mem_cons.mp hx with rfl | hx
  · exact ⟨o, dp⟩
  · exact all x hx
theorem Tm.num {h L n : Nat} (hn : n ≤ 1000002) (hL : 7 ≤ L) : Tm (h + 1) L (.tuple [.str "num", .int (n : Int)]) := ⟨.node (.num n) [], .mk ⟨hn, rfl⟩ fun _ z => (nomatch z), by rw [deep_node]; show 1 + 0 ≤ _; omega, by rw [size_node]; show 1 + 0 ≤ _; omega, rfl⟩
theorem Tm.arg {h L n : Nat} (hn : n < 4) (hL : 1 ≤ L) : Tm (h + 1) L (.tuple [.str "arg", .int (n : Int)]) := ⟨.node (.arg n) [], .mk ⟨hn, rfl⟩ fun _ z => (nomatch z), by rw [deep_node]; show 1 + 0 ≤ _; omega, by rw [size_node]; show 1 + 0 ≤ _; omega, rfl⟩
theorem tm_node {h N L : Nat} {hd : Hed} {ds : List DL.D} (a : TmAll h N ds) (f : hd.fit ds.length) (l : 12 + N ≤ L) : Tm (h + 1) L (hd.D ds) := by
  obtain ⟨ts, all, szs, rfl⟩ := a
  refine ⟨.node hd ts, .mk (by rw [List.length_map] at f; exact f) fun p hp => (all p hp).1, ?_, by rw [size_node]; omega, ?_⟩
  · rw [deep_node]
    have := deeps_le fun t ht => (all t ht).2
    omega
  · show _ = hd.D (Te.dats ts)
    rw [dats_eq]
theorem Tm.op {h L N : Nat} {w : Str} {d : DL.D} {ds : List DL.D} (o : OpF w (ds.length + 1)) (a : TmAll h N (d :: ds)) (l : 12 + N ≤ L) : Tm (h + 1) L (.tuple (.str w :: d :: ds)) := by
  obtain ⟨i, hi, rfl, e⟩ := o
  exact tm_node (hd := .op i) a ⟨hi, e⟩ l
theorem Tm.call {h L N : Nat} {is : List Nat} {ds : List DL.D} (h6 : is.length = 6) (h36 : ∀ i ∈ is, i < 36) (a : TmAll h N ds) (l4 : ds.length ≤ 4) (l : 12 + N ≤ L) : Tm (h + 1) L (.tuple [.str "call", .str (T is), .tuple ds]) := tm_node (hd := .call is) a ⟨h6, h36, l4⟩ l
theorem Tm.ring {h L N n : Nat} {ds : List DL.D} (hn : n ≤ 11) (a : TmAll h N ds) (l4 : ds.length ≤ 4) (l : 12 + N ≤ L) : Tm (h + 1) L (.tuple [.str "ring", .int (n : Int), .tuple ds]) := tm_node (hd := .ring n) a ⟨hn, l4⟩ l
theorem TmAll.of {h L : Nat} : ∀ (ps : List DL.D), (∀ p ∈ ps, Tm h L p) → TmAll h (ps.length * (L + 1)) ps
  | [], _ => .nil
  | p :: ps, a => .cons (a p (by simp)) (TmAll.of ps fun q hq => a q (by simp [hq])) (by rw [List.length_cons, Nat.succ_mul]; omega)
theorem Tm.up (h h' L L' : Nat) (d : DL.D) (t : Tm h L d) (l : h ≤ h') (m : L ≤ L') : Tm h' L' d := by
  obtain ⟨t, o, dp, sz, rfl⟩ := t
  exact ⟨t, o, by omega, by omega, rfl⟩
theorem sm_loop {k : List DL.D → List Slot → Prop} {s2 : Slot} : ∀ (ds : List DL.D) (acc : List Nat) (bs : List DL.D) (n : Nat), Bx n bs → n + ds.length ≤ CAP → acc.length + ds.length ≤ 10000 → (∀ i ∈ acc, i < 36) →
    (∀ (is : List Nat) (bs' : List DL.D), is.length = acc.length + ds.length → (∀ i ∈ is, i < 36) → Bx (n + ds.length) bs' → k (is.map fun i => .str (T [i])) [.own true bs', .dat (.str (T (List.range 36))), s2, .non]) →
    lcLoop (gVar 3) (mPure true) E1__law_some_mark [3] k ds (acc.map fun i => .str (T [i])) [.own true bs, .dat (.str (T (List.range 36))), s2, .non]
  | [], acc, bs, n, h, _, _, ha, q => q acc bs rfl ha h
  | d :: ds, acc, bs, n, h, hn, hl, ha, q => by
    rw [List.length_cons] at hn hl
    have ih := fun (i : Nat) bs' (hi : i < 36) h' => sm_loop (k := k) (s2 := s2) ds (acc ++ [i]) bs' (n + 1) h' (by omega) (by rw [List.length_append, List.length_singleton]; omega) (all_snoc ha hi)
      (fun is bs'' hi1 hi2 h'' => q is bs'' (by rw [hi1, List.length_append, List.length_singleton, List.length_cons]; omega) hi2 (h''.mono (by rw [List.length_cons]; omega)))
    rw [lcLoop_cons]
    generalize lcLoop (gVar 3) (mPure true) E1__law_some_mark [3] k ds = F at ih ⊢
    unfold E1__law_some_mark
    walk_at "ev"
    refine take_spec h (by omega) (by decide) (by decide) fun r b l u h1 => ?_
    rw [ixD_si]
    refine ⟨by rw [T_len, List.length_range]; exact len_line (by decide), _, T_at36 l u, ?_, ?_⟩
    · rw [List.length_map]; exact Nat.lt_of_lt_of_le (by omega) (len_line (n := 10001) (by decide))
    · rw [T_one, map_snoc]
      exact ih r.toNat b (by omega) h1
theorem some_mark_spec {n : Nat} {bs : List DL.D} {k : Bool → DL.D → List DL.D → Prop} (h : Bx n bs) (hn : n + 7 ≤ CAP)
    (q : ∀ (is : List Nat) (bs' : List DL.D), is.length = 6 → (∀ i ∈ is, i < 36) → Bx (n + 7) bs' → k false (.str (T is)) bs') : W__law_some_mark bs [] k := by
  unfold W__law_some_mark m__law_some_mark
  simp only [sig36_T, mark0, markz, emp_T]
  walk_at "ev"
  refine take_spec h (by omega) (by decide) (by decide) fun r b l u h1 => ?_
  walk_at "ev"
  split
  · rename_i h2
    refine ⟨len_line (by decide), ?_⟩
    obtain ⟨x, e, hx⟩ := atI_ex (xs := [PyData.str (T [0, 0, 0, 0, 0, 0]), .str (T [35, 35, 35, 35, 35, 35])]) l (by show r < 2; omega)
    refine ⟨x, e, ?_⟩
    simp only [List.mem_cons, List.not_mem_nil, or_false] at hx
    rcases hx with rfl | rfl
    · exact q _ _ rfl (by decide) (h1.mono (by omega))
    · exact q _ _ rfl (by decide) (h1.mono (by omega))
  · refine ⟨by decide, by decide, ?_⟩
    refine sm_loop (rngD 0 6) [] b (n + 1) h1 (by show n + 1 + 6 ≤ CAP; omega) (by decide) (fun _ z => nomatch z) fun is b' e1 e2 h2 => ?_
    refine join_signs (by rw [e1]; decide) ?_
    walk_at "ev"
    exact q is b' e1 e2 h2
def LT : Nat → Nat
  | 0 => 0
  | 1 => 7
  | t + 2 => 12 + 4 * (LT (t + 1) + 1)
def ct : Nat → Nat
  | 0 => 0
  | 1 => 6
  | t + 2 => 2 + 4 * ct (t + 1)
inductive Hd : DL.D → Prop
  | call {is : List Nat} {s : Nat} : is.length = 6 → (∀ i ∈ is, i < 36) → s < 5 → Hd (.tuple [.tuple [.str "call", .str (T is)], .int (s : Int)])
  | ring {n s : Nat} : n ≤ 11 → s < 5 → Hd (.tuple [.tuple [.str "ring", .int (n : Int)], .int (s : Int)])
theorem Hd.lay {d : DL.D} (h : Hd d) : d.canLay0 = true ∧ d.depth ≤ 3 := by
  cases h with
  | call h1 h2 h3 =>
    have ok := T_ok (fun i hi => Nat.lt_trans (h2 i hi) (by decide : 36 < 43))
    refine ⟨?_, ?_⟩
    · simp [PyData.canLay0, PyData.canLayAll0, ok, w_call]
    · simp [PyData.depth, PyData.depthAll]
  | ring h1 h2 =>
    refine ⟨?_, ?_⟩
    · simp [PyData.canLay0, PyData.canLayAll0, w_ring]
    · simp [PyData.depth, PyData.depthAll]
theorem heads_ne {hs : List DL.D} (h : ∀ d ∈ hs, Hd d) (hne : hs ≠ []) {k : DL.D → Prop} (q : k (.bool false)) : eqD (.list hs) (.list []) k := by
  refine ⟨⟨?_, rfl⟩, ?_⟩
  · have key : PyData.canLayAll0 hs = true ∧ PyData.depthAll hs ≤ 3 := by
      clear hne
      induction hs with
      | nil => exact ⟨rfl, Nat.zero_le _⟩
      | cons a r ih =>
        obtain ⟨x, y⟩ := (h a (by simp)).lay
        obtain ⟨z, w⟩ := ih fun d hd => h d (by simp [hd])
        refine ⟨by simp [PyData.canLayAll0, x, z], by simp [PyData.depthAll]; omega⟩
    unfold SeqAt.shaped
    rw [Bool.and_eq_true]
    refine ⟨by simp [PyData.canLay0, key.1], decide_eq_true ?_⟩
    simp [PyData.depth]; omega
  · cases hs with
    | nil => exact (hne rfl).elim
    | cons a r =>
      have e : PyData.eqv (.list (a :: r)) (.list []) = false := rfl
      rw [e]; exact q
theorem draw_loop {self : FB} {K : SK} {h L C many t : Nat} {hs : List DL.D} {s4 s5 s6 s7 s8 s9 : Slot}
    (sf : ∀ (bs : List DL.D) (n : Nat) (k : Bool → DL.D → List DL.D → Prop), Bx n bs → n + C ≤ CAP → (∀ d bs', Tm h L d → Bx (n + C) bs' → k false d bs') → self bs [.int (many : Int), .list hs, .int ((t : Int) - 1)] k) :
    ∀ (ds parts bs : List DL.D) (n : Nat) (s11 : Slot), Bx n bs → n + ds.length * C ≤ CAP → parts.length + ds.length ≤ 1000 → (∀ p ∈ parts, Tm h L p) →
    (∀ ps bs' s11, ps.length = parts.length + ds.length → (∀ p ∈ ps, Tm h L p) → Bx (n + ds.length * C) bs' → K.nx [.own true bs', .dat (.int (many : Int)), .dat (.list hs), .dat (.int (t : Int)), s4, s5, s6, s7, s8, s9, .own false ps, s11]) →
    forLoop (G1__law_term self) (L1__law_term self) K ds [.own true bs, .dat (.int (many : Int)), .dat (.list hs), .dat (.int (t : Int)), s4, s5, s6, s7, s8, s9, .own false parts, s11]
  | [], parts, bs, n, s11, hb, _, _, hp, q => q parts bs s11 rfl hp (hb.mono (Nat.le_add_right _ _))
  | d :: ds, parts, bs, n, s11, hb, hn, hl, hp, q => by
    rw [List.length_cons, Nat.succ_mul] at hn
    rw [List.length_cons] at hl
    have ih := fun p bs' s11 (tp : Tm h L p) hb' => draw_loop (K := K) (s4 := s4) (s5 := s5) (s6 := s6) (s7 := s7) (s8 := s8) (s9 := s9) sf ds (parts ++ [p]) bs' (n + C) s11 hb' (by omega) (by rw [List.length_append, List.length_singleton]; omega)
      (fun x hx => (List.mem_append.mp hx).elim (hp x) fun y => by rw [List.mem_singleton.mp y]; exact tp)
      fun ps bs'' s11 h1 h2 h3 => q ps bs'' s11 (by rw [h1, List.length_append, List.length_singleton, List.length_cons]; omega) h2 (h3.mono (by rw [List.length_cons, Nat.succ_mul]; omega))
    rw [forLoop_cons]
    generalize forLoop (G1__law_term self) (L1__law_term self) K ds = F at ih ⊢
    unfold G1__law_term L1__law_term
    walk_at "ev"
    refine sf bs n _ hb (by omega) fun p bs' tp hb' => ?_
    exact ⟨Nat.lt_of_lt_of_le (by omega) (len_line (n := 1001) (by decide)), ih p bs' _ tp hb'⟩
theorem term_leaf {n many t L : Nat} {bs : List DL.D} {k : Bool → DL.D → List DL.D → Prop} (hb : Bx n bs) (hn : n + 5 ≤ CAP) (hL : 7 ≤ L) (q : ∀ d bs', Tm (t + 1) L d → Bx (n + 5) bs' → k false d bs') :
    W__law_number bs [] fun x d bs' => 2 ≤ sizeLine ∧ k false (.tuple [.str "num", d]) bs' :=
  number_spec hb (by omega) fun r b l h => ⟨len_line (by decide), q _ _ (.num l hL) (h.mono (by omega))⟩
theorem term_arg {n many t L : Nat} {bs : List DL.D} {k : Bool → DL.D → List DL.D → Prop} (hb : Bx n bs) (hn : n + 5 ≤ CAP) (hL : 7 ≤ L) (h0 : many ≠ 0) (hm : many ≤ 4) (q : ∀ d bs', Tm (t + 1) L d → Bx (n + 5) bs' → k false d bs') :
    W__law_take bs [.int (many : Int)] fun x d bs' => 2 ≤ sizeLine ∧ k false (.tuple [.str "arg", d]) bs' :=
  take_spec hb (by omega) (by omega) (by omega) fun r b l u h => ⟨len_line (by decide), by
    have e : r = ((r.toNat : Nat) : Int) := by omega
    rw [e]
    exact q _ _ (.arg (by omega) (by omega)) (h.mono (by omega))⟩
theorem opw_at {r : Int} (l : 0 ≤ r) (u : r < 4) {k : DL.D → Prop} (q : ∀ w, OpF w 2 → k (.str w)) : ixD (.list [.str "add", .str "less", .str "times", .str "under"]) (.int r) k := by
  rw [ixD_li]
  obtain ⟨x, e, hx⟩ := atI_ex (xs := [PyData.str "add", .str "less", .str "times", .str "under"]) l (by show r < 4; omega)
  refine ⟨x, e, ?_⟩
  simp only [List.mem_cons, List.not_mem_nil, or_false] at hx
  rcases hx with rfl | rfl | rfl | rfl
  · exact q _ ⟨0, by decide, by decide +kernel, rfl⟩
  · exact q _ ⟨1, by decide, by decide +kernel, rfl⟩
  · exact q _ ⟨2, by decide, by decide +kernel, rfl⟩
  · exact q _ ⟨3, by decide, by decide +kernel, rfl⟩
theorem ct_ge : ∀ t, 6 ≤ ct (t + 1)
  | 0 => Nat.le_refl _
  | t + 1 => by
    have := ct_ge t
    show 6 ≤ 2 + 4 * ct (t + 1); omega
theorem term_spec : ∀ (t fuel : Nat) (bs : List DL.D) (n many : Nat) (hs : List DL.D) (k : Bool → DL.D → List DL.D → Prop), t + 1 ≤ fuel → Bx n bs → n + ct (t + 1) ≤ CAP → many ≤ 4 → (∀ d ∈ hs, Hd d) → hs.length = 4 →
    (∀ d bs', Tm (t + 1) (LT (t + 1)) d → Bx (n + ct (t + 1)) bs' → k false d bs') → W__law_term fuel bs [.int (many : Int), .list hs, .int ((t + 1 : Nat) : Int)] k
  | _, 0, _, _, _, _, _, hf, _, _, _, _, _, _ => absurd hf (by omega)
  | 0, fuel + 1, bs, n, many, hs, k, hf, hb, hn, hm, hh, hl, q => by
    have e1 : ct (0 + 1) = 6 := rfl
    have e2 : LT (0 + 1) = 7 := rfl
    rw [e1] at hn q
    rw [e2] at q
    unfold W__law_term m__law_term
    walk_at "ev"
    rw [if_neg (by omega)]
    refine take_spec hb (by omega) (by decide) (by decide) fun r b l u h1 => ?_
    refine eqi (fun z1 => ?_) fun z1 => ?_
    · walk_at "t"
      exact term_leaf (many := many) h1 (by omega) (by decide) q
    · walk_at "f"
      refine eqi (fun z2 => ?_) fun z2 => absurd (show r = 1 by omega) z2
      walk_at "t"
      split
      · exact term_leaf (many := many) h1 (by omega) (by decide) q
      · refine eqi (fun z3 => ?_) fun z3 => absurd z2 z3
        walk_at "t"
        exact term_arg h1 (by omega) (by decide) (by omega) hm q
  | t + 1, fuel + 1, bs, n, many, hs, k, hf, hb, hn, hm, hh, hl, q => by
    have e1 : ct (t + 1 + 1) = 2 + 4 * ct (t + 1) := rfl
    have e2 : LT (t + 1 + 1) = 12 + 4 * (LT (t + 1) + 1) := rfl
    have e3 := ct_ge t
    rw [e1] at hn q
    rw [e2] at q
    have et : (((t + 1 + 1 : Nat) : Int) - 1) = ((t + 1 : Nat) : Int) := by omega
    have sf := fun (bs : List DL.D) (n : Nat) (k : Bool → DL.D → List DL.D → Prop) (hb : Bx n bs) (hn : n + ct (t + 1) ≤ CAP) q => term_spec t fuel bs n many hs k (by omega) hb hn hm hh hl q
    unfold W__law_term m__law_term
    walk_at "ev"
    rw [if_pos (by omega), et]
    refine take_spec hb (by omega) (by decide) (by decide) fun r b l u h1 => ?_
    have opc : 4 ≤ sizeLine ∧ W__law_take b [.int 4] fun x d bs' => ixD (.list [.str "add", .str "less", .str "times", .str "under"]) d fun d =>
        W__law_term fuel bs' [.int (many : Int), .list hs, .int ((t + 1 : Nat) : Int)] fun x d_5 bs' => W__law_term fuel bs' [.int (many : Int), .list hs, .int ((t + 1 : Nat) : Int)] fun x d_6 bs' => 3 ≤ sizeLine ∧ k false (.tuple [d, d_5, d_6]) bs' := by
      refine ⟨len_line (by decide), take_spec h1 (by omega) (by decide) (by decide) fun r2 b2 l2 u2 h2 => ?_⟩
      refine opw_at l2 u2 fun w hw => ?_
      refine sf b2 _ _ h2 (by omega) fun d1 b3 t1 h3 => ?_
      refine sf b3 _ _ h3 (by omega) fun d2 b4 t2 h4 => ?_
      exact ⟨len_line (by decide), q _ _ (.op hw (TmAll.of (L := LT (t + 1)) [d1, d2] (by intro p hp; simp at hp; rcases hp with rfl | rfl <;> assumption)) (by simp; omega)) (h4.mono (by omega))⟩
    refine eqi (fun z1 => ?_) fun z1 => ?_
    · walk_at "t"
      exact term_leaf (many := many) h1 (by omega) (by omega) fun d bs' a c => q d bs' a (c.mono (by omega))
    walk_at "f"
    refine eqi (fun z2 => ?_) fun z2 => ?_
    · walk_at "t"
      split
      · exact term_leaf (many := many) h1 (by omega) (by omega) fun d bs' a c => q d bs' a (c.mono (by omega))
      · refine eqi (fun z3 => ?_) fun z3 => absurd z2 z3
        walk_at "t"
        exact term_arg h1 (by omega) (by omega) (by omega) hm fun d bs' a c => q d bs' a (c.mono (by omega))
    walk_at "f"
    refine eqi (fun z3 => absurd z3 z2) fun z3 => ?_
    walk_at "f"
    refine lti (fun z4 => ?_) fun z4 => ?_
    · walk_at "t"
      exact opc
    walk_at "f"
    refine ⟨len_line (by decide), heads_ne hh (by intro z; rw [z] at hl; cases hl) ?_⟩
    walk_at "f"
    refine eqi (fun z5 => ?_) fun z5 => ?_
    · walk_at "t"
      refine sf b _ _ h1 (by omega) fun d1 b3 t1 h3 => ?_
      refine sf b3 _ _ h3 (by omega) fun d2 b4 t2 h4 => ?_
      refine sf b4 _ _ h4 (by omega) fun d3 b5 t3 h5 => ?_
      exact ⟨len_line (by decide), q _ _ (.op OpF.if3 (TmAll.of (L := LT (t + 1)) [d1, d2, d3] (by intro p hp; simp at hp; rcases hp with rfl | rfl | rfl <;> assumption)) (by simp; omega)) (h5.mono (by omega))⟩
    · walk_at "f"
      refine take_spec h1 (by omega) (by omega) (by omega) fun r2 b2 l2 u2 h2 => ?_
      rw [ixD_li]
      obtain ⟨x, e, hx⟩ := atI_ex (xs := hs) l2 u2
      refine ⟨x, e, ?_⟩
      have fin : ∀ (s : Nat) (hd : List DL.D) (K : SK), s < 5 → (∀ ps bs' s11, ps.length = s → (∀ p ∈ ps, Tm (t + 1) (LT (t + 1)) p) → Bx (n + 1 + 1 + s * ct (t + 1)) bs' → K.nx [.own true bs', .dat (.int (many : Int)), .dat (.list hs), .dat (.int ((t + 1 + 1 : Nat) : Int)), .dat (.int r), .non, .non, .non, .dat (.tuple hd), .dat (.int (s : Int)), .own false ps, s11]) →
          forLoop (G1__law_term (W__law_term fuel)) (L1__law_term (W__law_term fuel)) K (rngD 0 ((s : Int)).toNat) [.own true b2, .dat (.int (many : Int)), .dat (.list hs), .dat (.int ((t + 1 + 1 : Nat) : Int)), .dat (.int r), .non, .non, .non, .dat (.tuple hd), .dat (.int (s : Int)), .own false [], .non] := fun s hd K hs5 hq => by
        have el : (rngD 0 ((s : Int)).toNat).length = s := by unfold rngD; simp
        have h4 : s * ct (t + 1) ≤ 4 * ct (t + 1) := Nat.mul_le_mul_right _ (by omega)
        refine draw_loop (h := t + 1) (L := LT (t + 1)) (C := ct (t + 1)) (t := t + 1 + 1) (fun bs n k a c f => by rw [et]; exact sf bs n k a c f) _ [] b2 (n + 1 + 1) .non h2 (by rw [el]; omega) (by rw [el]; simp; omega) (fun _ z => nomatch z) fun ps bs' s11 g1 g2 g3 => ?_
        rw [el] at g3 g1
        exact hq ps bs' s11 (by simpa using g1) g2 g3
      cases hh x hx with
      | call c1 c2 c3 =>
        rename_i is s
        refine ⟨rfl, len_line (by decide), by omega, by omega, fin s _ _ c3 fun ps bs' s11 g1 g2 g3 => ?_⟩
        have h4 : s * ct (t + 1) ≤ 4 * ct (t + 1) := Nat.mul_le_mul_right _ (by omega)
        have h5 : ps.length * (LT (t + 1) + 1) ≤ 4 * (LT (t + 1) + 1) := Nat.mul_le_mul_right _ (by omega)
        walk_at "ev"
        exact ⟨len_line (by decide), ⟨by simp, len_line (by decide)⟩, q _ _ (.call c1 c2 (TmAll.of ps g2) (by omega) (by omega)) (g3.mono (by omega))⟩
      | ring c1 c2 =>
        rename_i n' s
        refine ⟨rfl, len_line (by decide), by omega, by omega, fin s _ _ c2 fun ps bs' s11 g1 g2 g3 => ?_⟩
        have h4 : s * ct (t + 1) ≤ 4 * ct (t + 1) := Nat.mul_le_mul_right _ (by omega)
        have h5 : ps.length * (LT (t + 1) + 1) ≤ 4 * (LT (t + 1) + 1) := Nat.mul_le_mul_right _ (by omega)
        walk_at "ev"
        exact ⟨len_line (by decide), ⟨by simp, len_line (by decide)⟩, q _ _ (.ring c1 (TmAll.of ps g2) (by omega) (by omega)) (g3.mono (by omega))⟩
theorem any_step {h L n : Nat} {bs : List DL.D} {d : DL.D} {K : SK} {s1 s3 s4 s5 s6 s7 s8 : Slot} (hb : Bx n bs) (hn : n + 20 ≤ CAP) (td : Tm h L d) (hh : 1 ≤ h)
    (q : ∀ d' bs' s4 s5 s6 s7 s8, Tm (h + 1) (L + 40) d' → Bx (n + 20) bs' → K.nx [.own true bs', s1, .dat d', s3, s4, s5, s6, s7, s8]) : L1__law_any_term K [.own true bs, s1, .dat d, s3, s4, s5, s6, s7, s8] := by
  unfold L1__law_any_term
  walk_at "ev"
  refine number_spec hb (by omega) fun r1 b1 u1 h1 => ?_
  refine ⟨len_line (by decide), take_spec h1 (by omega) (by decide) (by decide) fun r2 b2 l2 u2 h2 => ?_⟩
  refine ⟨len_line (by decide), len_line (by decide), take_spec h2 (by omega) (by decide) (by decide) fun r3 b3 l3 u3 h3 => ?_⟩
  have e2 : r2 = ((r2.toNat : Nat) : Int) := by omega
  rw [ixD_li]
  obtain ⟨lf, e, hx⟩ := atI_ex (xs := [PyData.tuple [.str "num", .int (r1 : Int)], .tuple [.str "arg", .int r2]]) l3 (by show r3 < 2; omega)
  refine ⟨lf, e, ?_⟩
  have tl : Tm h 7 lf := by
    obtain ⟨h', rfl⟩ : ∃ h', h = h' + 1 := ⟨h - 1, by omega⟩
    simp only [List.mem_cons, List.not_mem_nil, or_false] at hx
    rcases hx with rfl | rfl
    · exact .num u1 (Nat.le_refl _)
    · rw [e2]; exact .arg (by omega) (by decide)
  have nl : TmAll h 0 [] := .nil
  refine take_spec h3 (by omega) (by decide) (by decide) fun r4 b4 l4 u4 h4 => ?_
  refine lti (fun z1 => ?_) fun z1 => ?_
  · walk_at "t"
    refine some_mark_spec h4 (by omega) fun is b5 i1 i2 h5 => ?_
    refine ⟨len_line (by decide), take_spec h5 (by omega) (by decide) (by decide) fun r6 b6 l6 u6 h6 => ?_⟩
    refine ⟨len_line (by decide), len_line (by decide), ?_⟩
    rw [ixD_li]
    obtain ⟨hd, e3, hx2⟩ := atI_ex (xs := [PyData.tuple [.str "call", .str (T is)], .tuple [.str "ring", .int r6]]) l4 (by show r4 < 2; omega)
    refine ⟨hd, e3, len_line (by decide), len_line (by decide), len_line (by decide), len_line (by decide), len_line (by decide), len_line (by decide), ?_⟩
    refine take_spec h6 (by omega) (by decide) (by decide) fun r7 b7 l7 u7 h7 => ?_
    rw [ixD_li]
    obtain ⟨x, e4, hx3⟩ := atI_ex (xs := [PyData.tuple [d], .tuple [lf, d], .tuple [d, lf], .tuple [lf, lf, lf, d], .tuple [lf, lf, d]]) l7 (by show r7 < 5; omega)
    refine ⟨x, e4, len_line (by decide), ?_⟩
    have tx : ∃ ds, x = .tuple ds ∧ ds.length ≤ 4 ∧ TmAll h (L + 25) ds := by
      simp only [List.mem_cons, List.not_mem_nil, or_false] at hx3
      rcases hx3 with rfl | rfl | rfl | rfl | rfl
      · exact ⟨_, rfl, by simp, .cons td nl (by omega)⟩
      · exact ⟨_, rfl, by simp, .cons tl (.cons td nl (Nat.le_refl _)) (by omega)⟩
      · exact ⟨_, rfl, by simp, .cons td (.cons tl nl (Nat.le_refl _)) (by omega)⟩
      · exact ⟨_, rfl, by simp, .cons tl (.cons tl (.cons tl (.cons td nl (Nat.le_refl _)) (Nat.le_refl _)) (Nat.le_refl _)) (by omega)⟩
      · exact ⟨_, rfl, by simp, .cons tl (.cons tl (.cons td nl (Nat.le_refl _)) (Nat.le_refl _)) (by omega)⟩
    obtain ⟨ds, rfl, tl4, ta⟩ := tx
    simp only [List.mem_cons, List.not_mem_nil, or_false] at hx2
    rcases hx2 with rfl | rfl
    · rw [addD_tt]
      exact ⟨⟨by simp, len_line (by simp)⟩, q _ _ _ _ _ _ _ (.call i1 i2 ta tl4 (by omega)) (h7.mono (by omega))⟩
    · rw [addD_tt]
      have e6 : r6 = ((r6.toNat : Nat) : Int) := by omega
      rw [e6]
      exact ⟨⟨by simp, len_line (by simp)⟩, q _ _ _ _ _ _ _ (.ring (by omega) ta tl4 (by omega)) (h7.mono (by omega))⟩
  · walk_at "f"
    refine eqi (fun z2 => ?_) fun z2 => ?_
    · walk_at "t"
      refine ⟨len_line (by decide), len_line (by decide), len_line (by decide), len_line (by decide), len_line (by decide), ?_⟩
      refine take_spec h4 (by omega) (by decide) (by decide) fun r7 b7 l7 u7 h7 => ?_
      rw [ixD_li]
      obtain ⟨x, e4, hx3⟩ := atI_ex (xs := [PyData.tuple [d, lf, lf], .tuple [lf, d, lf], .tuple [lf, lf, d]]) l7 (by show r7 < 3; omega)
      refine ⟨x, e4, ?_⟩
      have tx : ∃ d1 ds, x = .tuple (d1 :: ds) ∧ ds.length = 2 ∧ TmAll h (L + 25) (d1 :: ds) := by
        simp only [List.mem_cons, List.not_mem_nil, or_false] at hx3
        rcases hx3 with rfl | rfl | rfl
        · exact ⟨_, _, rfl, rfl, .cons td (.cons tl (.cons tl nl (Nat.le_refl _)) (Nat.le_refl _)) (by omega)⟩
        · exact ⟨_, _, rfl, rfl, .cons tl (.cons td (.cons tl nl (Nat.le_refl _)) (Nat.le_refl _)) (by omega)⟩
        · exact ⟨_, _, rfl, rfl, .cons tl (.cons tl (.cons td nl (Nat.le_refl _)) (Nat.le_refl _)) (by omega)⟩
      obtain ⟨d1, ds, rfl, el, ta⟩ := tx
      rw [addD_tt]
      exact ⟨⟨by simp, len_line (by simp; omega)⟩, q _ _ _ _ _ _ _ (.op (by rw [el]; exact OpF.if3) ta (by omega)) (h7.mono (by omega))⟩
    · walk_at "f"
      refine ⟨len_line (by decide), take_spec h4 (by omega) (by decide) (by decide) fun r7 b7 l7 u7 h7 => ?_⟩
      refine opw_at l7 u7 fun w hw => ?_
      refine ⟨len_line (by decide), len_line (by decide), len_line (by decide), len_line (by decide), ?_⟩
      rw [subD_ii, ixD_li]
      obtain ⟨x, e4, hx3⟩ := atI_ex (xs := [PyData.tuple [d, lf], .tuple [lf, d]]) (i := r4 - 3) (by omega) (by show r4 - 3 < 2; omega)
      refine ⟨x, e4, ?_⟩
      have tx : ∃ d1 ds, x = .tuple (d1 :: ds) ∧ ds.length = 1 ∧ TmAll h (L + 25) (d1 :: ds) := by
        simp only [List.mem_cons, List.not_mem_nil, or_false] at hx3
        rcases hx3 with rfl | rfl
        · exact ⟨_, _, rfl, rfl, .cons td (.cons tl nl (Nat.le_refl _)) (by omega)⟩
        · exact ⟨_, _, rfl, rfl, .cons tl (.cons td nl (Nat.le_refl _)) (by omega)⟩
      obtain ⟨d1, ds, rfl, el, ta⟩ := tx
      rw [addD_tt]
      exact ⟨⟨by simp, len_line (by simp; omega)⟩, q _ _ _ _ _ _ _ (.op (by rw [el]; exact hw) ta (by omega)) (h7.mono (by omega))⟩
theorem any_loop {K : SK} {s1 : Slot} : ∀ (ds : List DL.D) (h L n : Nat) (bs : List DL.D) (d : DL.D) (s3 s4 s5 s6 s7 s8 : Slot), Bx n bs → n + 20 * ds.length ≤ CAP → Tm h L d → 1 ≤ h →
    (∀ d' bs' s3 s4 s5 s6 s7 s8, Tm (h + ds.length) (L + 40 * ds.length) d' → Bx (n + 20 * ds.length) bs' → K.nx [.own true bs', s1, .dat d', s3, s4, s5, s6, s7, s8]) →
    forLoop G1__law_any_term L1__law_any_term K ds [.own true bs, s1, .dat d, s3, s4, s5, s6, s7, s8]
  | [], h, L, n, bs, d, s3, s4, s5, s6, s7, s8, hb, _, td, _, q => q d bs s3 s4 s5 s6 s7 s8 td hb
  | e :: ds, h, L, n, bs, d, s3, s4, s5, s6, s7, s8, hb, hn, td, hh, q => by
    rw [List.length_cons] at hn
    have ih := fun d' bs' s3 s4 s5 s6 s7 s8 (td' : Tm (h + 1) (L + 40) d') (hb' : Bx (n + 20) bs') => any_loop (K := K) (s1 := s1) ds (h + 1) (L + 40) (n + 20) bs' d' s3 s4 s5 s6 s7 s8 hb' (by omega) td' (by omega)
      fun d'' bs'' s3 s4 s5 s6 s7 s8 t'' b'' => q d'' bs'' s3 s4 s5 s6 s7 s8 (by
        rw [List.length_cons, show h + (ds.length + 1) = h + 1 + ds.length by omega, show L + 40 * (ds.length + 1) = L + 40 + 40 * ds.length by omega]; exact t'') (b''.mono (by rw [List.length_cons]; omega))
    rw [forLoop_cons]
    generalize forLoop G1__law_any_term L1__law_any_term K ds = F at ih ⊢
    exact any_step (K := loopK K F) (s3 := .dat e) hb (by omega) td hh fun d' bs' s4 s5 s6 s7 s8 t b => ih d' bs' _ s4 s5 s6 s7 s8 t b
theorem hd_loop {E : M DL.D} {k : List DL.D → List Slot → Prop} {s1 s2 s4 s5 s6 s7 s8 : Slot}
    (se : ∀ (bs : List DL.D) (n : Nat) (s3 : Slot) (k : DL.D → List Slot → Prop), Bx n bs → n + 8 ≤ CAP → (∀ d bs', Hd d → Bx (n + 8) bs' → k d [.own true bs', s1, s2, s3, s4, s5, s6, s7, s8]) → E [.own true bs, s1, s2, s3, s4, s5, s6, s7, s8] k) :
    ∀ (ds acc bs : List DL.D) (n : Nat), Bx n bs → n + 8 * ds.length ≤ CAP → acc.length + ds.length ≤ 1000 → (∀ d ∈ acc, Hd d) →
    (∀ hs bs', hs.length = acc.length + ds.length → (∀ d ∈ hs, Hd d) → Bx (n + 8 * ds.length) bs' → k hs [.own true bs', s1, s2, .non, s4, s5, s6, s7, s8]) →
    lcLoop (gVar 3) (mPure true) E [3] k ds acc [.own true bs, s1, s2, .non, s4, s5, s6, s7, s8]
  | [], acc, bs, n, hb, _, _, ha, q => q acc bs rfl ha hb
  | d :: ds, acc, bs, n, hb, hn, hl, ha, q => by
    rw [List.length_cons] at hn hl
    have ih := fun d' bs' (hd : Hd d') hb' => hd_loop (k := k) se ds (acc ++ [d']) bs' (n + 8) hb' (by omega) (by rw [List.length_append, List.length_singleton]; omega)
      (fun x hx => (List.mem_append.mp hx).elim (ha x) fun y => by rw [List.mem_singleton.mp y]; exact hd)
      fun hs bs'' g1 g2 g3 => q hs bs'' (by rw [g1, List.length_append, List.length_singleton, List.length_cons]; omega) g2 (g3.mono (by rw [List.length_cons]; omega))
    rw [lcLoop_cons]
    generalize lcLoop (gVar 3) (mPure true) E [3] k ds = F at ih ⊢
    show E [.own true bs, s1, s2, .dat d, s4, s5, s6, s7, s8] fun e ρ3 => acc.length < sizeLine ∧ F (acc ++ [e]) (wipeS ρ3 [3])
    exact se bs n _ _ hb (by omega) fun d' bs' hd hb' => ⟨Nat.lt_of_lt_of_le (by omega) (len_line (n := 1001) (by decide)), ih d' bs' hd hb'⟩
theorem se1 {s1 s2 s4 s5 s6 s7 s8 : Slot} (bs : List DL.D) (n : Nat) (s3 : Slot) (k : DL.D → List Slot → Prop) (hb : Bx n bs) (hn : n + 8 ≤ CAP) (q : ∀ d bs', Hd d → Bx (n + 8) bs' → k d [.own true bs', s1, s2, s3, s4, s5, s6, s7, s8]) : E1__law_any_term [.own true bs, s1, s2, s3, s4, s5, s6, s7, s8] k := by
  unfold E1__law_any_term
  walk_at "ev"
  refine some_mark_spec hb (by omega) fun is b1 i1 i2 h1 => ?_
  refine ⟨len_line (by decide), take_spec h1 (by omega) (by decide) (by decide) fun r b2 l u h2 => ?_⟩
  refine ⟨len_line (by decide), ?_⟩
  have e : r = ((r.toNat : Nat) : Int) := by omega
  rw [e]
  exact q _ _ (.call i1 i2 (by omega)) (h2.mono (by omega))
theorem se2 {s1 s2 s4 s5 s6 s7 s8 : Slot} (bs : List DL.D) (n : Nat) (s3 : Slot) (k : DL.D → List Slot → Prop) (hb : Bx n bs) (hn : n + 8 ≤ CAP) (q : ∀ d bs', Hd d → Bx (n + 8) bs' → k d [.own true bs', s1, s2, s3, s4, s5, s6, s7, s8]) : E2__law_any_term [.own true bs, s1, s2, s3, s4, s5, s6, s7, s8] k := by
  unfold E2__law_any_term
  walk_at "ev"
  refine take_spec hb (by omega) (by decide) (by decide) fun r1 b1 l1 u1 h1 => ?_
  refine ⟨len_line (by decide), take_spec h1 (by omega) (by decide) (by decide) fun r2 b2 l2 u2 h2 => ?_⟩
  rw [ixD_li]
  obtain ⟨x, e, hx⟩ := atI_ex (xs := [PyData.int 0, .int 11, .int r1]) l2 (by show r2 < 3; omega)
  refine ⟨x, e, len_line (by decide), take_spec h2 (by omega) (by decide) (by decide) fun r3 b3 l3 u3 h3 => ?_⟩
  refine ⟨len_line (by decide), ?_⟩
  have e3 : r3 = ((r3.toNat : Nat) : Int) := by omega
  have e1 : r1 = ((r1.toNat : Nat) : Int) := by omega
  rw [e3]
  have key : ∃ m : Nat, x = .int (m : Int) ∧ m ≤ 11 := by
    simp only [List.mem_cons, List.not_mem_nil, or_false] at hx
    rcases hx with rfl | rfl | rfl
    · exact ⟨0, rfl, by decide⟩
    · exact ⟨11, rfl, by decide⟩
    · exact ⟨r1.toNat, by rw [← e1], by omega⟩
  obtain ⟨m, rfl, hm⟩ := key
  exact q _ _ (.ring hm (by omega)) (h3.mono (by omega))
theorem any_spec {n : Nat} {bs : List DL.D} {k : Bool → DL.D → List DL.D → Prop} (hb : Bx n bs) (hn : n + 300 ≤ CAP) (q : ∀ d bs', Tm 8 400 d → Bx (n + 300) bs' → k false d bs') : W__law_any_term bs [] k := by
  unfold W__law_any_term m__law_any_term
  rw [fnB]
  simp only [sSeq, sSetN, mRng1, mCons, mPure, mNil, mLc]
  refine ⟨by decide, by decide, ?_⟩
  show lcLoop _ _ _ _ _ (rngD 0 2) [] [.own true bs, .non, .non, .non, .non, .non, .non, .non, .non]
  refine hd_loop se1 _ [] bs n hb (by show n + 8 * 2 ≤ CAP; omega) (by decide) (fun _ z => nomatch z) fun hs1 b1 g1 g2 h1 => ?_
  simp only [sSet, mBin, mVar, mList, mLc, mRng1, mCons, mPure, mNil, List.set_cons_zero, List.set_cons_succ, List.getElem?_cons_zero, List.getElem?_cons_succ]
  refine ⟨by decide, by decide, ?_⟩
  show lcLoop _ _ _ _ _ (rngD 0 2) [] [.own true b1, .dat (.list hs1), .non, .non, .non, .non, .non, .non, .non]
  have h1 : Bx (n + 16) b1 := h1
  refine hd_loop se2 _ [] b1 (n + 16) h1 (by show n + 16 + 8 * 2 ≤ CAP; omega) (by decide) (fun _ z => nomatch z) fun hs2 b2 g3 g4 h2 => ?_
  have h2 : Bx (n + 32) b2 := h2
  have g1 : hs1.length = 2 := g1
  have g3 : hs2.length = 2 := g3
  rw [addD_ll]
  refine ⟨by rw [g1, g3]; exact len_line (by decide), ?_⟩
  walk_at "ev"
  refine take_spec h2 (by omega) (by decide) (by decide) fun r1 b3 l1 u1 h3 => ?_
  rw [addD_ii]
  refine take_spec h3 (by omega) (by decide) (by decide) fun r2 b4 l2 u2 h4 => ?_
  rw [addD_ii]
  have e1 : 1 + r1 = ((r1.toNat + 1 : Nat) : Int) := by omega
  have e2 : 1 + r2 = ((r2.toNat + 1 : Nat) : Int) := by omega
  rw [e1, e2]
  have ht : r2.toNat < 3 := by omega
  have hct : ct (r2.toNat + 1) ≤ 106 := by
    have : ∀ t, t < 3 → ct (t + 1) ≤ 106 := by decide
    exact this _ ht
  have hlt : LT (r2.toNat + 1) ≤ 192 := by
    have : ∀ t, t < 3 → LT (t + 1) ≤ 192 := by decide
    exact this _ ht
  refine term_spec r2.toNat 6 b4 (n + 34) (r1.toNat + 1) (hs1 ++ hs2) _ (by omega) (h4.mono (by omega)) (by omega) (by omega)
    (fun d hd => (List.mem_append.mp hd).elim (g2 d) (g4 d)) (by rw [List.length_append, g1, g3]) fun d b5 td h5 => ?_
  try walk_at "ev"
  refine take_spec (h5.mono (show n + 34 + ct (r2.toNat + 1) ≤ n + 140 by omega)) (by omega) (by decide) (by decide) fun r3 b6 l3 u3 h6 => ?_
  dsimp only
  refine ⟨by omega, by omega, ?_⟩
  have el : (rngD 0 r3.toNat).length = r3.toNat := by unfold rngD; simp
  refine any_loop (rngD 0 r3.toNat) 3 192 (n + 141) b6 d _ _ _ _ _ _ h6 (by rw [el]; omega) (td.up _ _ _ _ _ (by omega) hlt) (by decide) fun d' b7 s3 s4 s5 s6 s7 s8 t7 h7 => ?_
  rw [el] at t7 h7
  walk_at "ev"
  exact q _ _ (t7.up _ _ _ _ _ (by omega) (by omega)) (h7.mono (by omega))

/-! ### the same as itself -/
theorem same_refl : ∀ (n : Nat) (d : DL.D) (fuel : Nat) (k : Bool → DL.D → Prop), Cl n d → n ≤ fuel → k false (.bool true) → W__law_same fuel [d, d] k
  | 0, d, _, _, h, _, _ => h.elim
  | n + 1, d, 0, _, _, h, _ => absurd h (by omega)
  | n + 1, d, fuel + 1, k, h, hf, q => by
    have seqs : ∀ (ds : List DL.D) (s0 s1 : Slot), ds.length ≤ 1000000 → (∀ d ∈ ds, Cl n d) → lcLoop (gTupD 2 (gConsD (gVar 2) (gConsD (gVar 3) gNilD))) (mPure true) (E1__law_same (W__law_same fuel)) [2, 3] (fun ds ρ1 => allD [.list ds] fun d => k false d) (zipD ds ds) [] [s0, s1, .non, .non] := by
      intro ds s0 s1 hl hd
      rw [zip_self]
      refine lc_mapG (ρ := [s0, s1, .non, .non]) (fun d => .tuple [d, d]) (fun _ => .bool true) (fun d => [s0, s1, .dat d, .dat d]) (fun x kk hk => ?_) (fun x => rfl) rfl ds [] (by simpa using hl) (fun x hx kk hk => ?_) ?_
      · walk_at "ev"
        exact hk
      · unfold E1__law_same
        walk_at "ev"
        exact same_refl n x fuel _ (hd x hx) (by omega) hk
      · exact all_true q
    unfold W__law_same m__law_same
    cases d with
    | none =>
      walk_at "ev"
      refine ⟨rfl, ?_⟩
      rw [if_neg (show ¬ ((isiD "list" PyData.none || isiD "tuple" PyData.none) = true) from Bool.false_ne_true)]
      exact ⟨⟨rfl, rfl⟩, rfl, rfl, q⟩
    | bool b =>
      walk_at "ev"
      refine ⟨rfl, ?_⟩
      rw [if_neg (show ¬ ((isiD "list" (PyData.bool b) || isiD "tuple" (PyData.bool b)) = true) from Bool.false_ne_true)]
      refine ⟨rfl, ?_⟩
      rw [if_neg (show ¬ ((isiD "str" (PyData.bool b)) = true) from Bool.false_ne_true)]
      refine ⟨rfl, ?_⟩
      rw [show isiD "int" (PyData.bool b) = true from rfl]
      refine ⟨rfl, rfl, ?_⟩
      rw [show isiD "bool" (PyData.bool b) = true from rfl]
      rw [show (true == true) = true from rfl]
      rw [show (b == b) = true from by simp]
      exact q
    | int i =>
      walk_at "ev"
      refine ⟨rfl, ?_⟩
      rw [if_neg (show ¬ ((isiD "list" (PyData.int i) || isiD "tuple" (PyData.int i)) = true) from Bool.false_ne_true)]
      refine ⟨rfl, ?_⟩
      rw [if_neg (show ¬ ((isiD "str" (PyData.int i)) = true) from Bool.false_ne_true)]
      refine ⟨rfl, ?_⟩
      rw [show isiD "int" (PyData.int i) = true from rfl]
      refine ⟨rfl, rfl, ?_⟩
      rw [show isiD "bool" (PyData.int i) = false from rfl]
      rw [show (false == false) = true from rfl]
      simpa using q
    | str x =>
      walk_at "ev"
      refine ⟨rfl, ?_⟩
      rw [if_neg (show ¬ ((isiD "list" (PyData.str x) || isiD "tuple" (PyData.str x)) = true) from Bool.false_ne_true)]
      refine ⟨rfl, ?_⟩
      rw [if_pos (show (isiD "str" (PyData.str x)) = true from rfl)]
      refine ⟨⟨h, h⟩, ?_⟩
      rw [beq_self_eq_true]
      refine ⟨rfl, rfl, ?_⟩
      rw [show isiD "str" (PyData.str x) = true from rfl]
      exact q
    | list ds =>
      walk_at "ev"
      refine ⟨rfl, ?_⟩
      rw [if_pos (show (isiD "list" (PyData.list ds) || isiD "tuple" (PyData.list ds)) = true from rfl)]
      refine ⟨rfl, rfl, ?_⟩
      rw [show isiD "list" (PyData.list ds) = true from rfl]
      rw [show (!(true == true)) = false from rfl, if_neg Bool.false_ne_true]
      refine ⟨rfl, rfl, ?_⟩
      rw [show isiD "tuple" (PyData.list ds) = false from rfl]
      rw [show (!(false == false)) = false from rfl, if_neg Bool.false_ne_true]
      rw [decide_true]
      exact seqs ds _ _ h.1 h.2
    | tuple ds =>
      walk_at "ev"
      refine ⟨rfl, ?_⟩
      rw [if_pos (show (isiD "list" (PyData.tuple ds) || isiD "tuple" (PyData.tuple ds)) = true from rfl)]
      refine ⟨rfl, rfl, ?_⟩
      rw [show isiD "list" (PyData.tuple ds) = false from rfl]
      rw [show (!(false == false)) = false from rfl, if_neg Bool.false_ne_true]
      refine ⟨rfl, rfl, ?_⟩
      rw [show isiD "tuple" (PyData.tuple ds) = true from rfl]
      rw [show (!(true == true)) = false from rfl, if_neg Bool.false_ne_true]
      rw [decide_true]
      exact seqs ds _ _ h.1 h.2
    | dict l => exact h.elim

/-! ### boxes of lists of ints -/
theorem box_spec {cs : List Int} {i : Int} {k : Bool → DL.D → Prop} (h0 : 0 ≤ i) (hi : i ≤ 100) (q : ∀ bs, Bx 0 bs → k true (.list bs)) : W__law_box [.list (cs.map PyData.int), .int i] k := by
  unfold W__law_box m__law_box
  walk_at "ev"
  rw [List.length_map]
  have fin : ∀ a b : Int, 0 ≤ a → 0 ≤ b → b < 2147483648 → 3 ≤ sizeLine ∧ k true (.list [.int a, .int b, .int 0]) := fun a b h1 h2 h3 => ⟨len_line (by decide), q _ ⟨a, b, 0, rfl, h1, h2, h3, by decide, by decide⟩⟩
  split
  · rename_i h
    obtain ⟨c, e⟩ := at_ints h0 h
    refine ⟨_, e, ?_⟩
    rw [absD_i, absD_i]
    obtain ⟨c1, c2, c3, c4, c5, c6, c7⟩ := box_core (c := c) (P := fun a b => 3 ≤ sizeLine ∧ k true (.list [a, b, .int 0])) h0 hi fin
    refine ⟨c1, ?_⟩
    rw [geD_ii, intD_b, mulD_ii]
    simp only [decide_eq_true_eq]
    refine ⟨c2, ?_⟩
    rw [modD_ii]
    refine ⟨c3, c4, ?_⟩
    rw [addD_ii, addD_ii, mulD_ii, modD_ii]
    exact ⟨c5, c6, c7⟩
  · exact box_core (c := 0) (P := fun a b => 3 ≤ sizeLine ∧ k true (.list [a, b, .int 0])) h0 hi fin

/-! ### the cells of a script -/
theorem foldS_loop {m : Nat} (hm : 1 ≤ m) (hm2 : m ≤ 100) {K : SK} {s0 : Slot} : ∀ (ms : List Int) (j : Nat) (cs : List Int) (s3 s4 : Slot), cs.length = m → j + ms.length ≤ 100 → (∀ (cs : List Int) s3 s4, cs.length = m → K.nx [s0, .dat (.int (m : Nat)), .own false (cs.map PyData.int), s3, s4]) →
    forLoop G1__law_folded L1__law_folded K (((ms.map PyData.int).zipIdx j).map fun p => .tuple [.int (p.2 : Nat), p.1]) [s0, .dat (.int (m : Nat)), .own false (cs.map PyData.int), s3, s4]
  | [], j, cs, s3, s4, hc, _, q => q cs s3 s4 hc
  | x :: ms, j, cs, s3, s4, hc, hj, q => by
    rw [List.length_cons] at hj
    have ih := fun (cs : List Int) s3 s4 (hc : cs.length = m) => foldS_loop hm hm2 (K := K) (s0 := s0) ms (j + 1) cs s3 s4 hc (by omega) q
    rw [List.map_cons, List.zipIdx_cons, List.map_cons, forLoop_cons]
    generalize forLoop G1__law_folded L1__law_folded K (((ms.map PyData.int).zipIdx (j + 1)).map fun p => .tuple [.int (p.2 : Nat), p.1]) = F at ih ⊢
    unfold G1__law_folded L1__law_folded
    walk_at "ev"
    have h0 : 0 ≤ (j : Int) % (m : Int) := Int.emod_nonneg _ (by omega)
    have h1 : (j : Int) % (m : Int) < m := Int.emod_lt_of_pos _ (by omega)
    obtain ⟨c, e⟩ := at_ints (cs := cs) h0 (by rw [hc]; exact h1)
    refine ⟨by omega, _, e, cmul_r (by omega) (by omega), ?_⟩
    rw [addD_ii]
    refine ⟨by omega, _, ixN_of h0 (by rw [List.length_map, hc]; exact h1), ?_⟩
    have := ih (cs.set ((j : Int) % (m : Int)).toNat (c + x * ((j : Int) + 2))) (.dat (.int (j : Int))) (.dat (.int x)) (by rw [List.length_set]; exact hc)
    rw [List.map_set] at this
    exact this
theorem foldS_spec {m : Nat} (hm : 1 ≤ m) (hm2 : m ≤ 60) {ns : List Int} {k : Bool → DL.D → Prop} (hl : ns.length ≤ 63) (q : ∀ cs : List Int, cs.length ≤ m → k true (.list (cs.map PyData.int))) : W__law_folded [.dict (scrD ns), .int (m : Nat)] k := by
  unfold W__law_folded m__law_folded
  walk_at "ev"
  refine ⟨ns, rfl, ?_⟩
  walk_at "ev"
  refine ⟨ns, rfl, ?_⟩
  walk_at "ev"
  have hc : (cutL ns none (some ((m : Nat) : Int))).length = min m ns.length := by
    unfold cutL
    rw [HT.sIx_none, HT.sIx_nat, List.length_take, List.length_drop]; omega
  have hr : (cutL ns (some ((m : Nat) : Int)) (some 63)).length = min 63 ns.length - min m ns.length := by
    unfold cutL
    rw [show (some (63 : Int)) = some ((63 : Nat) : Int) from rfl, HT.sIx_nat, HT.sIx_nat, List.length_take, List.length_drop]; omega
  unfold enumD
  by_cases h3 : m ≤ ns.length
  · refine foldS_loop hm (by omega) (cutL ns (some ((m : Nat) : Int)) (some 63)) 0 (cutL ns none (some ((m : Nat) : Int))) .non .non (by omega) (by omega) fun cs s3 s4 h => ?_
    walk_at "ev"
    exact q cs (by omega)
  · have : cutL ns (some ((m : Nat) : Int)) (some 63) = [] := List.eq_nil_of_length_eq_zero (by omega)
    rw [this]
    rw [List.map_nil, List.zipIdx_nil, List.map_nil, forLoop]
    walk_at "ev"
    exact q _ (by omega)
/-- the turns of a comprehension, each true, that draw -/
theorem lc_draws {g : GMn} {te : M DL.D} {vs : List Nat} {k : List DL.D → List Slot → Prop} {c : Nat} (st st' : List DL.D → DL.D → List Slot) (ρ : List DL.D → List Slot) (hg : ∀ bs d (kk : List Slot → Prop), kk (st bs d) → g d (ρ bs) kk) (hρ : ∀ bs, wipeS (ρ bs) vs = ρ bs)
    (hs : ∀ bs d n, Bx n bs → n + c ≤ CAP → ∀ kk : DL.D → List Slot → Prop, (∀ bs', Bx (n + c) bs' → kk (.bool true) (st' bs' d)) → te (st bs d) kk) (hw : ∀ bs d, wipeS (st' bs d) vs = ρ bs) :
    ∀ (ds : List DL.D) (m n : Nat) (bs : List DL.D), Bx n bs → n + c * ds.length ≤ CAP → m + ds.length ≤ 1000 → (∀ m bs' n', Bx n' bs' → n' ≤ n + c * ds.length → k (List.replicate m (.bool true)) (ρ bs')) → lcLoop g (mPure true) te vs k ds (List.replicate m (.bool true)) (ρ bs)
  | [], m, n, bs, hb, _, _, q => by
    rw [lcLoop_nil, hρ]
    exact q m bs n hb (Nat.le_add_right _ _)
  | d :: ds, m, n, bs, hb, hn, hm, q => by
    rw [List.length_cons] at hn hm
    have hmul : c * (ds.length + 1) = c * ds.length + c := Nat.mul_succ _ _
    rw [lcLoop_cons]
    refine hg bs d _ ?_
    show te (st bs d) _
    refine hs bs d n hb (by omega) _ fun bs' hb' => ⟨by rw [List.length_replicate]; exact Nat.lt_of_lt_of_le (by omega) (len_line (n := 1001) (by decide)), ?_⟩
    rw [hw, ← List.replicate_succ']
    exact lc_draws st st' ρ hg hρ hs hw ds (m + 1) (n + c) bs' hb' (by omega) (by omega) fun m bs'' n' h1 h2 => q m bs'' n' h1 (by rw [List.length_cons]; omega)

/-! ### bent things -/
theorem cut_take' {α : Type} (xs : List α) {r : Nat} (h : r ≤ xs.length) : cutL xs none (some ((r : Nat) : Int)) = xs.take r := by
  unfold cutL
  rw [HT.sIx_none, HT.sIx_nat, Nat.min_eq_left h]
  simp
theorem cut_drop' {α : Type} (xs : List α) {r : Nat} (h : r ≤ xs.length) : cutL xs (some ((r : Nat) : Int)) none = xs.drop r := by
  unfold cutL
  rw [HT.sIx_none, HT.sIx_nat, Nat.min_eq_left h]
  rw [List.take_of_length_le]
  rw [List.length_drop]
  omega
theorem Gs.put {nn a w : Nat} {xs ys : List DL.D} {x e : DL.D} (h : Gs nn a w (xs ++ x :: ys)) (he : Gd (nn + 1) (a + 3) (2 * x.weight + 400) e) : Gs (nn + 1) (a + 3) (2 * w + 400) (xs ++ [e] ++ ys) := by
  obtain ⟨h1, h2, h3⟩ := h.split
  have wx : PyData.weightAll (x :: ys) = x.weight + 1 + PyData.weightAll ys := rfl
  have up : ∀ {b : Nat} {ds : List DL.D}, Gs nn a b ds → Gs (nn + 1) (a + 3) b ds := fun h => ⟨fun d hd => (h.asc d hd).up, by have := h.dep; omega, h.wgt⟩
  have h2' : Gs nn a (PyData.weightAll ys) ys := ⟨fun d hd => h2.asc d (by simp [hd]), by have := h2.dep; have e : PyData.depthAll (x :: ys) = max x.depth (PyData.depthAll ys) := rfl; omega, Nat.le_refl _⟩
  have g1 : Gs (nn + 1) (a + 3) (2 * x.weight + 401) [e] := Gs.cons he Gs.nil (v := 0) (by omega)
  refine ((up h1).app g1 (Nat.le_refl _)).app (up h2') ?_
  omega
theorem bent_spec : ∀ (fuel : Nat) {nn a w n : Nat} {d : DL.D} {bs : List DL.D} {k : Bool → DL.D → List DL.D → Prop}, d.depth + 1 ≤ fuel → Bx n bs → n + 3 * fuel < CAP → Gd nn a w d → nn ≤ 900 → a ≤ 50 → w ≤ 40000 →
    (∀ b e bs', Gd (nn + 1) (a + 3) (2 * w + 400) e → Bx (n + 3 * fuel) bs' → k b e bs') → W__law_bent fuel bs [d] k
  | 0, nn, a, w, n, d, bs, k, hf, _, _, _, _, _, _, _ => absurd hf (by omega)
  | fuel + 1, nn, a, w, n, d, bs, k, hf, hb, hn, h, h9, ha, hw, q => by
    have odd : ∀ {m : Nat} {bs : List DL.D}, Bx m bs → m ≤ n + 1 → W__law_odd bs [d] k := fun {m bs} hb hm => odd_spec hb (by omega) h h9 ha hw fun b e bs' he hb' => q b e bs' he (hb'.mono (by omega))
    unfold W__law_bent m__law_bent
    walk_at "ev"
    cases d with
    | none => exact ⟨rfl, odd hb (by omega)⟩
    | bool b => exact ⟨rfl, odd hb (by omega)⟩
    | int i => exact ⟨rfl, odd hb (by omega)⟩
    | str x => exact ⟨rfl, odd hb (by omega)⟩
    | list ds => exact ⟨rfl, odd hb (by omega)⟩
    | dict l => cases h.asc
    | tuple ds =>
      refine ⟨rfl, ?_⟩
      rw [if_neg (show ¬ ((!isiD "tuple" (PyData.tuple ds)) = true) from Bool.false_ne_true)]
      refine ⟨Nat.zero_le _, ⟨h.shaped (by omega) (by omega), rfl⟩, ?_⟩
      cases ds with
      | nil => exact odd hb (by omega)
      | cons x r =>
        rw [show PyData.eqv (.tuple (x :: r)) (.tuple []) = false from rfl]
        walk_at "ev"
        refine take_spec hb (by omega) (by decide) (by decide) fun r1 b1 l1 u1 hb1 => ?_
        have go : ∀ (i : Nat) {m : Nat} {bs : List DL.D}, i < (x :: r).length → Bx m bs → m ≤ n + 3 → (slD (.tuple (x :: r)) none (some (i : Int)) fun r_1 => ixD (.tuple (x :: r)) (.int i) fun d_1 =>
            W__law_bent fuel bs [d_1] fun x_2 d_2 bs' => 1 ≤ sizeLine ∧ addAD r_1 (.tuple [d_2]) fun d_3 => addAD (.int i) (.int 1) fun d => match d with
              | .int i => slD (.tuple (x :: r)) (some i) none fun r => addAD d_3 r fun d => k false d bs'
              | _ => False) := fun i {m bs} hi hb hm => by
          rw [slD_t, cut_take' _ (Nat.le_of_lt hi)]
          have e : atI (x :: r) (i : Int) = some (x :: r)[i] := atI_of (by omega) (by rw [Int.toNat_natCast]; exact List.getElem?_eq_getElem hi)
          refine ⟨_, e, ?_⟩
          have gs := h.un
          have sp : x :: r = (x :: r).take i ++ (x :: r)[i] :: (x :: r).drop (i + 1) := by rw [List.getElem_cons_drop, List.take_append_drop]
          have mem : (x :: r)[i] ∈ x :: r := List.getElem_mem hi
          have d1 : ((x :: r)[i]).depth + 1 ≤ fuel := by
            have := depth_mem mem
            have e : PyData.depthAll (x :: r) + 1 + 1 ≤ fuel + 1 := hf
            omega
          have a1 : 1 ≤ a := by have e : PyData.depthAll (x :: r) + 1 ≤ a := h.dep; omega
          have g1 := gs.mem mem
          have wl : ((x :: r)[i]).weight ≤ w := g1.wgt
          have g2 : Gd nn (a - 1) ((x :: r)[i]).weight (x :: r)[i] := ⟨g1.asc, g1.dep, Nat.le_refl _⟩
          refine bent_spec fuel d1 hb (by omega) g2 h9 (by omega) (by omega) fun b e bs' he hb' => ⟨by decide, ?_⟩
          rw [addAD_tt]
          have ll : (x :: r).length ≤ w := Nat.le_trans (wa_len _) gs.wgt
          refine ⟨len_line (by rw [List.length_take]; simp only [List.length_cons, List.length_nil] at ll ⊢; omega), ?_⟩
          rw [addAD_ii]
          show slD (.tuple (x :: r)) (some (((i + 1 : Nat)) : Int)) none _
          rw [slD_t, cut_drop' _ hi, addAD_tt]
          refine ⟨len_line (by rw [List.length_append, List.length_take, List.length_drop]; simp only [List.length_cons, List.length_nil] at ll ⊢; omega), ?_⟩
          have gp : Gs (nn + 1) (a - 1 + 3) (2 * w + 400) ((x :: r).take i ++ [e] ++ (x :: r).drop (i + 1)) := Gs.put (by rw [← sp]; exact gs) he
          exact q _ _ _ (gp.tup.up (by omega) (Nat.le_refl _)) (hb'.mono (by omega))
        rw [eqD_ii]
        dsimp only
        by_cases z : r1 = 0
        · rw [decide_eq_true z]
          exact odd hb1 (by omega)
        rw [decide_eq_false z]
        refine take_spec hb1 (by omega) (by decide) (by decide) fun r2 b2 l2 u2 hb2 => ?_
        rw [eqD_ii]
        dsimp only
        by_cases z2 : r2 = 0
        · rw [decide_eq_true z2, if_pos rfl, subAD_ii]
          have e : (((r.length + 1 : Nat)) : Int) - 1 = ((r.length : Nat) : Int) := by omega
          rw [e]
          exact go r.length (by simp) hb2 (by omega)
        · rw [decide_eq_false z2]
          have lw : (x :: r).length ≤ w := Nat.le_trans (wa_len _) h.un.wgt
          rw [List.length_cons] at lw
          refine take_spec hb2 (by omega) (by omega) (by omega) fun r3 b3 l3 u3 hb3 => ?_
          have e : r3 = ((r3.toNat : Nat) : Int) := by omega
          rw [e]
          exact go r3.toNat (by rw [List.length_cons]; omega) hb3 (by omega)
theorem dat_asc : ∀ (n : Nat) (t : Te), t.Ok → t.deep ≤ n → Asc 0 t.dat
  | 0, t, _, h => absurd (deep_pos t) (by omega)
  | n + 1, .node hd ps, o, h => by
    have kids : ∀ d ∈ Te.dats ps, Asc 0 d := fun d hd => by
      rw [dats_eq] at hd
      obtain ⟨t, ht, rfl⟩ := List.mem_map.mp hd
      exact dat_asc n t (o.all t ht) (deep_kids h t ht)
    have f := o.fit
    show Asc 0 (hd.D (Te.dats ps))
    have nat : ∀ {m : Nat}, m ≤ 1000002 → Asc 0 (.int (m : Nat)) := fun {m} h => by
      have : (1000002 : Nat) < 10 ^ 35 := by decide
      refine .int ?_
      rw [Int.natAbs_natCast, Nat.add_zero]
      exact Nat.lt_of_le_of_lt h this
    have cons : ∀ {x : DL.D} {xs : List DL.D}, Asc 0 x → (∀ d ∈ xs, Asc 0 d) → ∀ d ∈ x :: xs, Asc 0 d := fun hx hs d hd => by
      rcases List.mem_cons.mp hd with e | hd
      · rw [e]; exact hx
      · exact hs d hd
    have nil : ∀ d ∈ ([] : List DL.D), Asc 0 d := fun _ h => (List.not_mem_nil h).elim
    cases hd with
    | num m => exact .tuple (cons (asc_of _ (by decide +kernel)) (cons (nat f.1) nil))
    | arg m => exact .tuple (cons (asc_of _ (by decide +kernel)) (cons (nat (by have := f.1; omega)) nil))
    | op w =>
      refine .tuple (cons (asc_of _ ?_) kids)
      have : ∀ w, w < 5 → ascB (.str (opS w)) = true := by decide +kernel
      exact this w f.1
    | call m =>
      refine .tuple (cons (asc_of _ (by decide +kernel)) (cons ?_ (cons (.tuple kids) nil)))
      refine .str fun c hc => ?_
      rw [T_list] at hc
      obtain ⟨i, hi, rfl⟩ := List.mem_map.mp hc
      have : ∀ i, i < 36 → dig i < 128 := by decide +kernel
      exact this i (f.2.1 i hi)
    | ring p => exact .tuple (cons (asc_of _ (by decide +kernel)) (cons (nat (by have := f.1; omega)) (cons (.tuple kids) nil)))
theorem dat_gd {t : Te} (o : t.Ok) (l : t.deep ≤ 8) (s : t.size ≤ 400) : Gd 0 16 16000 t.dat :=
  ⟨dat_asc 8 t o l, (dat_lay 8 t o l).2, by have := (dat_short 8 t o l).2.2; omega⟩
theorem belowB_nat {m n : Nat} (h : n < m) : belowB m (.int (n : Nat)) = true := by
  show (decide ((0 : Int) ≤ (n : Int)) && decide ((n : Int) < (m : Nat))) = true
  rw [decide_eq_true (by omega), decide_eq_true (by omega)]
  rfl
theorem dat_isTm : ∀ (n : Nat) (t : Te), t.Ok → t.deep ≤ n → isTm n t.dat = true
  | 0, t, _, h => absurd (deep_pos t) (by omega)
  | n + 1, .node hd ps, o, h => by
    have kids : (Te.dats ps).all (isTm n) = true := List.all_eq_true.mpr fun d hd => by
      rw [dats_eq] at hd
      obtain ⟨t, ht, rfl⟩ := List.mem_map.mp hd
      exact dat_isTm n t (o.all t ht) (deep_kids h t ht)
    have kl : (Te.dats ps).length ≤ 4 := by rw [dats_len]; exact o.fit.four
    have f := o.fit
    show isTm (n + 1) (hd.D (Te.dats ps)) = true
    cases hd with
    | num m =>
      have f1 : m ≤ 1000002 := f.1
      have e := belowB_nat (m := 1000003) (n := m) (by omega)
      show isTm (n + 1) (.tuple (.str "num" :: _)) = true
      rw [isTm_num]
      unfold numB
      exact e
    | arg m => show isTm (n + 1) (.tuple (.str "arg" :: _)) = true; rw [isTm_arg]; exact belowB_nat f.1
    | op w =>
      have fl : (Te.dats ps).length = if w = 4 then 3 else 2 := by rw [dats_len]; exact f.2
      show isTm (n + 1) (.tuple (.str (opS w) :: _)) = true
      have hw := f.1
      by_cases h4 : w = 4
      · subst h4
        rw [show opS 4 = "if" from rfl, isTm_if, kids, decide_eq_true (by rw [fl]; rfl)]
        rfl
      · rw [if_neg h4] at fl
        have : opS w = "add" ∨ opS w = "less" ∨ opS w = "times" ∨ opS w = "under" := by
          rcases (by omega : w = 0 ∨ w = 1 ∨ w = 2 ∨ w = 3) with rfl | rfl | rfl | rfl
          · exact .inl rfl
          · exact .inr (.inl rfl)
          · exact .inr (.inr (.inl rfl))
          · exact .inr (.inr (.inr rfl))
        rw [isTm_two this, kids, decide_eq_true fl]
        rfl
    | call m =>
      show isTm (n + 1) (.tuple (.str "call" :: _)) = true
      rw [isTm_call]
      show (markB (.str (T m)) && (decide ((Te.dats ps).length ≤ 4) && (Te.dats ps).all (isTm n))) = true
      rw [kids, decide_eq_true kl]
      have : markB (.str (T m)) = true := by
        show (decide ((T m).length = 6) && (T m).cps.toList.all b36C) = true
        rw [decide_eq_true (by rw [T_len]; exact f.1), T_list, Bool.true_and]
        refine List.all_eq_true.mpr fun c hc => ?_
        obtain ⟨i, hi, rfl⟩ := List.mem_map.mp hc
        have : ∀ i, i < 36 → b36C (dig i) = true := by decide +kernel
        exact this i (f.2.1 i hi)
      rw [this]
      rfl
    | ring p =>
      show isTm (n + 1) (.tuple (.str "ring" :: _)) = true
      rw [isTm_ring]
      show (belowB 12 (.int (p : Nat)) && (decide ((Te.dats ps).length ≤ 4) && (Te.dats ps).all (isTm n))) = true
      rw [kids, decide_eq_true kl, belowB_nat (by have := f.1; omega)]
      rfl
/-! ### marks asked -/
theorem same_bool {n : Nat} {b : Bool} {k : Bool → DL.D → Prop} (q : k false (.bool true)) : W__law_same (n + 1) [.bool b, .bool b] k := same_refl 1 _ _ _ trivial (by omega) q
theorem marks_spec {n : Nat} {bs : List DL.D} {k : Bool → DL.D → List DL.D → Prop} (hb : Bx n bs) (hn : n + 20 < CAP) (q : ∀ b bs', Bx (n + 20) bs' → k b (.bool true) bs') : W__law_marks_right bs [] k := by
  unfold W__law_marks_right m__law_marks_right
  walk_at "ev1"
  walk_at "sq"
  refine some_mark_spec hb (by omega) fun is b1 l6 l36 hb1 => ?_
  have am : ∀ c ∈ (T is).cps.toList, c < 128 := fun c hc => by
    rw [T_list] at hc
    obtain ⟨i, hi, rfl⟩ := List.mem_map.mp hc
    have : ∀ i, i < 36 → dig i < 128 := by decide +kernel
    exact this i (l36 i hi)
  have ml : (T is).length = 6 := by rw [T_len]; exact l6
  walk_at "sq"
  refine take_spec hb1 (by omega) (by decide) (by decide) fun r1 b2 lr1 ur1 hb2 => ?_
  refine take_spec hb2 (by omega) (by decide) (by decide) fun r2 b3 lr2 ur2 hb3 => ?_
  obtain ⟨c, ec, hc⟩ := atI_ex (xs := ("09azAZ #@_-{" : Str).cps.toList) (i := r2) lr2 (by show r2 < 12; exact ur2)
  have hc : c < 128 := by
    have : ∀ c ∈ ("09azAZ #@_-{" : Str).cps.toList, c < 128 := by decide +kernel
    exact this c hc
  rw [ixD_si]
  refine ⟨len_line (by decide), c, ec, ?_⟩
  have as : ∀ x ∈ (⟨#[c]⟩ : Str).cps.toList, x < 128 := fun x hx => by
    have : x = c := by simpa using hx
    omega
  have sl : (⟨#[c]⟩ : Str).length = 1 := rfl
  generalize (⟨#[c]⟩ : Str) = sg at as sl ⊢
  have e5 := cutS_ok (lo := none) (hi := some r1) am
  have e6 := cutS_ok (lo := some (r1 + 1)) (hi := none) am
  walk_at "sq"
  show (T is).length ≤ sizeLine ∧ ((T is).length ≤ sizeLine ∧ _)
  refine ⟨len_line (by omega), len_line (by omega), ?_⟩
  dsimp only
  generalize cutS (T is) none (some r1) = A at e5 ⊢
  generalize cutS (T is) (some (r1 + 1)) none = B at e6 ⊢
  have hs1 : ("#" : Str).length = 1 := rfl
  unfold mListS
  walk_at "sq"
  unfold upperD
  walk_at "ev1"
  have a1 := app_ok e5.1 as
  have a2 := app_ok a1.1 e6.1
  have a3 := app_ok am as
  have a4 := app_ok e5.1 e6.1
  have a5 := up_ok am
  have a6 := app_ok (x := ("#" : Str)) (by decide +kernel) am
  simp only [addD_ss]
  refine ⟨len_line (by omega), len_line (by omega), len_line (by omega), len_line (by omega), by omega, len_line (by omega), ?_⟩
  have h0 : ("" : Str).length = 0 := rfl
  have gm : Gd 0 0 20 (.str (T is)) := gd_str am (by omega)
  walk_at "sq"
  refine odd_spec hb3 (by omega) gm (by decide) (by decide) (by decide) fun bo eo b4 ho hb4 => ?_
  unfold tupSD
  walk_at "ev1"
  refine ⟨len_line (by omega), len_line (by omega), ?_⟩
  have hne : (T is).cps.toList ≠ [] := fun e => by
    have e2 : (T is).cps.toList.length = 6 := by rw [← ml]; rfl
    rw [e] at e2; cases e2
  rw [int36D_s]
  refine ⟨hne, by omega, fun c hc => ?_, ?_⟩
  · rw [T_list] at hc
    obtain ⟨i, hi, rfl⟩ := List.mem_map.mp hc
    exact (dig_b36 i (l36 i hi)).1
  have sgs : ∀ x ∈ signsL (T is), Pl (.str x) := fun x hx => by
    unfold signsL at hx
    obtain ⟨c, hc, rfl⟩ := List.mem_map.mp hx
    exact .str (show (1 : Nat) ≤ _ by decide) (asc_ok fun y hy => by
      have : y = c := by simpa using hy
      rw [this]; exact am c hc)
  have sln : (signsL (T is)).length = 6 := by unfold signsL; rw [List.length_map]; exact ml
  have sgp : ∀ d ∈ (signsL (T is)).map PyData.str, Pl d := fun d hd => by
    obtain ⟨x, hx, rfl⟩ := List.mem_map.mp hd
    exact sgs x hx
  have st : ∀ {x : Str}, (∀ c ∈ x.cps.toList, c < 128) → x.length ≤ 100 → Pl (.str x) := fun h l => .str (by omega) (asc_ok h)
  have all : ∀ d ∈ [PyData.str (T is), PyData.str (A ++ sg ++ B), PyData.str (T is ++ sg), PyData.str (A ++ B),
            PyData.str (Txt.upper (T is)), PyData.str (Str.ofString ""), PyData.str (Str.ofString "#" ++ T is), eo,
            PyData.tuple (List.map PyData.str (signsL (T is))), PyData.list (List.map PyData.str (signsL (T is))), .int ((B36.num (T is).cps.toList : Nat) : Int)], Pl d := by
    intro d hd
    simp only [List.mem_cons, List.not_mem_nil, or_false] at hd
    rcases hd with rfl | rfl | rfl | rfl | rfl | rfl | rfl | rfl | rfl | rfl | rfl
    · exact st am (by omega)
    · exact st a2.1 (by omega)
    · exact st a3.1 (by omega)
    · exact st a4.1 (by omega)
    · exact st a5.1 (by omega)
    · exact st (by decide +kernel) (by decide)
    · exact st a6.1 (by omega)
    · exact ho.pl (by decide)
    · exact .tuple (by rw [List.length_map, sln]; decide) sgp
    · exact .list (by rw [List.length_map, sln]; decide) sgp
    · exact .int _
  generalize hL : [PyData.str (T is), PyData.str (A ++ sg ++ B), PyData.str (T is ++ sg), PyData.str (A ++ B),
            PyData.str (Txt.upper (T is)), PyData.str (Str.ofString ""), PyData.str (Str.ofString "#" ++ T is), eo,
            PyData.tuple (List.map PyData.str (signsL (T is))), PyData.list (List.map PyData.str (signsL (T is))), .int ((B36.num (T is).cps.toList : Nat) : Int)] = L at all ⊢
  have lL : L.length = 11 := by rw [← hL]; rfl
  have mp : L = L.map id := by simp
  refine Eq.mp (congrArg (fun xs => lcLoop (gVar 8) (mPure true) E1__law_marks_right [8] _ xs [] [Slot.own true b4, Slot.dat (PyData.str (T is)), Slot.dat (PyData.str (Str.ofString "09azAZ #@_-{")),
            Slot.dat (PyData.int r1), Slot.dat (PyData.str sg), Slot.dat (PyData.str A), Slot.dat (PyData.str B), Slot.dat (.list L), Slot.non]) mp.symm) ?_
  refine lc_map (ρ := [Slot.own true b4, Slot.dat (PyData.str (T is)), Slot.dat (PyData.str (Str.ofString "09azAZ #@_-{")),
            Slot.dat (PyData.int r1), Slot.dat (PyData.str sg), Slot.dat (PyData.str A), Slot.dat (PyData.str B), Slot.dat (.list L), Slot.non]) rfl id (fun _ => .bool true) L [] (by rw [lL]; decide) (fun t ht kk hk => ?_) ?_
  · unfold E1__law_marks_right
    walk_at "ev"
    refine mark_gen (all t ht) (lmark_gen (all t ht) (same_bool ?_))
    exact hk
  · refine all_map ?_
    exact ⟨_, rfl, q _ _ (hb4.mono (by omega))⟩

/-! ### one term, eight times bent, eight times led on -/
theorem neD_ss' {x y : Str} {k : DL.D → Prop} (hx : PyData.strOk x = true) (hy : PyData.strOk y = true) (q : k (.bool (!(x == y)))) : neD (.str x) (.str y) k := by
  rw [neD_ss]
  exact ⟨⟨hx, hy⟩, q⟩
theorem loop1 {K : SK} {t : DL.D} (g : Gd 0 16 16000 t) : ∀ (ds : List DL.D) (bs : List DL.D) (n : Nat) (s2 s3 s4 s5 : Slot), Bx n bs → n + 200 * ds.length < CAP →
    (∀ bs' s2 s3 s4 s5, Bx (n + 200 * ds.length) bs' → K.nx [.own true bs', .dat t, s2, s3, s4, s5]) → forLoop G1__law_right L1__law_right K ds [.own true bs, .dat t, s2, s3, s4, s5]
  | [], bs, n, s2, s3, s4, s5, hb, _, q => q _ _ _ _ _ hb
  | d :: ds, bs, n, s2, s3, s4, s5, hb, hn, q => by
    rw [List.length_cons] at hn q
    have ih := fun bs s2 s3 s4 s5 (hb : Bx (n + 200) bs) => loop1 (K := K) g ds bs (n + 200) s2 s3 s4 s5 hb (by omega) fun bs' s2 s3 s4 s5 h => q bs' s2 s3 s4 s5 (by rw [show n + 200 * (ds.length + 1) = n + 200 + 200 * ds.length by omega]; exact h)
    rw [forLoop_cons]
    generalize forLoop G1__law_right L1__law_right K ds = F at ih ⊢
    have tail : ∀ (th : DL.D) (b1 : List DL.D) (s2 s4 s5 : Slot), Gd 2 22 65200 th → Bx (n + 200) b1 → (sSeq (sPar [4, 5] (mPD (mCall reprAD (mCons (mVar 3) mNil)) (mPD (mFn 1 W_is_term (mCons (mVar 3) mNil)) (mPure []))))
        (sIf (mOr (mNot (mTest (mFn 2 (W__law_same 20) (mCons (mVar 5) (mCons (mFn 2 (W__law_is_a_term 9) (mCons (mVar 3) (mCons (mPure (.int 8)) mNil))) mNil))))) (mTest (mBin neD (mCall reprAD (mCons (mVar 3) mNil)) (mVar 4)))) (sRet (mPure (.bool false))) sNext))
        (loopK K F) [.own true b1, .dat t, s2, .dat th, s4, s5] := fun th b1 s2 s4 s5 h hb => by
      have hp := h.pl (by decide)
      obtain ⟨sh, ok⟩ := h.shows (by decide) (by decide) (by decide)
      have d60 : th.depth ≤ 60 := by have := h.dep; omega
      unfold reprAD
      walk_at "ev"
      refine ⟨sh, is_term_gen hp ?_⟩
      try walk_at "ev"
      refine lterm_gen 9 8 th _ (by decide) hp d60 (same_bool ?_)
      dsimp only
      refine ⟨sh, ⟨ok, ok⟩, ?_⟩
      rw [beq_self_eq_true]
      exact ih _ _ _ _ _ hb
    unfold G1__law_right L1__law_right
    rw [gVar]
    rw [sSeq_eq]
    walk_at "ev1"
    have h16 : t.depth ≤ 16 := g.dep
    refine bent_spec 30 (by omega) hb (by omega) g (by decide) (by decide) (by decide) fun b e b1 he hb1 => ?_
    rw [sSeq_eq]
    walk_at "ev1"
    refine take_spec hb1 (by omega) (by decide) (by decide) fun r b2 l u hb2 => ?_
    rw [eqD_ii]
    dsimp only
    by_cases z : r = 0
    · rw [decide_eq_true z, if_pos rfl]
      have h19 : e.depth ≤ 19 := he.dep
      refine bent_spec 30 (by omega) hb2 (by omega) he (by decide) (by decide) (by decide) fun b e b3 he hb3 => ?_
      exact tail _ _ _ _ _ he (hb3.mono (by omega))
    · rw [decide_eq_false z]
      exact tail _ _ _ _ _ ⟨he.asc.up, by have := he.dep; omega, by have := he.wgt; omega⟩ (hb2.mono (by omega))
/-- so deep at least -/
def Inv (j : Nat) (d : DL.D) : Prop := ∀ m, m ≤ j → isTm m d = false
theorem inv_call {j : Nat} {d : DL.D} {m : Str} (h : Inv j d) : Inv (j + 1) (.tuple [.str "call", .str m, .tuple [d]]) := fun n hn => by
  cases n with
  | zero => rfl
  | succ n =>
    rw [isTm_call]
    show (markB (.str m) && (decide ([d].length ≤ 4) && [d].all (isTm n))) = false
    rw [show [d].all (isTm n) = isTm n d by simp, h n (by omega), Bool.and_false, Bool.and_false]
theorem inv_ring {j : Nat} {d x : DL.D} {i : Int} (h : Inv j d) : Inv (j + 1) (.tuple [.str "ring", .int i, .tuple [x, d]]) := fun n hn => by
  cases n with
  | zero => rfl
  | succ n =>
    rw [isTm_ring]
    show (belowB 12 (.int i) && (decide ([x, d].length ≤ 4) && [x, d].all (isTm n))) = false
    rw [show [x, d].all (isTm n) = (isTm n x && isTm n d) by simp, h n (by omega), Bool.and_false, Bool.and_false, Bool.and_false]
theorem inv_add {j : Nat} {d x : DL.D} (h : Inv j d) : Inv (j + 1) (.tuple [.str "add", x, d]) := fun n hn => by
  cases n with
  | zero => rfl
  | succ n =>
    rw [isTm_two (.inl rfl)]
    rw [show [x, d].all (isTm n) = (isTm n x && isTm n d) by simp, h n (by omega), Bool.and_false, Bool.and_false]
structure Led (j : Nat) (d : DL.D) : Prop where
  gd : Gd 0 (16 + 3 * j) (16000 + 300 * j) d
  inv : Inv j d
theorem led_step {j r : Nat} {d : DL.D} (h : Led j d) (hr : r < 3) : ∃ e, atI [PyData.tuple [.str "call", .str "0a0a0a", .tuple [d]], .tuple [.str "add", .tuple [.str "num", .int 1], d], .tuple [.str "ring", .int 3, .tuple [.tuple [.str "arg", .int 0], d]]] (r : Int) = some e ∧ Led (j + 1) e := by
  have lit : ∀ {A : Nat} {v : Str}, v = "call" ∨ v = "add" ∨ v = "ring" ∨ v = "0a0a0a" → Gd 0 A 6 (.str v) := fun hv => by
    rcases hv with rfl | rfl | rfl | rfl
    · exact gd_lit (by decide +kernel) (by decide +kernel)
    · exact gd_lit (by decide +kernel) (by decide +kernel)
    · exact gd_lit (by decide +kernel) (by decide +kernel)
    · exact gd_lit (by decide +kernel) (by decide +kernel)
  have one : Gs 0 (16 + 3 * j) (16000 + 300 * j + 1) [d] := Gs.cons h.gd Gs.nil (v := 0) (by omega)
  rcases (by omega : r = 0 ∨ r = 1 ∨ r = 2) with rfl | rfl | rfl
  · refine ⟨_, at0, ?_, inv_call h.inv⟩
    exact (Gs.cons (lit (.inl rfl)) (Gs.cons (lit (.inr (.inr (.inr rfl)))) (Gs.cons one.tup Gs.nil (v := 0) (u := 16000 + 300 * j + 2) (by omega)) (u := 16000 + 300 * j + 9) (by omega)) (u := 16000 + 300 * j + 16) (by omega)).tup.up (by omega) (by omega)
  · refine ⟨_, at1, ?_, inv_add h.inv⟩
    have n1 : Gd 0 (16 + 3 * j) 200 (.tuple [.str "num", .int 1]) := ⟨asc_of _ (by decide +kernel), Nat.le_trans (show PyData.depth (.tuple [.str "num", .int 1]) ≤ 1 by decide) (by omega), by decide +kernel⟩
    exact (Gs.cons (lit (.inr (.inl rfl))) (Gs.cons n1 one (u := 16000 + 300 * j + 202) (by omega)) (u := 16000 + 300 * j + 210) (by omega)).tup.up (by omega) (by omega)
  · refine ⟨_, at2, ?_, inv_ring h.inv⟩
    have n1 : Gd 0 (16 + 3 * j) 20 (.tuple [.str "arg", .int 0]) := ⟨asc_of _ (by decide +kernel), Nat.le_trans (show PyData.depth (.tuple [.str "arg", .int 0]) ≤ 1 by decide) (by omega), by decide +kernel⟩
    have n3 : ∀ {A : Nat}, Gd 0 A 140 (.int 3) := ⟨asc_of _ (by decide +kernel), Nat.zero_le _, by decide +kernel⟩
    exact (Gs.cons (lit (.inr (.inr (.inl rfl)))) (Gs.cons n3 (Gs.cons (Gs.cons n1 one (u := 16000 + 300 * j + 22) (by omega)).tup Gs.nil (v := 0) (u := 16000 + 300 * j + 23) (by omega)) (u := 16000 + 300 * j + 164) (by omega)) (u := 16000 + 300 * j + 171) (by omega)).tup.up (by omega) (by omega)
theorem loop2 {K : SK} : ∀ (m j : Nat) (bs : List DL.D) (n : Nat) (t : DL.D) (s2 s3 s4 s5 : Slot), j + m = 8 → Bx n bs → Led j t → (j = 0 → isTm 8 t = true) → (∀ bs', Bx n bs' → ∀ s1 s2 s3 s4 s5, K.rt false (.bool true) [.own true bs', s1, s2, s3, s4, s5]) →
    (∀ t s2 s3 s4 s5, Led 8 t → K.nx [.own true bs, .dat t, s2, s3, s4, s5]) → forLoop G2__law_right L2__law_right K ((List.range' j m).map fun (i : Nat) => PyData.int (i : Int)) [.own true bs, .dat t, s2, s3, s4, s5]
  | 0, j, bs, n, t, s2, s3, s4, s5, hj, _, h, _, _, q => q _ _ _ _ _ (by have : j = 8 := by omega
                                                                         subst this; exact h)
  | m + 1, j, bs, n, t, s2, s3, s4, s5, hj, hb, h, h0, qr, q => by
    have ih := fun t s2 s3 s4 s5 (h : Led (j + 1) t) => loop2 (K := K) m (j + 1) bs n t s2 s3 s4 s5 (by omega) hb h (fun z => absurd z (by omega)) qr q
    rw [List.range'_succ, List.map_cons, forLoop_cons]
    generalize forLoop G2__law_right L2__law_right K ((List.range' (j + 1) m).map fun (i : Nat) => PyData.int (i : Int)) = F at ih ⊢
    unfold G2__law_right L2__law_right
    have hp := h.gd.pl (by omega)
    have d60 : t.depth ≤ 60 := by have := h.gd.dep; omega
    rw [gVar]
    rw [sSeq_eq]
    walk_at "ev1"
    refine lterm_gen 9 8 t _ (by decide) hp d60 ?_
    cases e : isTm 8 t with
    | false =>
      walk_at "ev1"
      have j0 : j ≠ 0 := fun z => by rw [h0 z] at e; cases e
      rw [decide_eq_true (show (0 : Int) < (j : Int) by omega)]
      exact qr _ hb _ _ _ _ _
    | true =>
      dsimp only
      obtain ⟨x, ex, hx⟩ := led_step h (Nat.mod_lt j (show 0 < 3 by decide))
      rw [if_neg (show ¬ ((!true) = true) from by decide)]
      walk_at "sq"
      rw [show ((j : Int) % 3) = ((j % 3 : Nat) : Int) by omega]
      refine ⟨by decide, x, ex, ?_⟩
      have hp2 := hx.gd.pl (by omega)
      have d602 : x.depth ≤ 60 := by have := hx.gd.dep; omega
      refine is_term_gen hp2 ?_
      try walk_at "ev1"
      refine lterm_gen 9 8 x _ (by decide) hp2 d602 (same_bool ?_)
      exact ih _ _ _ _ _ hx
/-! ### the law -/
set_option maxHeartbeats 200000 in
theorem right_spec {n : Nat} {bs : List DL.D} {k : Bool → DL.D → List DL.D → Prop} (hb : Bx n bs) (hn : n + 2000 ≤ CAP) (q : ∀ bs', Bx (n + 2000) bs' → k false (.bool true) bs') : W__law_right bs [] k := by
  unfold W__law_right m__law_right
  walk_at "ev1"
  walk_at "sq"
  refine any_spec hb (by omega) fun d b1 td hb1 => ?_
  obtain ⟨t, ok, dp, sz, rfl⟩ := td
  have g := dat_gd ok dp sz
  have h8 := dat_isTm 8 t ok dp
  have hp := g.pl (by decide)
  have d16 : t.dat.depth ≤ 60 := by have := g.dep; omega
  walk_at "sq"
  refine is_term_gen hp ?_
  rw [h8, isnD_bb]
  rw [show (!decide (true = true)) = false from rfl]
  dsimp only
  rw [if_neg Bool.false_ne_true]
  refine lterm_gen 9 8 t.dat _ (by decide) hp d16 ?_
  rw [h8]
  dsimp only
  rw [if_neg (show ¬ ((!true) = true) from by decide)]
  refine marks_spec hb1 (by omega) fun _ b2 hb2 => ?_
  dsimp only
  rw [sSeq_eq]
  walk_at "ev1"
  rw [show Int.toNat 8 = 8 from rfl]
  refine ⟨by decide, by decide, ?_⟩
  have l8 : (rngD 0 8).length = 8 := rfl
  have e8 : rngD 0 8 = (List.range' 0 8).map fun (i : Nat) => PyData.int (i : Int) := rfl
  generalize rngD 0 8 = r8 at l8 e8 ⊢
  have c2 : n + 300 + 20 + 200 * r8.length < CAP := by rw [l8]; omega
  refine loop1 g r8 _ _ _ _ _ _ hb2 c2 fun bs' s2 s3 s4 s5 hb3 => ?_
  rw [l8] at hb3
  trace_state
  dsimp only
  walk_at "sq"
  rw [show Int.toNat 8 = 8 from rfl]
  refine ⟨by decide, by decide, ?_⟩
  rw [show rngD 0 8 = (List.range' 0 8).map fun (i : Nat) => PyData.int (i : Int) from rfl]
  refine loop2 8 0 _ _ _ _ _ _ _ (by decide) hb3 ⟨g, fun m hm => by rw [Nat.le_zero.mp hm]; rfl⟩ (fun _ => h8) (fun bs' hb4 s1 s2 s3 s4 s5 => ?_) fun d s2 s3 s4 s5 hl => ?_
  · exact ⟨_, rfl, q _ (hb4.mono (by omega))⟩
  · walk_at "ev1"
    have hp := hl.gd.pl (by decide)
    have d60 : PyData.depth d ≤ 60 := Nat.le_trans hl.gd.dep (by decide)
    refine lterm_gen 9 8 d _ (by decide) hp (by omega) ?_
    rw [hl.inv 8 (by decide)]
    exact q _ (hb3.mono (by omega))
theorem law_loop {K : SK} {s0 : Slot} {cs : List Int} : ∀ (m j : Nat) (s2 s3 s4 : Slot), j + m ≤ 100 → (∀ s2 s3 s4, K.nx [s0, .dat (.list (cs.map PyData.int)), s2, s3, s4]) →
    forLoop G1_law L1_law K ((List.range' j m).map fun (i : Nat) => PyData.int (i : Int)) [s0, .dat (.list (cs.map PyData.int)), s2, s3, s4]
  | 0, j, s2, s3, s4, _, q => q s2 s3 s4
  | m + 1, j, s2, s3, s4, hj, q => by
    have ih := fun s2 s3 s4 => law_loop (K := K) (s0 := s0) (cs := cs) m (j + 1) s2 s3 s4 (by omega) q
    rw [List.range'_succ, List.map_cons, forLoop_cons]
    generalize forLoop G1_law L1_law K ((List.range' (j + 1) m).map fun (i : Nat) => PyData.int (i : Int)) = F at ih ⊢
    unfold G1_law L1_law
    walk_at "ev"
    refine box_spec (by omega) (by omega) fun bs hb => ⟨rfl, bs, rfl, by decide, by decide, ?_⟩
    refine lc_draws (c := 2000) (fun bs d => [s0, .dat (.list (cs.map PyData.int)), .dat (.int (j : Int)), .own false bs, .dat d]) (fun bs d => [s0, .dat (.list (cs.map PyData.int)), .dat (.int (j : Int)), .own false bs, .dat d]) (fun bs => [s0, .dat (.list (cs.map PyData.int)), .dat (.int (j : Int)), .own false bs, .non]) (fun bs d kk hk => hk) (fun bs => rfl) (fun bs d n hb hn kk hk => ?_) (fun bs d => rfl) (rngD 0 6) 0 0 bs hb (by decide) (by decide) fun m' bs' n' _ _ => ?_
    · unfold E1_law
      walk_at "ev"
      exact right_spec hb hn fun bs' hb' => hk bs' hb'
    · refine allD_rep ?_
      dsimp only
      simp only [Bool.not_true, bool_ite']
      exact ih _ _ _
theorem law_holds {ns : List Int} (hl : ns.length ≤ 63) {k : Bool → DL.D → Prop} (q : k false (.bool true)) : W_law [.dict (scrD ns)] k := by
  unfold W_law m_law
  walk_at "ev"
  refine foldS_spec (m := 3) (by decide) (by decide) hl fun cs hc => ⟨rfl, _, rfl, ?_⟩
  rw [List.length_map]
  refine ⟨by split <;> omega, by split <;> omega, ?_⟩
  have e : ∀ m : Nat, rngD 0 m = (List.range' 0 m).map fun (i : Nat) => PyData.int (i : Int) := fun m => by
    unfold rngD
    rw [List.range_eq_range']
    simp
  rw [e]
  refine law_loop _ 0 _ _ _ (by split <;> omega) fun s2 s3 s4 => ?_
  walk_at "ev"
  exact q

theorem law_sp {K : PySem.W.Frag} {H : Hp} {a : Addr} {ns : List Int} {E : XK} (hl : ns.length ≤ 63) (hS : SqL K H a (ns.map V.int)) : sp0 K 1 W_law [.ref a] H (fun v _ => v = .bl true) E := by
  refine ⟨fun _ => False, [.dict (scrD ns)], fun _ z => z.elim, .cons (.scr ns rfl ?_) .nil, rfl, law_holds hl ?_⟩
  · rcases hS with h | h
    · exact .inl ⟨fun z => z, h⟩
    · exact .inr h
  · intro v H' _ d _
    cases d
    rfl
end Law

open PySem PySem.W PyProof.Rows
set_option maxHeartbeats 0 in
theorem PySem.Challenge.cw_contentnames_k01_marks_and_terms_or_not_holds : PySem.Challenge.rw_contentnames_k01_marks_and_terms_or_not.Holds := by
  w_on; o_law; k_head; (case hw => w_witness2)
  k_fill
  refine DL.walk_ofG (l := PySem.Challenge.rw_contentnames_k01_marks_and_terms_or_not) (n := 63) (k := 40) (x := "script") (CX := fun _ => L2.CX0) (sp := fun w => DL.sp0 _ 1 Law.W_law) rfl (by decide) rfl ⟨rfl, by decide, by decide⟩ (fun w h Y => PySem.W.kIn_of Y) ?F (fun _ _ a ns hl _ hS => Law.law_sp hl hS) (fun _ _ _ _ _ h => h)
  case F =>
    intro w mg fa h KX G hmg
    refine' Law.all_mk KX G hmg ?a0 ?l0 ?c0 ?k0 ?a1 ?l1 ?c1 ?k1 ?a2 ?l2 ?c2 ?k2 ?a3 ?l3 ?c3 ?k3 ?a4 ?l4 ?c4 ?k4 ?a5 ?l5 ?c5 ?k5 ?a6 ?l6 ?c6 ?k6 ?a7 ?l7 ?c7 ?k7 ?a8 ?l8 ?c8 ?k8 ?a9 ?l9 ?c9 ?k9 ?a10 ?l10 ?c10 ?k10 ?a11 ?l11 ?c11 ?k11 ?a12 ?l12 ?c12 ?k12 ?a13 ?l13 ?c13 ?k13 ?a14 ?l14 ?c14 ?k14 ?a15 ?l15 ?c15 ?k15 ?a16 ?l16 ?c16 ?k16 ?a17 ?l17 ?c17 ?k17 ?a18 ?l18 ?c18 ?k18 ?a19 ?l19 ?c19 ?k19 ?a20 ?l20 ?c20 ?k20 ?a21 ?l21 ?c21 ?k21 ?a22 ?l22 ?c22 ?k22 ?a23 ?l23 ?c23 ?k23 ?a24 ?l24 ?c24 ?k24 ?a25 ?l25 ?c25 ?k25 ?a26 ?l26 ?c26 ?k26 ?a27 ?l27 ?c27 ?k27 ?z_abs ?z_all ?z_bool ?z_divmod ?z_enumerate ?z_int ?z_isinstance ?z_len ?z_list ?z_max ?z_range ?z_repr ?z_str ?z_tuple ?z_zip ?c_MARK_SIZE ?c_MOST_ARGS ?c_MOST_DEEP ?c_MOST_NUMBER ?c_MOST_PLACES ?c_SHORT_SIGNS ?n_TERM_FORMS ?t_TERM_FORMS
    (case a0 => k_is)
    (case l0 => k_is)
    (case c0 => k_is)
    (case k0 => k_is)
    (case a1 => k_is)
    (case l1 => k_is)
    (case c1 => k_is)
    (case k1 => k_is)
    (case a2 => k_is)
    (case l2 => k_is)
    (case c2 => k_is)
    (case k2 => k_is)
    (case a3 => k_is)
    (case l3 => k_is)
    (case c3 => k_is)
    (case k3 => k_is)
    (case a4 => k_is)
    (case l4 => k_is)
    (case c4 => k_is)
    (case k4 => k_is)
    (case a5 => k_is)
    (case l5 => k_is)
    (case c5 => k_is)
    (case k5 => k_is)
    (case a6 => k_is)
    (case l6 => k_is)
    (case c6 => k_is)
    (case k6 => k_is)
    (case a7 => k_is)
    (case l7 => k_is)
    (case c7 => k_is)
    (case k7 => k_is)
    (case a8 => k_is)
    (case l8 => k_is)
    (case c8 => k_is)
    (case k8 => k_is)
    (case a9 => k_is)
    (case l9 => k_is)
    (case c9 => k_is)
    (case k9 => k_is)
    (case a10 => k_is)
    (case l10 => k_is)
    (case c10 => k_is)
    (case k10 => k_is)
    (case a11 => k_is)
    (case l11 => k_is)
    (case c11 => k_is)
    (case k11 => k_is)
    (case a12 => k_is)
    (case l12 => k_is)
    (case c12 => k_is)
    (case k12 => k_is)
    (case a13 => k_is)
    (case l13 => k_is)
    (case c13 => k_is)
    (case k13 => k_is)
    (case a14 => k_is)
    (case l14 => k_is)
    (case c14 => k_is)
    (case k14 => k_is)
    (case a15 => k_is)
    (case l15 => k_is)
    (case c15 => k_is)
    (case k15 => k_is)
    (case a16 => k_is)
    (case l16 => k_is)
    (case c16 => k_is)
    (case k16 => k_is)
    (case a17 => k_is)
    (case l17 => k_is)
    (case c17 => k_is)
    (case k17 => k_is)
    (case a18 => k_is)
    (case l18 => k_is)
    (case c18 => k_is)
    (case k18 => k_is)
    (case a19 => k_is)
    (case l19 => k_is)
    (case c19 => k_is)
    (case k19 => k_is)
    (case a20 => k_is)
    (case l20 => k_is)
    (case c20 => k_is)
    (case k20 => k_is)
    (case a21 => k_is)
    (case l21 => k_is)
    (case c21 => k_is)
    (case k21 => k_is)
    (case a22 => k_is)
    (case l22 => k_is)
    (case c22 => k_is)
    (case k22 => k_is)
    (case a23 => k_is)
    (case l23 => k_is)
    (case c23 => k_is)
    (case k23 => k_is)
    (case a24 => k_is)
    (case l24 => k_is)
    (case c24 => k_is)
    (case k24 => k_is)
    (case a25 => k_is)
    (case l25 => k_is)
    (case c25 => k_is)
    (case k25 => k_is)
    (case a26 => k_is)
    (case l26 => k_is)
    (case c26 => k_is)
    (case k26 => k_is)
    (case a27 => k_is)
    (case l27 => k_is)
    (case c27 => k_is)
    (case k27 => k_is)
    (case z_abs => k_is)
    (case z_all => k_is)
    (case z_bool => k_is)
    (case z_divmod => k_is)
    (case z_enumerate => k_is)
    (case z_int => k_is)
    (case z_isinstance => k_is)
    (case z_len => k_is)
    (case z_list => k_is)
    (case z_max => k_is)
    (case z_range => k_is)
    (case z_repr => k_is)
    (case z_str => k_is)
    (case z_tuple => k_is)
    (case z_zip => k_is)
    (case c_MARK_SIZE => k_is)
    (case c_MOST_ARGS => k_is)
    (case c_MOST_DEEP => k_is)
    (case c_MOST_NUMBER => k_is)
    (case c_MOST_PLACES => k_is)
    (case c_SHORT_SIGNS => k_is)
    (case n_TERM_FORMS => k_is)
    (case t_TERM_FORMS =>
      refine' ⟨by decide, _, _, Eq.trans (b := some _) ?qTT ?rTT, ?tkTT, ?teTT⟩
      (case qTT => exact rfl)
      (case rTT => rfl)
      (case tkTT => repeat' (first | exact trivial | refine And.intro ⟨_, _, rfl, rfl⟩ ?_))
      (case teTT => (refine' (DL.tabEs_cons rfl rfl ?e1 (DL.tabEs_cons rfl rfl ?e2 (DL.tabEs_cons rfl rfl ?e3 (DL.tabEs_cons rfl rfl ?e4 (DL.tabEs_cons rfl rfl ?e5 (DL.tabEs_cons rfl rfl ?e6 (DL.tabEs_cons rfl rfl ?e7 (DL.tabEs_cons rfl rfl ?e8 (DL.tabEs_cons rfl rfl ?e9 DL.tabEs_nil))))))))) <;> k_is)))
