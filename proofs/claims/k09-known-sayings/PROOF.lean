import PyProof.Rows.All
import Wide.All
import OpenK.AllK
import Wide.FinOn
import HandS.ForMost
import HandS.Wide
import HandS.Exc
import HandS.IsInst
import HandS.Style
import HandS.Replace
import HandS.TupMul
import HandS.TupAny
import HandS.CallLocal
import HandS.WideMore
import HandS.Zip
import HandS.IntHex
import KE.GoesEnumKw
import HandS.DictComp
import KE.GoesNew
import KE.KUnpackStar
import KE.DataMinMax
import HandS.SortKw
import HandS.SetBool
import HandS.SetKeys
import PyProof.Rows.SortShellAny
import HandS.More
import HandS.TupSets
import PyProof.ReprLen
import HandS.ExcInit
import HandS.ExcField
import HandS.WordsExc
import HandS.Text
import PyProof.SetRoads
import HandS.Defaults
import OpenK.KMore
import PyProof.ListOps
import KE.KDictZip
import HandS.RaiseMore
import HandS.StrMore
import PyProof.TupleOfStr
import PyProof.ListStr
import PyProof.Rows.IntBool
import KE.KRevSl
import KE.KExcIs
import KE.KTryMore
import KE.DataFind
import HandS.FStr
import PyProof.ListRange
import KE.KDictKeyed
import KE.KeyNested
import KE.KDictLaws
import PySem.Challenge.RW_contentnames_k09_known_sayings
set_option Elab.async false
set_option linter.all false
set_option maxRecDepth 100000
set_option maxHeartbeats 4000000
/-! A logic of data over the hand layer: values as PyData, local lists owned by a slot, draws by a borrowed list. -/
namespace DL
open PySem L2

abbrev D := PyData
abbrev AS := Addr → Prop

/-- a tuple of the written part -/
def SqTK (K : PySem.W.Frag) (a : Addr) (xs : List V) : Prop :=
  ∃ (o : Obj) (its : Array Value) (n : Nat), K.lookup a = some o ∧ o.cls = .type "tuple" ∧ o.data = .seq its n ∧ its.size ≤ sizeLine ∧ Vals xs its.toList

/-- a dict of texts to ints, as data -/
def dsiD (l : List (Str × Int)) : List (D × D) := l.map fun p => (.str p.1, .int p.2)
def dsiV (l : List (Str × Int)) : List (Key × V) := l.map fun p => (Sum.inr p.1, V.int p.2)
/-- a dict of texts to texts, as data -/
def dstD (l : List (Str × Str)) : List (D × D) := (.int 1, .none) :: l.map fun p => (.str p.1, .str p.2)
def dstV (l : List (Str × Str)) : List (Key × V) := l.map fun p => (Sum.inr p.1, V.str p.2)
/-- a list of ints that may be locked (a script), as data -/
def scrD (ns : List Int) : List (D × D) := (.none, .none) :: ns.map fun n => (.none, .int n)

/-- a def as a value: by its name -/
def fnD (x : Str) : List (D × D) := [(.none, .bool true), (.str x, .none)]
/-- a caught exception: its class, its dict -/
def exK (cls : Value) (d : Option Addr) (a : Addr) : HO := .ext fun h => ∃ (oe : Obj) (vs : Array Value), h.get? a = some oe ∧ Zc cls d oe ∧ oe.data = .fields vs
inductive FlV : V → D → Prop
  | non : FlV .non .none
  | bl (b : Bool) : FlV (.bl b) (.bool b)
  | int (i : Int) : FlV (.int i) (.int i)
  | str (x : Str) : FlV (.str x) (.str x)
/-- an exception of the class that x names, with what it has, as data -/
def excD (x : Str) (w : D) : List (D × D) := [(.bool false, .str x), (.none, w)]
/-- an address, as data -/
def adrD (a : Addr) : List (D × D) := [(.bool true, .int (a : Nat))]
def FnAt (K : PySem.W.Frag) (x : Str) (a : Addr) : Prop := PySem.W.nsIn K mainGlobals x = some (some (.ref a))

def SqLK (K : PySem.W.Frag) (a : Addr) (xs : List V) : Prop :=
  ∃ (o : Obj) (its : Array Value) (n : Nat), K.lookup a = some o ∧ o.cls = .type "list" ∧ o.dict = none ∧ o.data = .seq its n ∧ its.size ≤ sizeLine ∧ Vals xs its.toList

mutual
inductive Dx (K : PySem.W.Frag) (H : Hp) (F : AS) : V → D → Prop
  | non : Dx K H F .non .none
  | bl (b : Bool) : Dx K H F (.bl b) (.bool b)
  | int (i : Int) : Dx K H F (.int i) (.int i)
  | str (x : Str) : Dx K H F (.str x) (.str x)
  | lst {a : Addr} {xs : List V} {ds : List D} : ¬ F a → H a = some (.lst xs) → DxAll K H F xs ds → Dx K H F (.ref a) (.list ds)
  | tup {a : Addr} {xs : List V} {ds : List D} : ¬ F a → H a = some (.tup xs) → DxAll K H F xs ds → Dx K H F (.ref a) (.tuple ds)
  | tupK {a : Addr} {xs : List V} {ds : List D} : SqTK K a xs → DxAll K H F xs ds → Dx K H F (.ref a) (.tuple ds)
  | dsi {a : Addr} (l : List (Str × Int)) {ds : List (D × D)} : ds = dsiD l → ¬ F a → H a = some (.dK (dsiV l)) → Dx K H F (.ref a) (.dict ds)
  | dst {a : Addr} (l : List (Str × Str)) {ds : List (D × D)} : ds = dstD l → ¬ F a → H a = some (.dK (dstV l)) → Dx K H F (.ref a) (.dict ds)
  | scr {a : Addr} (ns : List Int) {ds : List (D × D)} : ds = scrD ns → (¬ F a ∧ Rd H a (.lst (ns.map V.int))) ∨ SqLK K a (ns.map V.int) → Dx K H F (.ref a) (.dict ds)
  | fnr {a : Addr} (x : Str) {ds : List (D × D)} : ds = fnD x → FnAt K x a → Dx K H F (.ref a) (.dict ds)
  | adr (a : Addr) {ds : List (D × D)} : ds = adrD a → Dx K H F (.ref a) (.dict ds)
  | exc {a C dd : Addr} {x : Str} {v : V} {w : D} {ds : List (D × D)} : ds = excD x w → FlV v w → FnAt K x C → ¬ F a → ¬ F dd → H a = some (exK (.ref C) (some dd) a) → H dd = some (.xd [("what", v)]) → Dx K H F (.ref a) (.dict ds)
inductive DxAll (K : PySem.W.Frag) (H : Hp) (F : AS) : List V → List D → Prop
  | nil : DxAll K H F [] []
  | cons {v : V} {vs : List V} {d : D} {ds : List D} : Dx K H F v d → DxAll K H F vs ds → DxAll K H F (v :: vs) (d :: ds)
end

/-- what stands outside of F stays, and stays outside -/
def Grow (F F' : AS) (H H' : Hp) : Prop := ∀ b o, H b = some o → ¬ F b → H' b = some o ∧ ¬ F' b
theorem Grow.refl {F : AS} {H : Hp} : Grow F F H H := fun _ _ h n => ⟨h, n⟩
theorem Grow.trans {F F1 F2 : AS} {H H1 H2 : Hp} (a : Grow F F1 H H1) (b : Grow F1 F2 H1 H2) : Grow F F2 H H2 := fun c o h n =>
  let ⟨h1, n1⟩ := a c o h n
  b c o h1 n1

section
variable {K : PySem.W.Frag} {H H' : Hp} {F F' : AS}
mutual
theorem Dx.grow (g : Grow F F' H H') : ∀ (d : D) (v : V), Dx K H F v d → Dx K H' F' v d
  | .none, _, h => by cases h; exact .non
  | .bool b, _, h => by cases h; exact .bl b
  | .int i, _, h => by cases h; exact .int i
  | .str x, _, h => by cases h; exact .str x
  | .list ds, _, h => by
    cases h with
    | lst n e ha =>
      obtain ⟨e', n'⟩ := g _ _ e n
      exact .lst n' e' (DxAll.grow g ds _ ha)
  | .tuple ds, _, h => by
    cases h with
    | tup n e ha =>
      obtain ⟨e', n'⟩ := g _ _ e n
      exact .tup n' e' (DxAll.grow g ds _ ha)
    | tupK e ha => exact .tupK e (DxAll.grow g ds _ ha)
  | .dict _, _, h => by
    cases h with
    | dsi l q n e =>
      obtain ⟨e', n'⟩ := g _ _ e n
      exact .dsi l q n' e'
    | dst l q n e =>
      obtain ⟨e', n'⟩ := g _ _ e n
      exact .dst l q n' e'
    | scr ns q e =>
      rcases e with ⟨n, e | ⟨od, e⟩⟩ | e
      · obtain ⟨e', n'⟩ := g _ _ e n
        exact .scr ns q (.inl ⟨n', .inl e'⟩)
      · obtain ⟨e', n'⟩ := g _ _ e n
        exact .scr ns q (.inl ⟨n', .inr ⟨od, e'⟩⟩)
      · exact .scr ns q (.inr e)
    | fnr x q e => exact .fnr x q e
    | adr a q => exact .adr a q
    | exc q fl at_ na nd ha hd =>
      obtain ⟨ha', na'⟩ := g _ _ ha na
      obtain ⟨hd', nd'⟩ := g _ _ hd nd
      exact .exc q fl at_ na' nd' ha' hd'
theorem DxAll.grow (g : Grow F F' H H') : ∀ (ds : List D) (vs : List V), DxAll K H F vs ds → DxAll K H' F' vs ds
  | [], _, h => by cases h; exact .nil
  | d :: ds, _, h => by
    cases h with
    | cons a b => exact .cons (Dx.grow g d _ a) (DxAll.grow g ds _ b)
end
theorem Dx.g {d : D} {v : V} (h : Dx K H F v d) (g : Grow F F' H H') : Dx K H' F' v d := Dx.grow g d v h
theorem DxAll.g {ds : List D} {vs : List V} (h : DxAll K H F vs ds) (g : Grow F F' H H') : DxAll K H' F' vs ds := DxAll.grow g ds vs h
theorem Dx.weak {d : D} {v : V} (h : Dx K H F v d) (s : ∀ b, F' b → F b) : Dx K H F' v d := h.g fun _ _ e n => ⟨e, fun q => n (s _ q)⟩
theorem DxAll.weak {ds : List D} {vs : List V} (h : DxAll K H F vs ds) (s : ∀ b, F' b → F b) : DxAll K H F' vs ds := h.g fun _ _ e n => ⟨e, fun q => n (s _ q)⟩
theorem DxAll.length : ∀ {vs : List V} {ds : List D}, DxAll K H F vs ds → vs.length = ds.length
  | _, [], h => by cases h; rfl
  | _, _ :: ds, h => by
    cases h with
    | cons a b => rw [List.length_cons, List.length_cons, DxAll.length b]
theorem DxAll.get : ∀ {ds : List D} {vs : List V} {i : Nat} {d : D}, DxAll K H F vs ds → ds[i]? = some d → ∃ v, vs[i]? = some v ∧ Dx K H F v d
  | [], _, _, _, _, e => by simp at e
  | d :: ds, _, 0, _, h, e => by
    cases h with
    | cons a b => simp at e; subst e; exact ⟨_, rfl, a⟩
  | d :: ds, _, i + 1, x, h, e => by
    cases h with
    | cons a b =>
      obtain ⟨v, h1, h2⟩ := DxAll.get (i := i) b (by simpa using e)
      exact ⟨v, by simpa using h1, h2⟩
theorem DxAll.append : ∀ {ds es : List D} {vs ws : List V}, DxAll K H F vs ds → DxAll K H F ws es → DxAll K H F (vs ++ ws) (ds ++ es)
  | [], _, _, _, h, k => by cases h; exact k
  | d :: ds, _, _, _, h, k => by
    cases h with
    | cons a b => exact .cons a (DxAll.append b k)
theorem DxAll.set : ∀ {ds : List D} {vs : List V} {d : D} {v : V} (i : Nat), DxAll K H F vs ds → Dx K H F v d → DxAll K H F (vs.set i v) (ds.set i d)
  | [], _, _, _, _, h, _ => by cases h; exact .nil
  | _ :: ds, _, _, _, 0, h, k => by
    cases h with
    | cons a b => exact .cons k b
  | _ :: ds, _, _, _, i + 1, h, k => by
    cases h with
    | cons a b => exact .cons a (DxAll.set i b k)
theorem DxAll.drop : ∀ {ds : List D} {vs : List V} (n : Nat), DxAll K H F vs ds → DxAll K H F (vs.drop n) (ds.drop n)
  | _, _, 0, h => h
  | [], _, _ + 1, h => by cases h; exact .nil
  | _ :: ds, _, n + 1, h => by
    cases h with
    | cons a b => exact DxAll.drop n b
theorem DxAll.take : ∀ {ds : List D} {vs : List V} (n : Nat), DxAll K H F vs ds → DxAll K H F (vs.take n) (ds.take n)
  | _, _, 0, _ => .nil
  | [], _, _ + 1, h => by cases h; exact .nil
  | _ :: ds, _, n + 1, h => by
    cases h with
    | cons a b => exact .cons a (DxAll.take n b)
theorem DxAll.eraseIdx : ∀ {ds : List D} {vs : List V} (n : Nat), DxAll K H F vs ds → DxAll K H F (vs.eraseIdx n) (ds.eraseIdx n)
  | [], _, _, h => by cases h; exact .nil
  | _ :: ds, _, 0, h => by
    cases h with
    | cons a b => exact b
  | _ :: ds, _, n + 1, h => by
    cases h with
    | cons a b => exact .cons a (DxAll.eraseIdx n b)
theorem DxAll.rev : ∀ {ds : List D} {vs : List V}, DxAll K H F vs ds → DxAll K H F vs.reverse ds.reverse
  | [], _, h => by cases h; exact .nil
  | d :: ds, _, h => by
    cases h with
    | cons a b => rw [List.reverse_cons, List.reverse_cons]; exact b.rev.append (.cons a .nil)
theorem DxAll.cut {ds : List D} {vs : List V} (h : DxAll K H F vs ds) (a b : Nat) : DxAll K H F ((vs.drop a).take b) ((ds.drop a).take b) := (h.drop a).take b
theorem DxAll.ints : ∀ {ns : List Int} {vs : List V}, DxAll K H F vs (ns.map PyData.int) → vs = ns.map V.int
  | [], _, h => by cases h; rfl
  | n :: ns, _, h => by
    cases h with
    | cons a b => cases a; rw [DxAll.ints b]; rfl
theorem DxAll.of_ints : ∀ (ns : List Int), DxAll K H F (ns.map V.int) (ns.map PyData.int)
  | [] => .nil
  | n :: ns => .cons (.int n) (DxAll.of_ints ns)
theorem DxAll.strs : ∀ {ns : List Str} {vs : List V}, DxAll K H F vs (ns.map PyData.str) → vs = ns.map V.str
  | [], _, h => by cases h; rfl
  | n :: ns, _, h => by
    cases h with
    | cons a b => cases a; rw [DxAll.strs b]; rfl
theorem DxAll.bools : ∀ {ns : List Bool} {vs : List V}, DxAll K H F vs (ns.map PyData.bool) → vs = ns.map V.bl
  | [], _, h => by cases h; rfl
  | n :: ns, _, h => by
    cases h with
    | cons a b => cases a; rw [DxAll.bools b]; rfl
mutual
/-- as the layer's own reading of data -/
theorem Dx.dp : ∀ (d : D) (v : V), d.canLay0 = true → Dx K H F v d → Dp K H v d
  | .none, _, _, h => by cases h; exact .non
  | .bool b, _, _, h => by cases h; exact .bl b
  | .int i, _, _, h => by cases h; exact .int i
  | .str x, _, _, h => by cases h; exact .str x
  | .list ds, _, c, h => by
    cases h with
    | lst n e ha => exact .lst (.inl (.inl e)) (DxAll.dp ds _ (by simpa [PyData.canLay0] using c) ha)
  | .tuple ds, _, c, h => by
    cases h with
    | tup n e ha => exact .tup (.inl (.inl e)) (DxAll.dp ds _ (by simpa [PyData.canLay0] using c) ha)
    | tupK e ha => exact .tup (.inr e) (DxAll.dp ds _ (by simpa [PyData.canLay0] using c) ha)
  | .dict _, _, c, _ => by simp [PyData.canLay0] at c
theorem DxAll.dp : ∀ (ds : List D) (vs : List V), PyData.canLayAll0 ds = true → DxAll K H F vs ds → DpAll K H vs ds
  | [], _, _, h => by cases h; exact .nil
  | d :: ds, _, c, h => by
    cases h with
    | cons a b =>
      have c' : d.canLay0 = true ∧ PyData.canLayAll0 ds = true := by simpa [PyData.canLayAll0] using c
      exact .cons (Dx.dp d _ c'.1 a) (DxAll.dp ds _ c'.2 b)
end
/-- a dict of texts is read -/
theorem Dx.dsiA {v : V} {l : List (Str × Int)} (h : Dx K H F v (.dict (dsiD l))) : ∃ a, v = .ref a ∧ H a = some (.dK (dsiV l)) ∧ ¬ F a := by
  have inj : ∀ {l l' : List (Str × Int)}, dsiD l = dsiD l' → l = l' := fun {l} => by
    induction l with
    | nil => intro l' e; cases l' with | nil => rfl | cons _ _ => cases e
    | cons p l ih =>
      intro l' e
      cases l' with
      | nil => cases e
      | cons q l' =>
        unfold dsiD at e
        simp only [List.map_cons, List.cons.injEq, Prod.mk.injEq, PyData.str.injEq, PyData.int.injEq] at e
        rw [ih e.2, Prod.ext e.1.1 e.1.2]
  cases h with
  | dsi l' q n e => rw [← inj q] at e; exact ⟨_, rfl, e, n⟩
  | dst l' q n e =>
    cases l with
    | nil => cases q
    | cons p l => unfold dsiD dstD at q; simp at q
  | scr ns q e =>
    cases l with
    | nil => cases q
    | cons p l => unfold dsiD scrD at q; simp at q
  | fnr x q e =>
    cases l with
    | nil => cases q
    | cons p l => unfold dsiD fnD at q; simp at q
  | adr a q =>
    cases l with
    | nil => cases q
    | cons p l => unfold dsiD adrD at q; simp at q
  | exc q _ _ _ _ _ _ =>
    cases l with
    | nil => cases q
    | cons p l => unfold dsiD excD at q; simp at q
/-- a script is read -/
theorem Dx.scrA {v : V} {ns : List Int} (h : Dx K H F v (.dict (scrD ns))) : ∃ a, v = .ref a ∧ SqL K H a (ns.map V.int) ∧ ((¬ F a ∧ Rd H a (.lst (ns.map V.int))) ∨ SqLK K a (ns.map V.int)) := by
  cases h with
  | dsi l q n e =>
    cases l with
    | nil => cases q
    | cons p l => unfold dsiD scrD at q; simp at q
  | dst l q n e => unfold scrD dstD at q; simp at q
  | scr ns' q e =>
    have : ns = ns' := by
      unfold scrD at q
      have q := (List.cons.inj q).2
      have f : Function.Injective (fun n : Int => ((PyData.none, PyData.int n) : D × D)) := fun a b e => by simpa using e
      exact (List.map_inj_right (fun a b e => f e)).mp q
    subst this
    exact ⟨_, rfl, by rcases e with ⟨_, e⟩ | e; exact .inl e; exact .inr e, e⟩
  | fnr x q e => unfold scrD fnD at q; simp at q
  | adr a q => unfold scrD adrD at q; simp at q
  | exc q _ _ _ _ _ _ => unfold scrD excD at q; simp at q
/-- a def is read -/
theorem Dx.fnA {v : V} {x : Str} (h : Dx K H F v (.dict (fnD x))) : ∃ a, v = .ref a ∧ FnAt K x a := by
  cases h with
  | dsi l q n e =>
    cases l with
    | nil => cases q
    | cons p l => unfold dsiD fnD at q; simp at q
  | dst l q n e => unfold fnD dstD at q; simp at q
  | scr ns q e => unfold scrD fnD at q; simp at q
  | fnr y q e =>
    unfold fnD at q
    simp at q
    exact ⟨_, rfl, q ▸ e⟩
  | adr a q => unfold fnD adrD at q; simp at q
  | exc q _ _ _ _ _ _ => unfold fnD excD at q; simp at q
/-- an address is read -/
theorem Dx.adrA {v : V} {a : Addr} (h : Dx K H F v (.dict (adrD a))) : v = .ref a := by
  cases h with
  | dsi l q n e =>
    cases l with
    | nil => cases q
    | cons p l => unfold dsiD adrD at q; simp at q
  | dst l q n e => unfold adrD dstD at q; simp at q
  | scr ns q e => unfold scrD adrD at q; simp at q
  | fnr y q e => unfold fnD adrD at q; simp at q
  | adr b q =>
    unfold adrD at q
    simp only [List.cons.injEq, Prod.mk.injEq, PyData.int.injEq, Int.natCast_inj, and_true, true_and] at q
    rw [q]
  | exc q _ _ _ _ _ _ => unfold adrD excD at q; simp at q
/-- an exception is read -/
theorem Dx.excA {v : V} {x : Str} {w : D} (h : Dx K H F v (.dict (excD x w))) : ∃ (a C dd : Addr) (u : V), v = .ref a ∧ FlV u w ∧ FnAt K x C ∧ ¬ F a ∧ ¬ F dd ∧ H a = some (exK (.ref C) (some dd) a) ∧ H dd = some (.xd [("what", u)]) := by
  cases h with
  | dsi l q n e =>
    cases l with
    | nil => cases q
    | cons p l => unfold dsiD excD at q; simp at q
  | dst l q n e => unfold excD dstD at q; simp at q
  | scr ns q e => unfold scrD excD at q; simp at q
  | fnr y q e => unfold fnD excD at q; simp at q
  | adr b q => unfold adrD excD at q; simp at q
  | exc q fl at_ na nd ha hd =>
    unfold excD at q
    simp only [List.cons.injEq, Prod.mk.injEq, PyData.str.injEq, and_true, true_and] at q
    obtain ⟨q1, q2⟩ := q
    subst q1 q2
    exact ⟨_, _, _, _, rfl, fl, at_, na, nd, ha, hd⟩
/-- a dict of texts to texts is read -/
theorem Dx.dstA {v : V} {l : List (Str × Str)} (h : Dx K H F v (.dict (dstD l))) : ∃ a, v = .ref a ∧ H a = some (.dK (dstV l)) ∧ ¬ F a := by
  have inj : ∀ {l l' : List (Str × Str)}, (l.map fun p => ((PyData.str p.1, PyData.str p.2) : D × D)) = (l'.map fun p => ((PyData.str p.1, PyData.str p.2) : D × D)) → l = l' := fun {l} => by
    induction l with
    | nil => intro l' e; cases l' with | nil => rfl | cons _ _ => cases e
    | cons p l ih =>
      intro l' e
      cases l' with
      | nil => cases e
      | cons q l' =>
        simp only [List.map_cons, List.cons.injEq, Prod.mk.injEq, PyData.str.injEq] at e
        rw [ih e.2, Prod.ext e.1.1 e.1.2]
  cases h with
  | dsi l' q n e =>
    cases l' with
    | nil => cases q
    | cons p l' => unfold dsiD dstD at q; simp at q
  | dst l' q n e =>
    unfold dstD at q
    rw [← inj (List.cons.inj q).2] at e; exact ⟨_, rfl, e, n⟩
  | scr ns q e => unfold dstD scrD at q; simp at q
  | fnr x q e => unfold dstD fnD at q; simp at q
  | adr a q => unfold dstD adrD at q; simp at q
  | exc q _ _ _ _ _ _ => unfold dstD excD at q; simp at q
/-- a tuple is read -/
theorem Dx.sqt {v : V} {ds : List D} (h : Dx K H F v (.tuple ds)) : ∃ a xs, v = .ref a ∧ SqT K H a xs ∧ DxAll K H F xs ds := by
  cases h with
  | tup n e ha => exact ⟨_, _, rfl, .inl (.inl e), ha⟩
  | tupK e ha => exact ⟨_, _, rfl, .inr e, ha⟩
theorem Dx.sql {v : V} {ds : List D} (h : Dx K H F v (.list ds)) : ∃ a xs, v = .ref a ∧ H a = some (.lst xs) ∧ ¬ F a ∧ DxAll K H F xs ds := by
  cases h with
  | lst n e ha => exact ⟨_, _, rfl, e, n, ha⟩
end

/-! ### slots -/
/-- a thing of the world: a list, a dict (keys ints and texts; keys tuples of them), an object (its dict at dx), the dict of the object at a -/
inductive Cell where
  | lst (ds : List D) | dct (es : List (D × D)) | tct (es : List (D × D)) | obj (cls : Str) (dx : Addr) (fs : List (Str × D)) | odx (a : Addr)
def keyD : Key → D
  | .inl i => .int i
  | .inr x => .str x
def keysD (ks : List Key) : D := .tuple (ks.map keyD)
/-- what stands at a -/
inductive CellAt (K : PySem.W.Frag) (H : Hp) (F : AS) (a : Addr) : Cell → Prop
  | lst {vs : List V} {ds : List D} : H a = some (.lst vs) → DxAll K H F vs ds → CellAt K H F a (.lst ds)
  | dct {kvs : List (Key × V)} {es : List (D × D)} : H a = some (.dK kvs) → es.map (·.1) = kvs.map (fun p => keyD p.1) → DxAll K H F (kvs.map (·.2)) (es.map (·.2)) → CellAt K H F a (.dct es)
  | tct {kvs : List (List Key × V)} {es : List (D × D)} : H a = some (.dT kvs) → es.map (·.1) = kvs.map (fun p => keysD p.1) → DxAll K H F (kvs.map (·.2)) (es.map (·.2)) → CellAt K H F a (.tct es)
  | obj {cls : Str} {C dx : Addr} {vs : List V} {fs : List (Str × D)} : FnAt K cls C → H a = some (.ins C dx (fs.map (·.1) |>.zip vs)) → DxAll K H F vs (fs.map (·.2)) → CellAt K H F a (.obj cls dx fs)
  | odx {x : Addr} : H a = some (.own x) → CellAt K H F a (.odx x)
theorem CellAt.here {K : PySem.W.Frag} {H : Hp} {F : AS} {a : Addr} {c : Cell} (h : CellAt K H F a c) : ∃ o, H a = some o := by
  cases h with
  | lst e _ => exact ⟨_, e⟩
  | dct e _ _ => exact ⟨_, e⟩
  | tct e _ _ => exact ⟨_, e⟩
  | obj _ e _ => exact ⟨_, e⟩
  | odx e => exact ⟨_, e⟩
theorem CellAt.g {K : PySem.W.Frag} {H H' : Hp} {F F' : AS} {a : Addr} {c : Cell} (h : CellAt K H F a c) (k : ∀ o, H a = some o → H' a = some o) (g : Grow F F' H H') : CellAt K H' F' a c := by
  cases h with
  | lst e d => exact .lst (k _ e) (d.g g)
  | dct e q d => exact .dct (k _ e) q (d.g g)
  | tct e q d => exact .tct (k _ e) q (d.g g)
  | obj f e d => exact .obj f (k _ e) (d.g g)
  | odx e => exact .odx (k _ e)
inductive Slot where
  | non | dat (d : D) | own (b : Bool) (ds : List D)
  /-- a value of its own: the things at cs are nobody else's; fs tells what stands in them -/
  | raw (v : V) (cs : List (Addr × HO)) (fs : List (V × D))
  /-- the world: things by their addresses -/
  | wld (Ω : List (Addr × Cell))
def Slot.hv : Slot → Prop
  | .raw _ _ _ => True
  | .wld _ => True
  | _ => False
/-- a thing of the slot -/
def Slot.has (a : Addr) : Slot → Prop
  | .raw _ cs _ => ∃ o, (a, o) ∈ cs
  | .wld Ω => ∃ c, (a, c) ∈ Ω
  | _ => False
theorem Slot.has.hv {a : Addr} {s : Slot} (h : s.has a) : s.hv := by cases s <;> first | trivial | exact h.elim
/-- the frame of a call: the heap at its entry, what may not be touched, what is borrowed, where the borrowed lists stand -/
structure Fr where
  H0 : Hp
  fb : AS
  bw : AS
  l0 : Nat → Addr
def Rw (ρ : List Slot) (a : Addr) : Prop := ∃ (i : Nat) (s : Slot), ρ[i]? = some s ∧ s.has a
def Fb (fb : AS) (ρ : List Slot) (loc : Nat → Addr) : AS := fun a => fb a ∨ (Rw ρ a ∨ ∃ (i : Nat) (b : Bool) (ds : List D), ρ[i]? = some (Slot.own b ds) ∧ loc i = a)
/-- a thing is new since the entry, or borrowed -/
def Fr.Mine (G : Fr) (a : Addr) : Prop := (G.H0 a = none ∧ ¬ G.fb a) ∨ G.bw a
/-- what is known of the values of their own -/
structure RawR (K : PySem.W.Frag) (G : Fr) (ρ : List Slot) (loc : Nat → Addr) (σ : St) (H : Hp) : Prop where
  at_ : ∀ (i : Nat) (v : V) (cs : List (Addr × HO)) (fs : List (V × D)), ρ[i]? = some (Slot.raw v cs fs) → σ[i]? = some (some v) ∧ (cs.map (·.1)).Nodup ∧ (∀ p ∈ cs, H p.1 = some p.2 ∧ G.Mine p.1) ∧ ∀ q ∈ fs, Dx K H (Fb G.fb ρ loc) q.1 q.2
  wat : ∀ (i : Nat) (Ω : List (Addr × Cell)), ρ[i]? = some (Slot.wld Ω) → (Ω.map (·.1)).Nodup ∧ ∀ p ∈ Ω, CellAt K H (Fb G.fb ρ loc) p.1 p.2 ∧ G.Mine p.1
  own : ∀ (a : Addr), Rw ρ a → ∀ (j : Nat) (b : Bool) (ds : List D), ρ[j]? = some (Slot.own b ds) → loc j ≠ a
  two : ∀ (i j : Nat) (s s' : Slot) (a : Addr), ρ[i]? = some s → ρ[j]? = some s' → s.has a → s'.has a → i = j
structure Rep (K : PySem.W.Frag) (G : Fr) (ρ : List Slot) (loc : Nat → Addr) (σ : St) (H : Hp) : Prop where
  len : σ.length = ρ.length
  dat : ∀ (i : Nat) (d : D), ρ[i]? = some (Slot.dat d) → ∃ v, σ[i]? = some (some v) ∧ Dx K H (Fb G.fb ρ loc) v d
  own : ∀ (i : Nat) (b : Bool) (ds : List D), ρ[i]? = some (Slot.own b ds) → σ[i]? = some (some (.ref (loc i))) ∧ ∃ vs, H (loc i) = some (.lst vs) ∧ DxAll K H (Fb G.fb ρ loc) vs ds
  apart : ∀ (i j : Nat) (b c : Bool) (ds es : List D), ρ[i]? = some (Slot.own b ds) → ρ[j]? = some (Slot.own c es) → loc i = loc j → i = j
  brw : ∀ (i : Nat) (ds : List D), ρ[i]? = some (Slot.own true ds) → loc i = G.l0 i ∧ G.bw (loc i)
  new : ∀ (i : Nat) (ds : List D), ρ[i]? = some (Slot.own false ds) → G.H0 (loc i) = none ∧ ¬ G.fb (loc i)
  ext : ∀ (b : Addr) (o : HO), G.H0 b = some o → ¬ G.bw b → H b = some o
  fbS : ∀ (b : Addr), G.fb b → ∃ o, H b = some o
  bwS : ∀ b, G.bw b → G.fb b
  raw : RawR K G ρ loc σ H

abbrev M (α : Type) := List Slot → (α → List Slot → Prop) → Prop
def Mono {α : Type} (m : M α) : Prop := ∀ ρ (k k' : α → List Slot → Prop), (∀ a ρ', k a ρ' → k' a ρ') → m ρ k → m ρ k'

/-- what is known behind an expression -/
def KE {α : Type} (K : PySem.W.Frag) (G : Fr) (loc : Nat → Addr) (σ : St) (ρ : List Slot) (H : Hp) (R : Hp → AS → V → α → Prop) (Q : VK) : α → List Slot → Prop := fun d ρ' =>
  ∀ v H', Rep K G ρ' loc σ H' → Grow (Fb G.fb ρ loc) (Fb G.fb ρ' loc) H H' → R H' (Fb G.fb ρ' loc) v d → Q v H'
def TEof (K : PySem.W.Frag) (m : M D) : TE := fun σ H Q => ∃ G loc ρ, Rep K G ρ loc σ H ∧ m ρ fun d ρ' =>
  ∀ v H', Rep K G ρ' loc σ H' → Grow (Fb G.fb ρ loc) (Fb G.fb ρ' loc) H H' → Dx K H' (Fb G.fb ρ' loc) v d → Q v H'
structure EM (X : Cx) (e : Expr) (m : M D) : Prop where
  mono : Mono m
  run : PE X e (TEof X.K m)
def TTof (K : PySem.W.Frag) (m : M Bool) : TT := fun σ H Q => ∃ G loc ρ, Rep K G ρ loc σ H ∧ m ρ fun b ρ' =>
  ∀ H', Rep K G ρ' loc σ H' → Grow (Fb G.fb ρ loc) (Fb G.fb ρ' loc) H H' → Q b H'
structure TM (X : Cx) (e : Expr) (m : M Bool) : Prop where
  mono : Mono m
  run : PT X e (TTof X.K m)
structure WM (X : Cx) (e : Expr) (m : M Bool) : Prop where
  mono : Mono m
  run : PW X e (TTof X.K m)
def TAof (K : PySem.W.Frag) (m : M (List D)) : TA := fun σ H Q => ∃ G loc ρ, Rep K G ρ loc σ H ∧ m ρ fun ds ρ' =>
  ∀ vs H', Rep K G ρ' loc σ H' → Grow (Fb G.fb ρ loc) (Fb G.fb ρ' loc) H H' → DxAll K H' (Fb G.fb ρ' loc) vs ds → Q vs H'
structure AM (X : Cx) (es : List Expr) (m : M (List D)) : Prop where
  mono : Mono m
  run : PA X es (TAof X.K m)
/-- a frame in which p is not touched, either -/
def Fr.plus (G : Fr) (p : Addr) : Fr := { G with fb := fun a => G.fb a ∨ a = p }
/-- a new list -/
def TNof (K : PySem.W.Frag) (m : M (List D)) : TE := fun σ H Q => ∃ G loc ρ, Rep K G ρ loc σ H ∧ m ρ fun ds ρ' =>
  ∀ p vs H', G.H0 p = none → ¬ G.fb p → H' p = some (.lst vs) → Rep K (G.plus p) ρ' loc σ H' → Grow (Fb G.fb ρ loc) (Fb (G.plus p).fb ρ' loc) H H' →
    DxAll K H' (Fb (G.plus p).fb ρ' loc) vs ds → Q (.ref p) H'
structure NM (X : Cx) (e : Expr) (m : M (List D)) : Prop where
  mono : Mono m
  run : PE X e (TNof X.K m)

/-- what is wanted behind a statement -/
structure SK where
  nx : List Slot → Prop
  rt : Bool → D → List Slot → Prop
  bk : List Slot → Prop := fun _ => False
  ct : List Slot → Prop := fun _ => False
abbrev SMon := SK → List Slot → Prop
structure SK.le (k k' : SK) : Prop where
  nx : ∀ ρ, k.nx ρ → k'.nx ρ
  rt : ∀ b d ρ, k.rt b d ρ → k'.rt b d ρ
  bk : ∀ ρ, k.bk ρ → k'.bk ρ
  ct : ∀ ρ, k.ct ρ → k'.ct ρ
def SMono (m : SMon) : Prop := ∀ k k' ρ, SK.le k k' → m k ρ → m k' ρ
/-- the layer's ends are what the slots' ends come to -/
def Lands (K : PySem.W.Frag) (G : Fr) (loc : Nat → Addr) (ρ : List Slot) (H : Hp) (k : List Slot → Prop) (q : St → Hp → Prop) : Prop :=
  ∀ ρ' loc' σ' H', Rep K G ρ' loc' σ' H' → Grow (Fb G.fb ρ loc) (Fb G.fb ρ' loc') H H' → k ρ' → q σ' H'
/-- a list that is new since H0, which nothing else leads to -/
def IsNew (K : PySem.W.Frag) (H0 : Hp) (F : AS) (H : Hp) (v : V) (d : D) : Prop := ∃ p ws xs, v = .ref p ∧ d = .list xs ∧ H0 p = none ∧ H p = some (.lst ws) ∧ DxAll K H (fun a => F a ∨ a = p) ws xs
def LandsR (K : PySem.W.Frag) (G : Fr) (loc : Nat → Addr) (ρ : List Slot) (H : Hp) (k : Bool → D → List Slot → Prop) (q : VK) : Prop :=
  ∀ b d ρ' loc' σ' v H', Rep K G ρ' loc' σ' H' → Grow (Fb G.fb ρ loc) (Fb G.fb ρ' loc') H H' → Dx K H' (Fb G.fb ρ' loc') v d → (b = true → IsNew K G.H0 (Fb G.fb ρ' loc') H' v d) → k b d ρ' → q v H'
def TSof (K : PySem.W.Frag) (m : SMon) : TS := fun E σ H => ∃ G loc ρ k, Rep K G ρ loc σ H ∧ m k ρ ∧ Lands K G loc ρ H k.nx E.nx ∧ LandsR K G loc ρ H k.rt E.rt ∧ Lands K G loc ρ H k.bk E.bk ∧ Lands K G loc ρ H k.ct E.ct
structure SM (X : Cx) (st : Stmt) (m : SMon) : Prop where
  mono : SMono m
  run : PS X st (TSof X.K m)
structure BM (X : Cx) (sts : List Stmt) (m : SMon) : Prop where
  mono : SMono m
  run : PSs X sts (TSof X.K m)

section
variable {X : Cx} {e : Expr} {es : List Expr} {st : Stmt} {sts : List Stmt}
theorem pe_weak {t t' : TE} (h : PE X e t) (w : ∀ σ H Q, t' σ H Q → t σ H Q) : PE X e t' := ⟨fun pins s σ H Q I q => h.run pins s σ H Q I (w _ _ _ q)⟩
theorem pt_weak {t t' : TT} (h : PT X e t) (w : ∀ σ H Q, t' σ H Q → t σ H Q) : PT X e t' := ⟨fun pins s σ H Q I q => h.run pins s σ H Q I (w _ _ _ q)⟩
theorem pw_weak {t t' : TT} (h : PW X e t) (w : ∀ σ H Q, t' σ H Q → t σ H Q) : PW X e t' := ⟨fun wh pins s σ H Q I q => h.run wh pins s σ H Q I (w _ _ _ q)⟩
theorem pa_weak {t t' : TA} (h : PA X es t) (w : ∀ σ H Q, t' σ H Q → t σ H Q) : PA X es t' := ⟨fun pos pins s σ H Q I q => h.run pos pins s σ H Q I (w _ _ _ q)⟩
theorem ps_weak {t t' : TS} (h : PS X st t) (w : ∀ E σ H, t' E σ H → t E σ H) : PS X st t' := ⟨fun pins s σ H E I q => h.run pins s σ H E I (w _ _ _ q)⟩
theorem pss_weak {t t' : TS} (h : PSs X sts t) (w : ∀ E σ H, t' E σ H → t E σ H) : PSs X sts t' := ⟨fun pins s σ H E I q => h.run pins s σ H E I (w _ _ _ q)⟩
end

/-! ### how what is known is carried on -/
section
variable {K : PySem.W.Frag} {G : Fr} {ρ ρ' : List Slot} {loc loc' : Nat → Addr} {σ : St} {H H' : Hp}
theorem RawR.no (n : ∀ (i : Nat) (s : Slot), s.hv → ρ[i]? ≠ some s) : RawR K G ρ loc σ H :=
  ⟨fun i v cs fs e => (n i (.raw v cs fs) trivial e).elim, fun i Ω e => (n i (.wld Ω) trivial e).elim, fun a ⟨i, s, e, m⟩ => (n i s m.hv e).elim, fun i _ s _ _ e _ m _ => (n i s m.hv e).elim⟩
theorem RawR.here (R : RawR K G ρ loc σ H) {a : Addr} (z : Rw ρ a) : (∃ o, H a = some o) ∧ G.Mine a := by
  obtain ⟨i, s, e, m⟩ := z
  cases s with
  | raw v cs fs =>
    obtain ⟨o, m⟩ := m
    obtain ⟨_, _, c, _⟩ := R.at_ i v cs fs e
    exact ⟨⟨o, (c _ m).1⟩, (c _ m).2⟩
  | wld Ω =>
    obtain ⟨o, m⟩ := m
    obtain ⟨_, c⟩ := R.wat i Ω e
    exact ⟨(c _ m).1.here, (c _ m).2⟩
  | non => exact m.elim
  | dat d => exact m.elim
  | own b ds => exact m.elim
theorem Rw.sub (r : ∀ (i : Nat) (s : Slot), s.hv → ρ'[i]? = some s → ρ[i]? = some s) {a : Addr} (z : Rw ρ' a) : Rw ρ a := by
  obtain ⟨i, s, e, m⟩ := z
  exact ⟨i, s, r i s m.hv e, m⟩
/-- .. kept from step to step -/
theorem RawR.step {G' : Fr} {σ' : St} (R : RawR K G ρ loc σ H) (r : ∀ (i : Nat) (s : Slot), s.hv → ρ'[i]? = some s → ρ[i]? = some s ∧ σ'[i]? = σ[i]?)
    (o : ∀ (j : Nat) (b : Bool) (ds : List D), ρ'[j]? = some (Slot.own b ds) → (∃ c es, ρ[j]? = some (Slot.own c es) ∧ loc' j = loc j) ∨ ∀ a, Rw ρ a → loc' j ≠ a) (g : Grow (Fb G.fb ρ loc) (Fb G'.fb ρ' loc') H H')
    (k : ∀ a u, Rw ρ a → H a = some u → H' a = some u) (n : ∀ a, Rw ρ a → G.H0 a = .none → ¬ G.fb a → G'.H0 a = .none ∧ ¬ G'.fb a) (wb : ∀ a, G.bw a → G'.bw a := by exact fun _ h => h) : RawR K G' ρ' loc' σ' H' := by
  have r1 := fun (i : Nat) (s : Slot) h e => (r i s h e).1
  have mine : ∀ a, Rw ρ a → G.Mine a → G'.Mine a := fun a w m => m.elim (fun m => .inl (n a w m.1 m.2)) fun m => .inr (wb a m)
  refine ⟨fun i v cs fs e => ?_, fun i Ω e => ?_, fun a z j b ds e => ?_, fun i j s s' a e e' m m' => R.two i j s s' a (r1 _ _ m.hv e) (r1 _ _ m'.hv e') m m'⟩
  · obtain ⟨h1, h2⟩ := r i (.raw v cs fs) trivial e
    obtain ⟨a, b, c, d⟩ := R.at_ i v cs fs h1
    refine ⟨by rw [h2]; exact a, b, fun p hp => ?_, fun q hq => (d q hq).g g⟩
    have w : Rw ρ p.1 := ⟨i, _, h1, p.2, hp⟩
    obtain ⟨x, y⟩ := c p hp
    exact ⟨k _ _ w x, mine _ w y⟩
  · obtain ⟨h1, _⟩ := r i (.wld Ω) trivial e
    obtain ⟨b, c⟩ := R.wat i Ω h1
    refine ⟨b, fun p hp => ?_⟩
    have w : Rw ρ p.1 := ⟨i, _, h1, p.2, hp⟩
    obtain ⟨x, y⟩ := c p hp
    exact ⟨x.g (fun o e => k _ _ w e) g, mine _ w y⟩
  · rcases o j b ds e with ⟨c, es, q, l⟩ | q
    · rw [l]; exact R.own a (Rw.sub r1 z) j c es q
    · exact q a (Rw.sub r1 z)
theorem Rep.notFb (R : Rep K G ρ loc σ H) {p : Addr} (h : H p = none) : ¬ Fb G.fb ρ loc p := by
  rintro (q | q | ⟨i, b, ds, e, rfl⟩)
  · obtain ⟨o, q⟩ := R.fbS p q
    rw [h] at q; cases q
  · obtain ⟨⟨o, q⟩, _⟩ := R.raw.here q
    rw [h] at q; cases q
  · obtain ⟨_, vs, q, _⟩ := R.own i b ds e
    rw [h] at q; cases q
theorem Rep.h0 (R : Rep K G ρ loc σ H) {p : Addr} (h : H p = none) : G.H0 p = none := by
  cases q : G.H0 p with
  | none => rfl
  | some o =>
    by_cases hw : G.bw p
    · obtain ⟨o, q⟩ := R.fbS p (R.bwS p hw)
      rw [h] at q; cases q
    · rw [R.ext p o q hw] at h; cases h
/-- the heap has grown -/
theorem Rep.more (R : Rep K G ρ loc σ H) (x : ∀ b o, H b = some o → H' b = some o) : Rep K G ρ loc σ H' := by
  have g : Grow (Fb G.fb ρ loc) (Fb G.fb ρ loc) H H' := fun b o e n => ⟨x b o e, n⟩
  refine ⟨R.len, fun i d e => ?_, fun i b ds e => ?_, R.apart, R.brw, R.new, fun b o e n => x _ _ (R.ext b o e n), fun b e => ?_, R.bwS, R.raw.step (fun _ _ _ e => ⟨e, rfl⟩) (fun j b ds e => .inl ⟨b, ds, e, rfl⟩) g (fun a u _ e => x a u e) fun _ _ a b => ⟨a, b⟩⟩
  · obtain ⟨v, h1, h2⟩ := R.dat i d e
    exact ⟨v, h1, h2.g g⟩
  · obtain ⟨h1, vs, h2, h3⟩ := R.own i b ds e
    exact ⟨h1, vs, x _ _ h2, h3.g g⟩
  · obtain ⟨o, q⟩ := R.fbS b e
    exact ⟨o, x _ _ q⟩
theorem more_grow {F : AS} (x : ∀ b o, H b = some o → H' b = some o) : Grow F F H H' := fun b o e n => ⟨x b o e, n⟩
theorem upd_more {p : Addr} {o : HO} (h : H p = none) : ∀ b u, H b = some u → upd H p o b = some u := fun b u e => by
  rw [upd_ne (ne_of_none e h)]; exact e
/-- what is owned is read for good -/
theorem Fb_freeze {fb : AS} {i : Nat} {d : D} (a : Addr) (h : Fb fb (ρ.set i (.dat d)) loc a) : Fb fb ρ loc a := by
  rcases h with h | z | ⟨j, b, ds, e, l⟩
  · exact .inl h
  · refine .inr (.inl (Rw.sub (fun j s hs e => ?_) z))
    by_cases hj : i = j
    · subst hj
      by_cases hl : i < ρ.length
      · rw [List.getElem?_set_self hl] at e; cases e; exact hs.elim
      · rw [List.getElem?_eq_none (by simpa using hl)] at e; cases e
    · rwa [List.getElem?_set_ne hj] at e
  · refine .inr (.inr ⟨j, b, ds, ?_, l⟩)
    by_cases hj : i = j
    · subst hj
      by_cases hl : i < ρ.length
      · rw [List.getElem?_set_self hl] at e; cases e
      · rw [List.getElem?_eq_none (by simpa using hl)] at e; cases e
    · rwa [List.getElem?_set_ne hj] at e
theorem Rep.freeze (R : Rep K G ρ loc σ H) {i : Nat} {ds : List D} (e : ρ[i]? = some (Slot.own false ds)) :
    Rep K G (ρ.set i (.dat (.list ds))) loc σ H ∧ Dx K H (Fb G.fb (ρ.set i (.dat (.list ds))) loc) (.ref (loc i)) (.list ds) := by
  have hl : i < ρ.length := by
    rw [← List.getElem?_eq_some_iff.mp e |>.2] at e
    exact (List.getElem?_eq_some_iff.mp e).1
  obtain ⟨h1, vs, h2, h3⟩ := R.own i false ds e
  obtain ⟨n1, n2⟩ := R.new i ds e
  have sub : ∀ a, Fb G.fb (ρ.set i (.dat (.list ds))) loc a → Fb G.fb ρ loc a := fun a => Fb_freeze a
  have nf : ¬ Fb G.fb (ρ.set i (.dat (.list ds))) loc (loc i) := by
    rintro (q | z | ⟨j, b, es, e', l⟩)
    · exact n2 q
    · refine R.raw.own (loc i) (Rw.sub (fun j s hs q => ?_) z) i false ds e rfl
      by_cases hj : i = j
      · subst hj
        rw [List.getElem?_set_self hl] at q; cases q; exact hs.elim
      · rwa [List.getElem?_set_ne hj] at q
    · by_cases hj : i = j
      · subst hj
        rw [List.getElem?_set_self hl] at e'; cases e'
      · rw [List.getElem?_set_ne hj] at e'
        exact hj (R.apart i j _ _ _ _ e e' l.symm)
  have dx : Dx K H (Fb G.fb (ρ.set i (.dat (.list ds))) loc) (.ref (loc i)) (.list ds) := .lst nf h2 (h3.weak sub)
  have gt : ∀ j s, (ρ.set i (.dat (.list ds)))[j]? = some s → (j = i ∧ s = .dat (.list ds)) ∨ ρ[j]? = some s := fun j s q => by
    by_cases hj : i = j
    · subst hj
      rw [List.getElem?_set_self hl] at q
      exact .inl ⟨rfl, (Option.some.inj q).symm⟩
    · rw [List.getElem?_set_ne hj] at q; exact .inr q
  refine ⟨⟨by rw [List.length_set]; exact R.len, fun j d q => ?_, fun j b es q => ?_, fun j l b c es fs q q' z => ?_, fun j es q => ?_, fun j es q => ?_, R.ext, R.fbS, R.bwS, R.raw.step (fun j s hs q => ?_) (fun j b es q => ?_) (fun b o e n => ⟨e, fun z => n (sub b z)⟩) (fun _ _ _ e => e) fun _ _ a b => ⟨a, b⟩⟩, dx⟩
  · rcases gt j _ q with ⟨rfl, q'⟩ | q'
    · cases q'; exact ⟨_, h1, dx⟩
    · obtain ⟨v, a, b⟩ := R.dat j d q'
      exact ⟨v, a, b.weak sub⟩
  · rcases gt j _ q with ⟨_, q'⟩ | q'
    · cases q'
    · obtain ⟨a, ws, b, c⟩ := R.own j b es q'
      exact ⟨a, ws, b, c.weak sub⟩
  · rcases gt j _ q with ⟨_, q1⟩ | q1
    · cases q1
    · rcases gt l _ q' with ⟨_, q2⟩ | q2
      · cases q2
      · exact R.apart j l b c es fs q1 q2 z
  · rcases gt j _ q with ⟨_, q1⟩ | q1
    · cases q1
    · exact R.brw j es q1
  · rcases gt j _ q with ⟨_, q1⟩ | q1
    · cases q1
    · exact R.new j es q1
  · rcases gt j _ q with ⟨_, q1⟩ | q1
    · rw [q1] at hs; exact hs.elim
    · exact ⟨q1, rfl⟩
  · rcases gt j _ q with ⟨_, q1⟩ | q1
    · cases q1
    · exact .inl ⟨b, es, q1, rfl⟩
end
end DL

namespace DL
open PySem L2

/-! ### names and constants -/
def mPure {α : Type} (a : α) : M α := fun ρ k => k a ρ
def mVar (i : Nat) : M D := fun ρ k => match ρ[i]? with
  | some (.dat d) => k d ρ
  | some (.own false ds) => k (.list ds) (ρ.set i (.dat (.list ds)))
  | _ => False
theorem mono_pure {α : Type} {a : α} : Mono (mPure a) := fun _ _ _ h q => h _ _ q
theorem mono_var {i : Nat} : Mono (mVar i) := fun ρ k k' h q => by
  unfold mVar at q ⊢
  split at q
  · exact h _ _ q
  · exact h _ _ q
  · exact q.elim
section
variable {X : Cx}
theorem em_var (i : Nat) {x : Str} {pos : Pos} (h : PE X (.Name x pos) (tVar i)) : EM X (.Name x pos) (mVar i) := by
  refine ⟨mono_var, pe_weak h ?_⟩
  rintro σ H Q ⟨G, loc, ρ, R, q⟩
  unfold mVar at q
  split at q
  · rename_i d e
    obtain ⟨v, h1, h2⟩ := R.dat i d e
    exact ⟨v, h1, q v H R Grow.refl h2⟩
  · rename_i ds e
    obtain ⟨R', dx⟩ := R.freeze e
    exact ⟨_, (R.own i false ds e).1, q _ H R' (fun b o e n => ⟨e, fun z => n (Fb_freeze b z)⟩) dx⟩
  · exact q.elim
theorem em_c {e : Expr} {v : V} {d : D} (h : PE X e (tC v)) (c : ∀ H F, Dx X.K H F v d) : EM X e (mPure d) := by
  refine ⟨mono_pure, pe_weak h ?_⟩
  rintro σ H Q ⟨G, loc, ρ, R, q⟩
  exact q v H R Grow.refl (c _ _)
theorem em_int {i j pos} : EM X (.Constant (.int i) j pos) (mPure (.int i)) := em_c pe_int fun _ _ => .int i
theorem em_bl {b j pos} : EM X (.Constant (.bool b) j pos) (mPure (.bool b)) := em_c pe_bl fun _ _ => .bl b
theorem em_non {j pos} : EM X (.Constant .none j pos) (mPure .none) := em_c pe_non fun _ _ => .non
theorem em_str {x j pos} : EM X (.Constant (.str x) j pos) (mPure (.str x)) := em_c pe_str fun _ _ => .str x
end

/-! ### operators -/
def Pm1 (p : (D → Prop) → Prop) : Prop := ∀ k k' : D → Prop, (∀ d, k d → k' d) → p k → p k'
theorem OpR.or {X : Cx} {f : Value → Value → Sem Value} {r r' : R2} (h : OpR X f r) (h' : OpR X f r') : OpR X f (fun x y H Q => r x y H Q ∨ r' x y H Q) := by
  intro pins s σ H x y v u Q I rx ry q
  rcases q with q | q
  · exact h pins s σ H x y v u Q I rx ry q
  · exact h' pins s σ H x y v u Q I rx ry q
theorem OpR.weak {X : Cx} {f : Value → Value → Sem Value} {r r' : R2} (h : OpR X f r) (w : ∀ x y H Q, r' x y H Q → r x y H Q) : OpR X f r' := by
  intro pins s σ H x y v u Q I rx ry q
  exact h pins s σ H x y v u Q I rx ry (w _ _ _ _ q)
/-- what is wanted of a value that data stands for; the heap may have grown -/
def Kd (K : PySem.W.Frag) (F : AS) (H : Hp) (Q : VK) : D → Prop := fun d => ∀ v H', (∀ c o, H c = some o → H' c = some o) → Dx K H' F v d → Q v H'
abbrev P2 := D → D → (D → Prop) → Prop
def Prim2 (K : PySem.W.Frag) (r : R2) (p : P2) : Prop := ∀ (F : AS) (H : Hp) (x y : V) (a b : D) (Q : VK), (∀ c, F c → ∃ o, H c = some o) → Dx K H F x a → Dx K H F y b → p a b (Kd K F H Q) → r x y H Q
def mBin (p : P2) (ma mb : M D) : M D := fun ρ k => ma ρ fun a ρ1 => mb ρ1 fun b ρ2 => p a b fun d => k d ρ2
theorem mono_bin {p : P2} {ma mb : M D} (mp : ∀ a b, Pm1 (p a b)) (ha : Mono ma) (hb : Mono mb) : Mono (mBin p ma mb) := fun ρ k k' h q =>
  ha ρ _ _ (fun a ρ1 q1 => hb ρ1 _ _ (fun b ρ2 q2 => mp a b _ _ (fun d q3 => h d ρ2 q3) q2) q1) q
theorem Rep.fbE {K : PySem.W.Frag} {G : Fr} {ρ : List Slot} {loc : Nat → Addr} {σ : L2.St} {H : Hp} (R : Rep K G ρ loc σ H) : ∀ c, Fb G.fb ρ loc c → ∃ o, H c = some o := by
  rintro c (q | z | ⟨i, b, ds, e, rfl⟩)
  · exact R.fbS c q
  · exact (R.raw.here z).1
  · obtain ⟨_, vs, q, _⟩ := R.own i b ds e
    exact ⟨_, q⟩
/-- two values, one behind the other -/
theorem two_vals {K : PySem.W.Frag} {ma mb : M D} {r : R2} {p : P2} (hp : Prim2 K r p) (mp : ∀ a b, Pm1 (p a b)) (mba : Mono ma) (mbb : Mono mb) {σ : L2.St} {H : Hp} {Q : VK} (h : TEof K (mBin p ma mb) σ H Q) :
    tOp r (TEof K ma) (TEof K mb) σ H Q := by
  obtain ⟨G, loc, ρ, R, q⟩ := h
  refine ⟨G, loc, ρ, R, mba ρ _ _ (fun a ρ1 q1 v H1 R1 g1 d1 => ?_) q⟩
  refine ⟨G, loc, ρ1, R1, mbb ρ1 _ _ (fun b ρ2 q2 u H2 R2 g2 d2 => ?_) q1⟩
  refine hp (Fb G.fb ρ2 loc) H2 v u a b Q R2.fbE (d1.g g2) d2 (mp a b _ _ (fun d q3 w H3 m3 d3 => ?_) q2)
  exact q3 w H3 (R2.more m3) ((g1.trans g2).trans (more_grow m3)) d3

def addD : P2
  | .int i, .int j, k => k (.int (i + j))
  | .str x, .str y, k => x.length + y.length ≤ sizeLine ∧ k (.str (x ++ y))
  | .list xs, .list ys, k => xs.length + ys.length ≤ sizeLine ∧ k (.list (xs ++ ys))
  | .tuple xs, .tuple ys, k => (xs ≠ [] ∧ xs.length + ys.length ≤ sizeLine) ∧ k (.tuple (xs ++ ys))
  | _, _, _ => False
def subD : P2
  | .int i, .int j, k => k (.int (i - j))
  | _, _, _ => False
/-- a text so often -/
def repS (x : Str) (n : Nat) : Str := ⟨(List.replicate n x.cps.toList).flatten.toArray⟩
def mulD : P2
  | .int i, .int j, k => CMul i j ∧ k (.int (i * j))
  | .str x, .int j, k => (j < 16777217 ∧ -16777217 < j ∧ x.length * j.toNat ≤ sizeLine) ∧ k (.str (repS x j.toNat))
  | .list xs, .int j, k => (-(2 ^ 63) ≤ j ∧ j < 2 ^ 63 ∧ xs.length * j.toNat ≤ sizeLine) ∧ k (.list (List.replicate j.toNat xs).flatten)
  | .tuple xs, .int j, k => (xs ≠ [] ∧ 2 ≤ j ∧ j ≤ 1000 ∧ xs.length ≤ 1000) ∧ k (.tuple (List.replicate j.toNat xs).flatten)
  | _, _, _ => False
def fdivD : P2
  | .int i, .int j, k => CDiv i j ∧ k (.int (i / j))
  | _, _, _ => False
def modD : P2
  | .int i, .int j, k => 0 < j ∧ k (.int (i % j))
  | _, _, _ => False
def powD : P2
  | .int i, .int j, k => CPow i j ∧ k (.int (i ^ j.toNat))
  | _, _, _ => False
def eqD : P2 := fun a b k => (SeqAt.shaped a = true ∧ SeqAt.shaped b = true) ∧ k (.bool (PyData.eqv a b))
def neD : P2 := fun a b k => (SeqAt.shaped a = true ∧ SeqAt.shaped b = true) ∧ k (.bool (!PyData.eqv a b))
def ltD : P2
  | .int i, .int j, k => k (.bool (decide (i < j)))
  | .str x, .str y, k => k (.bool (decide (x.cps.toList < y.cps.toList)))
  | _, _, _ => False
def leD : P2
  | .int i, .int j, k => k (.bool (decide (i ≤ j)))
  | .str x, .str y, k => k (.bool (!decide (y.cps.toList < x.cps.toList)))
  | _, _, _ => False
def gtD : P2 := fun a b k => ltD b a k
def geD : P2 := fun a b k => leD b a k
def isD : P2
  | a, .none, k => k (.bool (match a with | .none => true | _ => false))
  | .bool a, .bool b, k => k (.bool (decide (a = b)))
  | _, _, _ => False
def isnD : P2
  | a, .none, k => k (.bool (match a with | .none => false | _ => true))
  | .bool a, .bool b, k => k (.bool (!decide (a = b)))
  | _, _, _ => False

section
variable {K : PySem.W.Frag}
theorem fresh_new {F : AS} {H : Hp} (hF : ∀ c, F c → ∃ o, H c = some o) {p : Addr} (h : H p = none) : ¬ F p := fun q => by
  obtain ⟨o, e⟩ := hF p q
  rw [h] at e; cases e
/-- a new list, a new tuple as data -/
theorem new_lst {F : AS} {H : Hp} (hF : ∀ c, F c → ∃ o, H c = some o) {xs : List V} {ds : List D} (h : DxAll K H F xs ds) {Q : VK} (q : Kd K F H Q (.list ds)) : ∀ p, H p = none → Q (.ref p) (upd H p (.lst xs)) := fun p hp =>
  q _ _ (upd_more hp) (.lst (fresh_new hF hp) upd_same (h.g (more_grow (upd_more hp))))
theorem new_tup {F : AS} {H : Hp} (hF : ∀ c, F c → ∃ o, H c = some o) {xs : List V} {ds : List D} (h : DxAll K H F xs ds) {Q : VK} (q : Kd K F H Q (.tuple ds)) : ∀ p, H p = none → Q (.ref p) (upd H p (.tup xs)) := fun p hp =>
  q _ _ (upd_more hp) (.tup (fresh_new hF hp) upd_same (h.g (more_grow (upd_more hp))))
theorem Kd.now {F : AS} {H : Hp} {Q : VK} {d : D} (q : Kd K F H Q d) {v : V} (h : Dx K H F v d) : Q v H := q v H (fun _ _ e => e) h
theorem DxAll.nil_iff {F : AS} {H : Hp} {xs : List V} {ds : List D} (h : DxAll K H F xs ds) : xs = [] ↔ ds = [] := by
  have e := h.length
  constructor
  · rintro rfl; exact List.eq_nil_of_length_eq_zero e.symm
  · rintro rfl; exact List.eq_nil_of_length_eq_zero e
def rAddU (K : PySem.W.Frag) : R2 := fun x y H Q => (rI0 (fun i j => .int (i + j)) x y H Q ∨ (∃ i j, x = .str i ∧ y = .str j ∧ i.length + j.length ≤ sizeLine ∧ Q (.str (i ++ j)) H)) ∨ (rCat x y H Q ∨ rCatT K x y H Q)
theorem op_addU {X : Cx} : OpR X (binaryOp .Add) (rAddU X.K) := OpR.or (OpR.or op_add op_add_str) (OpR.or op_cat op_catT)
theorem pm_add (a b : D) : Pm1 (addD a b) := fun k k' h q => by
  cases a <;> cases b <;> first | exact q.elim | exact h _ q | exact ⟨q.1, h _ q.2⟩
theorem prim_add : Prim2 K (rAddU K) addD := by
  intro F H x y a b Q hF hx hy h
  cases a <;> cases b <;> first | exact (show False from h).elim | skip
  · cases hx; cases hy
    exact .inl (.inl ⟨_, _, rfl, rfl, h.now (.int _)⟩)
  · cases hx; cases hy
    exact .inl (.inr ⟨_, _, rfl, rfl, h.1, h.2.now (.str _)⟩)
  · obtain ⟨p, xs, rfl, e1, n1, d1⟩ := hx.sql
    obtain ⟨q, ys, rfl, e2, n2, d2⟩ := hy.sql
    exact .inr (.inl ⟨p, q, xs, ys, rfl, rfl, e1, e2, by rw [d1.length, d2.length]; exact h.1, new_lst hF (d1.append d2) h.2⟩)
  · obtain ⟨p, xs, rfl, e1, d1⟩ := hx.sqt
    obtain ⟨q, ys, rfl, e2, d2⟩ := hy.sqt
    refine .inr (.inr ⟨p, q, xs, ys, rfl, rfl, e1, e2, fun z => h.1.1 (d1.nil_iff.mp z), by rw [d1.length, d2.length]; exact h.1.2, fun z => ?_, fun z => new_tup hF (d1.append d2) h.2⟩)
    have z2 := d2.nil_iff.mp z
    subst z2
    have h2 := h.2
    rw [List.append_nil] at h2
    exact h2.now hx
theorem pm_sub (a b : D) : Pm1 (subD a b) := fun k k' h q => by
  cases a <;> cases b <;> first | exact q.elim | exact h _ q
theorem prim_sub : Prim2 K (rI0 fun i j => .int (i - j)) subD := by
  intro F H x y a b Q hF hx hy h
  cases a <;> cases b <;> first | exact (show False from h).elim | skip
  cases hx; cases hy
  exact ⟨_, _, rfl, rfl, h.now (.int _)⟩
end
end DL

namespace DL
open PySem L2

theorem foldl_app (l : List Nat) (x : Array Nat) : ∀ n (acc : Array Nat), (List.replicate n x).foldl (· ++ ·) acc = acc ++ ((List.replicate n x.toList).flatten).toArray
  | 0, acc => by simp
  | n + 1, acc => by
    rw [List.replicate_succ, List.foldl_cons, foldl_app l x n, List.replicate_succ, List.flatten_cons]
    apply Array.ext'
    simp
theorem repS_eq (x : Str) (n : Nat) : (⟨(List.replicate n x.cps).foldl (· ++ ·) #[]⟩ : Str) = repS x n := by
  unfold repS
  rw [foldl_app [] x.cps n #[]]
  simp
theorem repS_len (x : Str) (n : Nat) : (repS x n).length = x.length * n := by
  show ((List.replicate n x.cps.toList).flatten.toArray).size = x.cps.size * n
  rw [List.size_toArray]
  induction n with
  | zero => simp
  | succ n ih => rw [List.replicate_succ, List.flatten_cons, List.length_append, ih, Array.length_toList, Nat.mul_succ, Nat.add_comm]
theorem repS_one (x : Str) : repS x 1 = x := by
  unfold repS
  simp
theorem repS_zero (x : Str) : repS x 0 = Str.empty := by
  unfold repS
  rfl
theorem repS_nil {x : Str} (h : x.length = 0) (n : Nat) : repS x n = x := by
  obtain ⟨c⟩ := x
  have hc : c = #[] := Array.eq_empty_of_size_eq_zero h
  subst hc
  unfold repS
  simp
/-- a text times an int -/
def rRepS : R2 := fun x y H Q => ∃ z n, x = .str z ∧ y = .int n ∧ (n < 16777217 ∧ -16777217 < n ∧ z.length * n.toNat ≤ sizeLine) ∧ Q (.str (repS z n.toNat)) H
theorem op_repS {X : Cx} : OpR X (binaryOp .Mult) rRepS := by
  intro pins s σ H x y v u Q I rx ry h
  obtain ⟨z, n, rfl, rfl, ⟨h1, h2, h3⟩, q⟩ := h
  obtain ⟨t, rfl⟩ := rx
  obtain ⟨t', rfl⟩ := ry
  have hs : sizeLine = 16777216 := sizeLine_eq
  refine PySem.P.mul_str ?_ (fun a b => ?_) (fun a b => ?_) ?_
  · have e1 : ¬ n < -(2 ^ 63 : Int) := by omega
    have e2 : ¬ n ≥ 2 ^ 63 := by omega
    rw [decide_eq_false e1, decide_eq_false e2]; rfl
  · intro c
    rw [Bool.or_eq_false_iff] at b
    have hz : z.length ≠ 0 := by have := b.2; intro q; rw [q] at this; cases this
    have hle : z.length ≤ z.length * n.toNat := Nat.le_mul_of_pos_right _ (by omega)
    have hle2 : (z.length : Int) * n ≤ 16777216 := by
      have : ((z.length * n.toNat : Nat) : Int) ≤ 16777216 := by omega
      rw [Int.natCast_mul, Int.toNat_of_nonneg (by omega)] at this
      exact this
    have : (z.length : Int) ≤ (2 ^ 63 - 1) / n := Int.le_ediv_of_mul_le (by omega) (by omega)
    omega
  · show PySem.Builtin.Str.tooLong (z.length * n.toNat) = false
    unfold PySem.Builtin.Str.tooLong
    first
      | exact decide_eq_false (by omega)
      | (simp; omega)
  · by_cases hn : n < 1
    · rw [if_pos hn]
      have e0 : n.toNat = 0 := by omega
      rw [e0, repS_zero] at q
      exact ⟨by decide, .str _, H, I.tok _, ⟨_, rfl⟩, q⟩
    · rw [if_neg hn]
      by_cases c : (n == 1 || z.length == 0) = true
      · rw [if_pos c]
        have e : repS z n.toNat = z := by
          rw [Bool.or_eq_true] at c
          rcases c with c | c
          · have : n = 1 := by simpa using c
            subst this
            exact repS_one z
          · exact repS_nil (by simpa using c) _
        rw [e] at q
        exact ⟨.str _, H, I, ⟨_, rfl⟩, q⟩
      · rw [if_neg c, repS_eq]
        exact ⟨by show (repS z n.toNat).length ≤ sizeLine; rw [repS_len]; exact h3, .str _, H, I.tok _, ⟨_, rfl⟩, q⟩
section
variable {K : PySem.W.Frag}
def rMulU (K : PySem.W.Frag) : R2 := fun x y H Q => (rI CMul (fun i j => .int (i * j)) x y H Q ∨ rRepS x y H Q) ∨ (rRep x y H Q ∨ rRepT K x y H Q)
theorem op_mulU {X : Cx} : OpR X (binaryOp .Mult) (rMulU X.K) := OpR.or (OpR.or op_mul op_repS) (OpR.or op_rep op_repT)
theorem pm_mul (a b : D) : Pm1 (mulD a b) := fun k k' h q => by
  cases a <;> cases b <;> first | exact q.elim | exact ⟨q.1, h _ q.2⟩
theorem dx_reps {F : AS} {H : Hp} {xs : List V} {ds : List D} (h : DxAll K H F xs ds) : ∀ n, DxAll K H F (List.replicate n xs).flatten (List.replicate n ds).flatten
  | 0 => .nil
  | n + 1 => by
    rw [List.replicate_succ, List.replicate_succ, List.flatten_cons, List.flatten_cons]
    exact h.append (dx_reps h n)
theorem prim_mul : Prim2 K (rMulU K) mulD := by
  intro F H x y a b Q hF hx hy h
  cases a <;> cases b <;> first | exact (show False from h).elim | skip
  · cases hx; cases hy
    exact .inl (.inl ⟨_, _, rfl, rfl, h.1, h.2.now (.int _)⟩)
  · cases hx; cases hy
    exact .inl (.inr ⟨_, _, rfl, rfl, h.1, h.2.now (.str _)⟩)
  · cases hy
    obtain ⟨p, xs, rfl, e1, n1, d1⟩ := hx.sql
    exact .inr (.inl ⟨p, _, xs, rfl, rfl, e1, h.1.1, h.1.2.1, by rw [d1.length]; exact h.1.2.2, new_lst hF (dx_reps d1 _) h.2⟩)
  · cases hy
    obtain ⟨p, xs, rfl, e1, d1⟩ := hx.sqt
    refine .inr (.inr ⟨p, _, xs, rfl, rfl, e1, fun z => h.1.1 ?_, h.1.2.1, h.1.2.2.1, by rw [d1.length]; exact h.1.2.2.2, new_tup hF (dx_reps d1 _) h.2⟩)
    subst z
    cases d1; rfl
theorem pm_fdiv (a b : D) : Pm1 (fdivD a b) := fun k k' h q => by
  cases a <;> cases b <;> first | exact q.elim | exact ⟨q.1, h _ q.2⟩
theorem prim_fdiv : Prim2 K (rI CDiv fun i j => .int (i / j)) fdivD := by
  intro F H x y a b Q hF hx hy h
  cases a <;> cases b <;> first | exact (show False from h).elim | skip
  cases hx; cases hy
  exact ⟨_, _, rfl, rfl, h.1, h.2.now (.int _)⟩
theorem pm_mod (a b : D) : Pm1 (modD a b) := fun k k' h q => by
  cases a <;> cases b <;> first | exact q.elim | exact ⟨q.1, h _ q.2⟩
theorem prim_mod : Prim2 K (rI (fun _ j => 0 < j) fun i j => .int (i % j)) modD := by
  intro F H x y a b Q hF hx hy h
  cases a <;> cases b <;> first | exact (show False from h).elim | skip
  cases hx; cases hy
  exact ⟨_, _, rfl, rfl, h.1, h.2.now (.int _)⟩
theorem pm_pow (a b : D) : Pm1 (powD a b) := fun k k' h q => by
  cases a <;> cases b <;> first | exact q.elim | exact ⟨q.1, h _ q.2⟩
theorem prim_pow : Prim2 K (rI CPow fun i j => .int (i ^ j.toNat)) powD := by
  intro F H x y a b Q hF hx hy h
  cases a <;> cases b <;> first | exact (show False from h).elim | skip
  cases hx; cases hy
  exact ⟨_, _, rfl, rfl, h.1, h.2.now (.int _)⟩
theorem pm_eq (a b : D) : Pm1 (eqD a b) := fun k k' h q => ⟨q.1, h _ q.2⟩
theorem pm_ne (a b : D) : Pm1 (neD a b) := fun k k' h q => ⟨q.1, h _ q.2⟩
theorem prim_eq : Prim2 K (rEqD K) eqD := fun F H x y a b Q hF hx hy h => ⟨a, b, hx.dp _ _ (SeqAt.canLay_of_shaped h.1.1), hy.dp _ _ (SeqAt.canLay_of_shaped h.1.2), h.1.1, h.1.2, h.2.now (.bl _)⟩
theorem prim_ne : Prim2 K (rNeD K) neD := fun F H x y a b Q hF hx hy h => ⟨a, b, hx.dp _ _ (SeqAt.canLay_of_shaped h.1.1), hy.dp _ _ (SeqAt.canLay_of_shaped h.1.2), h.1.1, h.1.2, h.2.now (.bl _)⟩
theorem pm_lt (a b : D) : Pm1 (ltD a b) := fun k k' h q => by
  cases a <;> cases b <;> first | exact q.elim | exact h _ q
theorem pm_le (a b : D) : Pm1 (leD a b) := fun k k' h q => by
  cases a <;> cases b <;> first | exact q.elim | exact h _ q
theorem pm_gt (a b : D) : Pm1 (gtD a b) := pm_lt b a
theorem pm_ge (a b : D) : Pm1 (geD a b) := pm_le b a
def rLtU : R2 := fun x y H Q => rI0 (fun i j => .bl (decide (i < j))) x y H Q ∨ ∃ i j, x = .str i ∧ y = .str j ∧ Q (.bl (decide (i.cps.toList < j.cps.toList))) H
def rLeU : R2 := fun x y H Q => rI0 (fun i j => .bl (decide (i ≤ j))) x y H Q ∨ ∃ i j, x = .str i ∧ y = .str j ∧ Q (.bl (!decide (j.cps.toList < i.cps.toList))) H
def rGtU : R2 := fun x y H Q => rI0 (fun i j => .bl (decide (j < i))) x y H Q ∨ ∃ i j, x = .str i ∧ y = .str j ∧ Q (.bl (decide (j.cps.toList < i.cps.toList))) H
def rGeU : R2 := fun x y H Q => rI0 (fun i j => .bl (decide (j ≤ i))) x y H Q ∨ ∃ i j, x = .str i ∧ y = .str j ∧ Q (.bl (!decide (i.cps.toList < j.cps.toList))) H
theorem op_ltU {X : Cx} : OpR X (compareOp .Lt) rLtU := OpR.or op_lt op_lt_str
theorem op_leU {X : Cx} : OpR X (compareOp .LtE) rLeU := OpR.or op_le op_le_str
theorem op_gtU {X : Cx} : OpR X (compareOp .Gt) rGtU := OpR.or op_gt op_gt_str
theorem op_geU {X : Cx} : OpR X (compareOp .GtE) rGeU := OpR.or op_ge op_ge_str
theorem prim_lt : Prim2 K rLtU ltD := by
  intro F H x y a b Q hF hx hy h
  cases a <;> cases b <;> first | exact (show False from h).elim | skip
  · cases hx; cases hy; exact .inl ⟨_, _, rfl, rfl, h.now (.bl _)⟩
  · cases hx; cases hy; exact .inr ⟨_, _, rfl, rfl, h.now (.bl _)⟩
theorem prim_le : Prim2 K rLeU leD := by
  intro F H x y a b Q hF hx hy h
  cases a <;> cases b <;> first | exact (show False from h).elim | skip
  · cases hx; cases hy; exact .inl ⟨_, _, rfl, rfl, h.now (.bl _)⟩
  · cases hx; cases hy; exact .inr ⟨_, _, rfl, rfl, h.now (.bl _)⟩
theorem prim_gt : Prim2 K rGtU gtD := by
  intro F H x y a b Q hF hx hy h
  cases a <;> cases b <;> first | exact (show False from h).elim | skip
  · cases hx; cases hy; exact .inl ⟨_, _, rfl, rfl, Kd.now (d := .bool _) h (.bl _)⟩
  · cases hx; cases hy; exact .inr ⟨_, _, rfl, rfl, Kd.now (d := .bool _) h (.bl _)⟩
theorem prim_ge : Prim2 K rGeU geD := by
  intro F H x y a b Q hF hx hy h
  cases a <;> cases b <;> first | exact (show False from h).elim | skip
  · cases hx; cases hy; exact .inl ⟨_, _, rfl, rfl, Kd.now (d := .bool _) h (.bl _)⟩
  · cases hx; cases hy; exact .inr ⟨_, _, rfl, rfl, Kd.now (d := .bool _) h (.bl _)⟩
def rIsU : R2 := fun x y H Q => (y = .non ∧ Q (.bl (decide (x = .non))) H) ∨ rIsB x y H Q
def rIsnU : R2 := fun x y H Q => (y = .non ∧ Q (.bl (!decide (x = .non))) H) ∨ rNotB x y H Q
theorem op_isU {X : Cx} : OpR X (compareOp .Is) rIsU := OpR.or op_isN op_isBl
theorem op_isnU {X : Cx} : OpR X (compareOp .IsNot) rIsnU := OpR.or op_notN op_notBl
theorem pm_is (a b : D) : Pm1 (isD a b) := fun k k' h q => by
  cases a <;> cases b <;> first | exact q.elim | exact h _ q
theorem pm_isn (a b : D) : Pm1 (isnD a b) := fun k k' h q => by
  cases a <;> cases b <;> first | exact q.elim | exact h _ q
theorem prim_is : Prim2 K rIsU isD := by
  intro F H x y a b Q hF hx hy h
  cases b with
  | none =>
    cases hy
    refine .inl ⟨rfl, ?_⟩
    cases a <;> cases hx <;> exact Kd.now (d := .bool _) h (.bl _)
  | bool c =>
    cases a <;> first | exact (show False from h).elim | skip
    cases hx; cases hy
    exact .inr ⟨_, _, rfl, rfl, Kd.now (d := .bool _) h (.bl _)⟩
  | _ => cases a <;> exact (show False from h).elim
theorem prim_isn : Prim2 K rIsnU isnD := by
  intro F H x y a b Q hF hx hy h
  cases b with
  | none =>
    cases hy
    refine .inl ⟨rfl, ?_⟩
    cases a <;> cases hx <;> exact Kd.now (d := .bool _) h (.bl _)
  | bool c =>
    cases a <;> first | exact (show False from h).elim | skip
    cases hx; cases hy
    exact .inr ⟨_, _, rfl, rfl, Kd.now (d := .bool _) h (.bl _)⟩
  | _ => cases a <;> exact (show False from h).elim

/-! ### in, not in -/
def flatD : D → Bool
  | .none => true | .bool _ => true | .int _ => true | .str _ => true | _ => false
def eqF : D → D → Bool
  | .none, .none => true
  | .bool a, .bool b => a == b
  | .bool a, .int b => (if a then 1 else 0) == b
  | .int a, .bool b => a == (if b then 1 else 0)
  | .int a, .int b => a == b
  | .str a, .str b => a == b
  | _, _ => false
def memF (x : D) (xs : List D) : Bool := xs.any fun y => eqF y x
def inD : P2
  | .str x, .str y, k => k (.bool (!(Builtin.Str.occurrences y x 0 y.length 1).isEmpty))
  | a, .list xs, k => (flatD a = true ∧ xs.all flatD = true) ∧ k (.bool (memF a xs))
  | a, .tuple xs, k => (flatD a = true ∧ xs.all flatD = true) ∧ k (.bool (memF a xs))
  | _, _, _ => False
def ninD : P2
  | .str x, .str y, k => k (.bool (!(!(Builtin.Str.occurrences y x 0 y.length 1).isEmpty)))
  | a, .list xs, k => (flatD a = true ∧ xs.all flatD = true) ∧ k (.bool (!memF a xs))
  | a, .tuple xs, k => (flatD a = true ∧ xs.all flatD = true) ∧ k (.bool (!memF a xs))
  | _, _, _ => False
theorem flat_of {F : AS} {H : Hp} {v : V} {d : D} (h : Dx K H F v d) (f : flatD d = true) : flatV v = true := by
  cases h <;> first | rfl | (exact absurd f (by decide)) | cases f
theorem flats_of {F : AS} {H : Hp} : ∀ {ds : List D} {vs : List V}, DxAll K H F vs ds → ds.all flatD = true → vs.all flatV = true
  | [], _, h, _ => by cases h; rfl
  | d :: ds, _, h, f => by
    cases h with
    | cons a b =>
      rw [List.all_cons, Bool.and_eq_true] at f
      rw [List.all_cons, flat_of a f.1, flats_of b f.2]; rfl
theorem eqV_of {F : AS} {H : Hp} {v u : V} {a b : D} (ha : Dx K H F v a) (hb : Dx K H F u b) : flatD a = true → flatD b = true → eqV v u = eqF a b := by
  intro fa fb
  cases ha <;> cases hb <;> first | rfl | (cases fa; done) | (cases fb; done)
theorem mem_of {F : AS} {H : Hp} {u : V} {b : D} (hb : Dx K H F u b) (fb : flatD b = true) : ∀ {ds : List D} {vs : List V}, DxAll K H F vs ds → ds.all flatD = true → inV u vs = memF b ds
  | [], _, h, _ => by cases h; rfl
  | d :: ds, _, h, f => by
    cases h with
    | cons x y =>
      rw [List.all_cons, Bool.and_eq_true] at f
      have ih := mem_of hb fb y f.2
      unfold inV memF at ih ⊢
      rw [List.any_cons, List.any_cons, eqV_of x hb f.1 fb, ih]
def rInU (K : PySem.W.Frag) : R2 := fun x y H Q => (∃ i j, x = .str i ∧ y = .str j ∧ Q (.bl (!(Builtin.Str.occurrences j i 0 j.length 1).isEmpty)) H) ∨ rIn K false x y H Q
def rNinU (K : PySem.W.Frag) : R2 := fun x y H Q => (∃ i j, x = .str i ∧ y = .str j ∧ Q (.bl (!(!(Builtin.Str.occurrences j i 0 j.length 1).isEmpty))) H) ∨ rIn K true x y H Q
theorem op_inU {X : Cx} : OpR X (compareOp .In) (rInU X.K) := OpR.or op_in_str op_in_seq
theorem op_ninU {X : Cx} : OpR X (compareOp .NotIn) (rNinU X.K) := OpR.or op_notin_str op_notIn_seq
theorem pm_in (a b : D) : Pm1 (inD a b) := fun k k' h q => by
  cases a <;> cases b <;> first | exact q.elim | exact h _ q | exact ⟨q.1, h _ q.2⟩
theorem pm_nin (a b : D) : Pm1 (ninD a b) := fun k k' h q => by
  cases a <;> cases b <;> first | exact q.elim | exact h _ q | exact ⟨q.1, h _ q.2⟩
theorem prim_in : Prim2 K (rInU K) inD := by
  intro F H x y a b Q hF hx hy h
  cases b with
  | str z =>
    cases a <;> first | exact (show False from h).elim | skip
    cases hx; cases hy
    exact .inl ⟨_, _, rfl, rfl, Kd.now (d := .bool _) h (.bl _)⟩
  | list xs =>
    have h' : (flatD a = true ∧ xs.all flatD = true) ∧ Kd K F H Q (.bool (memF a xs)) := by cases a <;> exact h
    obtain ⟨p, ys, rfl, e, _, d⟩ := hy.sql
    refine .inr ⟨p, ys, rfl, .inl (.inl (.inl e)), flat_of hx h'.1.1, flats_of d h'.1.2, ?_⟩
    rw [if_neg Bool.false_ne_true, mem_of hx h'.1.1 d h'.1.2]
    exact h'.2.now (.bl _)
  | tuple xs =>
    have h' : (flatD a = true ∧ xs.all flatD = true) ∧ Kd K F H Q (.bool (memF a xs)) := by cases a <;> exact h
    obtain ⟨p, ys, rfl, e, d⟩ := hy.sqt
    refine .inr ⟨p, ys, rfl, .inr e, flat_of hx h'.1.1, flats_of d h'.1.2, ?_⟩
    rw [if_neg Bool.false_ne_true, mem_of hx h'.1.1 d h'.1.2]
    exact h'.2.now (.bl _)
  | _ => cases a <;> exact (show False from h).elim
theorem prim_nin : Prim2 K (rNinU K) ninD := by
  intro F H x y a b Q hF hx hy h
  cases b with
  | str z =>
    cases a <;> first | exact (show False from h).elim | skip
    cases hx; cases hy
    exact .inl ⟨_, _, rfl, rfl, Kd.now (d := .bool _) h (.bl _)⟩
  | list xs =>
    have h' : (flatD a = true ∧ xs.all flatD = true) ∧ Kd K F H Q (.bool (!memF a xs)) := by cases a <;> exact h
    obtain ⟨p, ys, rfl, e, _, d⟩ := hy.sql
    refine .inr ⟨p, ys, rfl, .inl (.inl (.inl e)), flat_of hx h'.1.1, flats_of d h'.1.2, ?_⟩
    rw [if_pos rfl, mem_of hx h'.1.1 d h'.1.2]
    exact h'.2.now (.bl _)
  | tuple xs =>
    have h' : (flatD a = true ∧ xs.all flatD = true) ∧ Kd K F H Q (.bool (!memF a xs)) := by cases a <;> exact h
    obtain ⟨p, ys, rfl, e, d⟩ := hy.sqt
    refine .inr ⟨p, ys, rfl, .inr e, flat_of hx h'.1.1, flats_of d h'.1.2, ?_⟩
    rw [if_pos rfl, mem_of hx h'.1.1 d h'.1.2]
    exact h'.2.now (.bl _)
  | _ => cases a <;> exact (show False from h).elim
end

/-! ### the expressions made of them -/
section
variable {X : Cx} {a b c : Expr} {ma mb mc : M D} {pos : Pos}
theorem em_op {op : Operator} {r : R2} {p : P2} (ho : OpR X (binaryOp op) r) (hp : Prim2 X.K r p) (mp : ∀ a b, Pm1 (p a b)) (ha : EM X a ma) (hb : EM X b mb) : EM X (.BinOp a op b pos) (mBin p ma mb) :=
  ⟨mono_bin mp ha.mono hb.mono, pe_weak (pe_op ho ha.run hb.run) fun _ _ _ h => two_vals hp mp ha.mono hb.mono h⟩
theorem em_add (ha : EM X a ma) (hb : EM X b mb) : EM X (.BinOp a .Add b pos) (mBin addD ma mb) := em_op op_addU prim_add pm_add ha hb
theorem em_sub (ha : EM X a ma) (hb : EM X b mb) : EM X (.BinOp a .Sub b pos) (mBin subD ma mb) := em_op op_sub prim_sub pm_sub ha hb
theorem em_mul (ha : EM X a ma) (hb : EM X b mb) : EM X (.BinOp a .Mult b pos) (mBin mulD ma mb) := em_op op_mulU prim_mul pm_mul ha hb
theorem em_fdiv (ha : EM X a ma) (hb : EM X b mb) : EM X (.BinOp a .FloorDiv b pos) (mBin fdivD ma mb) := em_op op_fdiv prim_fdiv pm_fdiv ha hb
theorem em_mod (ha : EM X a ma) (hb : EM X b mb) : EM X (.BinOp a .Mod b pos) (mBin modD ma mb) := em_op op_mod prim_mod pm_mod ha hb
theorem em_pow (ha : EM X a ma) (hb : EM X b mb) : EM X (.BinOp a .Pow b pos) (mBin powD ma mb) := em_op op_pow prim_pow pm_pow ha hb
def mTest (m : M D) : M Bool := fun ρ k => m ρ fun d ρ' => match d with
  | .bool b => k b ρ'
  | _ => False
theorem mono_test {m : M D} (h : Mono m) : Mono (mTest m) := fun ρ k k' w q => h ρ _ _ (fun d ρ' q' => by cases d <;> first | exact w _ _ q' | exact q') q
theorem em_cmp {op : CmpOp} {r : R2} {p : P2} (ho : OpR X (compareOp op) r) (hp : Prim2 X.K r p) (mp : ∀ a b, Pm1 (p a b)) (hm : behindInMarks op b = false) (ha : EM X a ma) (hb : EM X b mb) : EM X (.Compare a [op] [b] pos) (mBin p ma mb) :=
  ⟨mono_bin mp ha.mono hb.mono, pe_weak (pe_cmpR ho ha.run hb.run hm) fun _ _ _ h => two_vals hp mp ha.mono hb.mono h⟩
theorem tt_te {K : PySem.W.Frag} {m : M D} (hm : Mono m) {σ : L2.St} {H : Hp} {Q : Bool → Hp → Prop} (h : TTof K (mTest m) σ H Q) : TEof K m σ H fun x H' => ∃ k, x = .bl k ∧ Q k H' := by
  obtain ⟨G, loc, ρ, R, q⟩ := h
  refine ⟨G, loc, ρ, R, hm ρ _ _ (fun d ρ' q' v H' R' g' d' => ?_) q⟩
  cases d <;> first | exact (show False from q').elim | skip
  cases d'
  exact ⟨_, rfl, q' H' R' g'⟩
theorem tm_cmp {op : CmpOp} {r : R2} {p : P2} (ho : OpR X (compareOp op) r) (hp : Prim2 X.K r p) (mp : ∀ a b, Pm1 (p a b)) (hm : behindInMarks op b = false) (ha : EM X a ma) (hb : EM X b mb) : TM X (.Compare a [op] [b] pos) (mTest (mBin p ma mb)) :=
  ⟨mono_test (mono_bin mp ha.mono hb.mono), pt_weak (pt_cmpR ho ha.run hb.run hm) fun σ H Q h => two_vals hp mp ha.mono hb.mono (tt_te (mono_bin mp ha.mono hb.mono) h)⟩
/-- an expression that gives a bool, as a test -/
theorem tm_val {e : Expr} {m : M D} (h : EM X e m) (he : ∀ whole, isTrue e X.env whole = (do let v ← whole; standAt e.pos; holding [v] (truthy v)) := by intro _; rfl) : TM X e (mTest m) :=
  ⟨mono_test h.mono, pt_weak (pt_val h.run he) fun σ H Q q => tt_te h.mono q⟩
theorem em_eq (hu : X.A.units + 64 < cLine) (ha : EM X a ma) (hb : EM X b mb) : EM X (.Compare a [.Eq] [b] pos) (mBin eqD ma mb) := em_cmp (op_eqD hu) prim_eq pm_eq (nomark b) ha hb
theorem em_ne (hu : X.A.units + 64 < cLine) (ha : EM X a ma) (hb : EM X b mb) : EM X (.Compare a [.NotEq] [b] pos) (mBin neD ma mb) := em_cmp (op_neD hu) prim_ne pm_ne (nomark b) ha hb
theorem em_lt (ha : EM X a ma) (hb : EM X b mb) : EM X (.Compare a [.Lt] [b] pos) (mBin ltD ma mb) := em_cmp op_ltU prim_lt pm_lt (nomark b) ha hb
theorem em_le (ha : EM X a ma) (hb : EM X b mb) : EM X (.Compare a [.LtE] [b] pos) (mBin leD ma mb) := em_cmp op_leU prim_le pm_le (nomark b) ha hb
theorem em_gt (ha : EM X a ma) (hb : EM X b mb) : EM X (.Compare a [.Gt] [b] pos) (mBin gtD ma mb) := em_cmp op_gtU prim_gt pm_gt (nomark b) ha hb
theorem em_ge (ha : EM X a ma) (hb : EM X b mb) : EM X (.Compare a [.GtE] [b] pos) (mBin geD ma mb) := em_cmp op_geU prim_ge pm_ge (nomark b) ha hb
theorem em_is (ha : EM X a ma) (hb : EM X b mb) : EM X (.Compare a [.Is] [b] pos) (mBin isD ma mb) := em_cmp op_isU prim_is pm_is (nomark b) ha hb
theorem em_isn (ha : EM X a ma) (hb : EM X b mb) : EM X (.Compare a [.IsNot] [b] pos) (mBin isnD ma mb) := em_cmp op_isnU prim_isn pm_isn (nomark b) ha hb
theorem em_in (hm : behindInMarks .In b = false) (ha : EM X a ma) (hb : EM X b mb) : EM X (.Compare a [.In] [b] pos) (mBin inD ma mb) := em_cmp op_inU prim_in pm_in hm ha hb
theorem em_nin (hm : behindInMarks .NotIn b = false) (ha : EM X a ma) (hb : EM X b mb) : EM X (.Compare a [.NotIn] [b] pos) (mBin ninD ma mb) := em_cmp op_ninU prim_nin pm_nin hm ha hb
theorem tm_eq (hu : X.A.units + 64 < cLine) (ha : EM X a ma) (hb : EM X b mb) : TM X (.Compare a [.Eq] [b] pos) (mTest (mBin eqD ma mb)) := tm_cmp (op_eqD hu) prim_eq pm_eq (nomark b) ha hb
theorem tm_ne (hu : X.A.units + 64 < cLine) (ha : EM X a ma) (hb : EM X b mb) : TM X (.Compare a [.NotEq] [b] pos) (mTest (mBin neD ma mb)) := tm_cmp (op_neD hu) prim_ne pm_ne (nomark b) ha hb
theorem tm_lt (ha : EM X a ma) (hb : EM X b mb) : TM X (.Compare a [.Lt] [b] pos) (mTest (mBin ltD ma mb)) := tm_cmp op_ltU prim_lt pm_lt (nomark b) ha hb
theorem tm_le (ha : EM X a ma) (hb : EM X b mb) : TM X (.Compare a [.LtE] [b] pos) (mTest (mBin leD ma mb)) := tm_cmp op_leU prim_le pm_le (nomark b) ha hb
theorem tm_gt (ha : EM X a ma) (hb : EM X b mb) : TM X (.Compare a [.Gt] [b] pos) (mTest (mBin gtD ma mb)) := tm_cmp op_gtU prim_gt pm_gt (nomark b) ha hb
theorem tm_ge (ha : EM X a ma) (hb : EM X b mb) : TM X (.Compare a [.GtE] [b] pos) (mTest (mBin geD ma mb)) := tm_cmp op_geU prim_ge pm_ge (nomark b) ha hb
theorem tm_is (ha : EM X a ma) (hb : EM X b mb) : TM X (.Compare a [.Is] [b] pos) (mTest (mBin isD ma mb)) := tm_cmp op_isU prim_is pm_is (nomark b) ha hb
theorem tm_isn (ha : EM X a ma) (hb : EM X b mb) : TM X (.Compare a [.IsNot] [b] pos) (mTest (mBin isnD ma mb)) := tm_cmp op_isnU prim_isn pm_isn (nomark b) ha hb
theorem tm_in (hm : behindInMarks .In b = false) (ha : EM X a ma) (hb : EM X b mb) : TM X (.Compare a [.In] [b] pos) (mTest (mBin inD ma mb)) := tm_cmp op_inU prim_in pm_in hm ha hb
theorem tm_nin (hm : behindInMarks .NotIn b = false) (ha : EM X a ma) (hb : EM X b mb) : TM X (.Compare a [.NotIn] [b] pos) (mTest (mBin ninD ma mb)) := tm_cmp op_ninU prim_nin pm_nin hm ha hb
end
end DL

namespace DL
open PySem L2

/-! ### and, or, not, if-else -/
def mAnd (m m' : M Bool) : M Bool := fun ρ k => m ρ fun b ρ1 => if b = true then m' ρ1 k else k false ρ1
def mOr (m m' : M Bool) : M Bool := fun ρ k => m ρ fun b ρ1 => if b = true then k true ρ1 else m' ρ1 k
def mNot (m : M Bool) : M Bool := fun ρ k => m ρ fun b ρ1 => k (!b) ρ1
def mIf {α : Type} (m : M Bool) (x y : M α) : M α := fun ρ k => m ρ fun b ρ1 => if b = true then x ρ1 k else y ρ1 k
def mAndV (m m' : M D) : M D := fun ρ k => m ρ fun d ρ1 => match d with
  | .bool true => m' ρ1 k
  | .bool false => k (.bool false) ρ1
  | _ => False
def mOrV (m m' : M D) : M D := fun ρ k => m ρ fun d ρ1 => match d with
  | .bool true => k (.bool true) ρ1
  | .bool false => m' ρ1 k
  | _ => False
def mNotV (m : M Bool) : M D := fun ρ k => m ρ fun b ρ1 => k (.bool (!b)) ρ1
section
variable {m m' : M Bool} {x y : M D}
theorem mono_and (a : Mono m) (b : Mono m') : Mono (mAnd m m') := fun ρ k k' h q => a ρ _ _ (fun c ρ1 q1 => by
  cases c with
  | true => rw [if_pos rfl] at q1 ⊢; exact b ρ1 _ _ h q1
  | false => rw [if_neg Bool.false_ne_true] at q1 ⊢; exact h _ _ q1) q
theorem mono_or (a : Mono m) (b : Mono m') : Mono (mOr m m') := fun ρ k k' h q => a ρ _ _ (fun c ρ1 q1 => by
  cases c with
  | false => rw [if_neg Bool.false_ne_true] at q1 ⊢; exact b ρ1 _ _ h q1
  | true => rw [if_pos rfl] at q1 ⊢; exact h _ _ q1) q
theorem mono_not (a : Mono m) : Mono (mNot m) := fun ρ k k' h q => a ρ _ _ (fun c ρ1 q1 => h _ _ q1) q
theorem mono_if {α : Type} {x y : M α} (a : Mono m) (b : Mono x) (c : Mono y) : Mono (mIf m x y) := fun ρ k k' h q => a ρ _ _ (fun e ρ1 q1 => by
  cases e with
  | true => rw [if_pos rfl] at q1 ⊢; exact b ρ1 _ _ h q1
  | false => rw [if_neg Bool.false_ne_true] at q1 ⊢; exact c ρ1 _ _ h q1) q
theorem mono_andV (a : Mono x) (b : Mono y) : Mono (mAndV x y) := fun ρ k k' h q => a ρ _ _ (fun d ρ1 q1 => by
  cases d <;> first | exact q1 | skip
  rename_i c
  cases c <;> first | exact b ρ1 _ _ h q1 | exact h _ _ q1) q
theorem mono_orV (a : Mono x) (b : Mono y) : Mono (mOrV x y) := fun ρ k k' h q => a ρ _ _ (fun d ρ1 q1 => by
  cases d <;> first | exact q1 | skip
  rename_i c
  cases c <;> first | exact b ρ1 _ _ h q1 | exact h _ _ q1) q
theorem mono_notV (a : Mono m) : Mono (mNotV m) := fun ρ k k' h q => a ρ _ _ (fun c ρ1 q1 => h _ _ q1) q
variable {X : Cx} {a b : Expr} {rest : List Expr} {pos : Pos}
theorem wm_and1 (h : TM X a m) : WM X (.BoolOp .And [a] pos) m := ⟨h.mono, pw_and1 h.run⟩
theorem wm_or1 (h : TM X a m) : WM X (.BoolOp .Or [a] pos) m := ⟨h.mono, pw_or1 h.run⟩
theorem wm_and (h : TM X a m) (g : WM X (.BoolOp .And (b :: rest) pos) m') : WM X (.BoolOp .And (a :: b :: rest) pos) (mAnd m m') := by
  refine ⟨mono_and h.mono g.mono, pw_weak (pw_and h.run g.run) ?_⟩
  rintro σ H Q ⟨G, loc, ρ, R, q⟩
  refine ⟨G, loc, ρ, R, h.mono ρ _ _ (fun c ρ1 q1 H1 R1 g1 => ?_) q⟩
  cases c with
  | true =>
    rw [if_pos rfl] at q1 ⊢
    exact ⟨G, loc, ρ1, R1, g.mono ρ1 _ _ (fun d ρ2 q2 H2 R2 g2 => q2 H2 R2 (g1.trans g2)) q1⟩
  | false =>
    rw [if_neg Bool.false_ne_true] at q1 ⊢
    exact q1 H1 R1 g1
theorem wm_or (h : TM X a m) (g : WM X (.BoolOp .Or (b :: rest) pos) m') : WM X (.BoolOp .Or (a :: b :: rest) pos) (mOr m m') := by
  refine ⟨mono_or h.mono g.mono, pw_weak (pw_or h.run g.run) ?_⟩
  rintro σ H Q ⟨G, loc, ρ, R, q⟩
  refine ⟨G, loc, ρ, R, h.mono ρ _ _ (fun c ρ1 q1 H1 R1 g1 => ?_) q⟩
  cases c with
  | false =>
    rw [if_neg Bool.false_ne_true] at q1 ⊢
    exact ⟨G, loc, ρ1, R1, g.mono ρ1 _ _ (fun d ρ2 q2 H2 R2 g2 => q2 H2 R2 (g1.trans g2)) q1⟩
  | true =>
    rw [if_pos rfl] at q1 ⊢
    exact q1 H1 R1 g1
theorem tm_w {e : Expr} (h : WM X e m) : TM X e m := ⟨h.mono, h.run.pt⟩
theorem tm_not (h : TM X a m) : TM X (.UnaryOp .Not a pos) (mNot m) := by
  refine ⟨mono_not h.mono, pt_weak (pt_not h.run) ?_⟩
  rintro σ H Q ⟨G, loc, ρ, R, q⟩
  exact ⟨G, loc, ρ, R, h.mono ρ _ _ (fun c ρ1 q1 H1 R1 g1 => q1 H1 R1 g1) q⟩
theorem em_if {c : Expr} (h : TM X c m) (ha : EM X a x) (hb : EM X b y) : EM X (.IfExp c a b pos) (mIf m x y) := by
  refine ⟨mono_if h.mono ha.mono hb.mono, pe_weak (pe_ifExp h.run ha.run hb.run) ?_⟩
  rintro σ H Q ⟨G, loc, ρ, R, q⟩
  refine ⟨G, loc, ρ, R, h.mono ρ _ _ (fun c ρ1 q1 H1 R1 g1 => ?_) q⟩
  cases c with
  | true =>
    rw [if_pos rfl] at q1 ⊢
    exact ⟨G, loc, ρ1, R1, ha.mono ρ1 _ _ (fun d ρ2 q2 v H2 R2 g2 d2 => q2 v H2 R2 (g1.trans g2) d2) q1⟩
  | false =>
    rw [if_neg Bool.false_ne_true] at q1 ⊢
    exact ⟨G, loc, ρ1, R1, hb.mono ρ1 _ _ (fun d ρ2 q2 v H2 R2 g2 d2 => q2 v H2 R2 (g1.trans g2) d2) q1⟩
theorem em_one {op} (h : EM X a x) : EM X (.BoolOp op [a] pos) x := ⟨h.mono, pe_one h.run⟩
theorem em_and (ha : EM X a x) (hb : EM X (.BoolOp .And (b :: rest) pos) y) : EM X (.BoolOp .And (a :: b :: rest) pos) (mAndV x y) := by
  refine ⟨mono_andV ha.mono hb.mono, pe_weak (pe_and ha.run hb.run) ?_⟩
  rintro σ H Q ⟨G, loc, ρ, R, q⟩
  refine ⟨G, loc, ρ, R, ha.mono ρ _ _ (fun d ρ1 q1 v H1 R1 g1 d1 => ?_) q⟩
  cases d <;> first | exact q1.elim | skip
  rename_i c
  cases d1
  refine ⟨c, rfl, ?_⟩
  cases c with
  | true =>
    rw [if_pos rfl]
    exact ⟨G, loc, ρ1, R1, hb.mono ρ1 _ _ (fun d ρ2 q2 v H2 R2 g2 d2 => q2 v H2 R2 (g1.trans g2) d2) q1⟩
  | false =>
    rw [if_neg Bool.false_ne_true]
    exact q1 _ H1 R1 g1 (.bl _)
theorem em_or (ha : EM X a x) (hb : EM X (.BoolOp .Or (b :: rest) pos) y) : EM X (.BoolOp .Or (a :: b :: rest) pos) (mOrV x y) := by
  refine ⟨mono_orV ha.mono hb.mono, pe_weak (pe_or ha.run hb.run) ?_⟩
  rintro σ H Q ⟨G, loc, ρ, R, q⟩
  refine ⟨G, loc, ρ, R, ha.mono ρ _ _ (fun d ρ1 q1 v H1 R1 g1 d1 => ?_) q⟩
  cases d <;> first | exact q1.elim | skip
  rename_i c
  cases d1
  refine ⟨c, rfl, ?_⟩
  cases c with
  | false =>
    rw [if_neg Bool.false_ne_true]
    exact ⟨G, loc, ρ1, R1, hb.mono ρ1 _ _ (fun d ρ2 q2 v H2 R2 g2 d2 => q2 v H2 R2 (g1.trans g2) d2) q1⟩
  | true =>
    rw [if_pos rfl]
    exact q1 _ H1 R1 g1 (.bl _)
/-- not e as a value, e a bool -/
theorem em_not (h : EM X a x) : EM X (.UnaryOp .Not a pos) (mNotV (mTest x)) := by
  refine ⟨mono_notV (mono_test h.mono), pe_weak (pe_not h.run) ?_⟩
  rintro σ H Q ⟨G, loc, ρ, R, q⟩
  refine ⟨G, loc, ρ, R, h.mono ρ _ _ (fun d ρ1 q1 v H1 R1 g1 d1 => ?_) q⟩
  cases d <;> first | exact (show False from q1).elim | skip
  cases d1
  exact ⟨_, rfl, q1 _ H1 R1 g1 (.bl _)⟩
/-- -n -/
def mNeg (m : M D) : M D := fun ρ k => m ρ fun d ρ1 => match d with
  | .int i => k (.int (-i)) ρ1
  | _ => False
theorem em_neg (h : EM X a x) : EM X (.UnaryOp .USub a pos) (mNeg x) := by
  refine ⟨fun ρ k k' w q => h.mono ρ _ _ (fun d ρ1 q1 => by cases d <;> first | exact q1.elim | exact w _ _ q1) q, pe_weak (pe_un un_neg h.run) ?_⟩
  rintro σ H Q ⟨G, loc, ρ, R, q⟩
  refine ⟨G, loc, ρ, R, h.mono ρ _ _ (fun d ρ1 q1 v H1 R1 g1 d1 => ?_) q⟩
  cases d <;> first | exact (show False from q1).elim | skip
  cases d1
  exact ⟨_, rfl, q1 _ H1 R1 g1 (.int _)⟩
end

/-! ### argument lists, displays -/
def mNil : M (List D) := mPure []
def mCons (m : M D) (ms : M (List D)) : M (List D) := fun ρ k => m ρ fun d ρ1 => ms ρ1 fun ds ρ2 => k (d :: ds) ρ2
def mTup (m : M (List D)) : M D := fun ρ k => m ρ fun ds ρ1 => ds.length ≤ sizeLine ∧ k (.tuple ds) ρ1
def mLen (m : M (List D)) : M (List D) := fun ρ k => m ρ fun ds ρ1 => ds.length ≤ sizeLine ∧ k ds ρ1
def mList (m : M (List D)) : M D := fun ρ k => m ρ fun ds ρ1 => k (.list ds) ρ1
section
variable {X : Cx} {e : Expr} {es : List Expr} {m : M D} {ms : M (List D)} {pos : Pos}
theorem mono_cons (a : Mono m) (b : Mono ms) : Mono (mCons m ms) := fun ρ k k' h q => a ρ _ _ (fun d ρ1 q1 => b ρ1 _ _ (fun ds ρ2 q2 => h _ _ q2) q1) q
theorem am_nil : AM X [] mNil := by
  refine ⟨mono_pure, pa_weak pa_nil ?_⟩
  rintro σ H Q ⟨G, loc, ρ, R, q⟩
  exact q [] H R Grow.refl .nil
theorem am_cons (h : EM X e m) (g : AM X es ms) (hs : starEach (e :: es) X.env = (false, eval e X.env) :: starEach es X.env := by rfl) : AM X (e :: es) (mCons m ms) := by
  refine ⟨mono_cons h.mono g.mono, pa_weak (pa_cons h.run g.run hs) ?_⟩
  rintro σ H Q ⟨G, loc, ρ, R, q⟩
  refine ⟨G, loc, ρ, R, h.mono ρ _ _ (fun d ρ1 q1 v H1 R1 g1 d1 => ?_) q⟩
  exact ⟨G, loc, ρ1, R1, g.mono ρ1 _ _ (fun ds ρ2 q2 vs H2 R2 g2 d2 => q2 (v :: vs) H2 R2 (g1.trans g2) (.cons (d1.g g2) d2)) q1⟩
theorem em_tup {x1} (h : AM X es ms) : EM X (.Tuple es x1 pos) (mTup ms) := by
  refine ⟨fun ρ k k' w q => h.mono ρ _ _ (fun ds ρ1 q1 => ⟨q1.1, w _ _ q1.2⟩) q, pe_weak (pe_tup h.run) ?_⟩
  rintro σ H Q ⟨G, loc, ρ, R, q⟩
  refine ⟨G, loc, ρ, R, h.mono ρ _ _ (fun ds ρ1 q1 vs H1 R1 g1 d1 => ⟨by rw [d1.length]; exact q1.1, fun p hp => ?_⟩) q⟩
  exact q1.2 _ _ (R1.more (upd_more hp)) (g1.trans (more_grow (upd_more hp))) (.tup (R1.notFb hp) upd_same (d1.g (more_grow (upd_more hp))))
theorem RawR.plus {K : PySem.W.Frag} {G : Fr} {ρ : List Slot} {loc : Nat → Addr} {σ : L2.St} {H H' : Hp} {p : Addr} (R : RawR K G ρ loc σ H) (m : ∀ b o, H b = some o → H' b = some o) (hp : H p = none) (g : Grow (Fb G.fb ρ loc) (Fb (G.plus p).fb ρ loc) H H') : RawR K (G.plus p) ρ loc σ H' :=
  R.step (fun _ _ _ e => ⟨e, rfl⟩) (fun j b ds e => .inl ⟨b, ds, e, rfl⟩) g (fun a u _ e => m a u e) fun a z h n => ⟨h, fun y => by
    rcases y with y | y
    · exact n y
    · obtain ⟨⟨o, q⟩, _⟩ := R.here z
      rw [y, hp] at q; cases q⟩
/-- a new list is at hand -/
theorem new_list {K : PySem.W.Frag} {G : Fr} {ρ : List Slot} {loc : Nat → Addr} {σ : L2.St} {H : Hp} {xs : List V} {ds : List D} (R : Rep K G ρ loc σ H) (d : DxAll K H (Fb G.fb ρ loc) xs ds) {p : Addr} (hp : H p = none) :
    G.H0 p = none ∧ ¬ G.fb p ∧ (upd H p (.lst xs)) p = some (.lst xs) ∧ Rep K (G.plus p) ρ loc σ (upd H p (.lst xs)) ∧ Grow (Fb G.fb ρ loc) (Fb (G.plus p).fb ρ loc) H (upd H p (.lst xs)) ∧ DxAll K (upd H p (.lst xs)) (Fb (G.plus p).fb ρ loc) xs ds := by
  have g : Grow (Fb G.fb ρ loc) (Fb (G.plus p).fb ρ loc) H (upd H p (.lst xs)) := fun b o e n => ⟨upd_more hp b o e, fun z => by
    rcases z with (z | z) | z
    · exact n (.inl z)
    · rw [z, hp] at e; cases e
    · exact n (.inr z)⟩
  refine ⟨R.h0 hp, fun z => R.notFb hp (.inl z), upd_same, ⟨R.len, fun i d e => ?_, fun i b ds e => ?_, R.apart, R.brw, fun i ds e => ?_, fun b o e n => upd_more hp b o (R.ext b o e n), fun b e => ?_, fun b e => .inl (R.bwS b e), R.raw.plus (upd_more hp) hp g⟩, g, d.g g⟩
  · obtain ⟨v, h1, h2⟩ := R.dat i d e
    exact ⟨v, h1, h2.g g⟩
  · obtain ⟨h1, vs, h2, h3⟩ := R.own i b ds e
    exact ⟨h1, vs, upd_more hp _ _ h2, h3.g g⟩
  · obtain ⟨h1, h2⟩ := R.new i ds e
    refine ⟨h1, fun z => ?_⟩
    rcases z with z | z
    · exact h2 z
    · obtain ⟨_, vs, q, _⟩ := R.own i false ds e
      rw [z, hp] at q; cases q
  · rcases e with e | e
    · obtain ⟨o, q⟩ := R.fbS b e
      exact ⟨o, upd_more hp _ _ q⟩
    · rw [e]; exact ⟨_, upd_same⟩
/-- .. and is left to itself -/
theorem Rep.unplus {K : PySem.W.Frag} {G : Fr} {ρ : List Slot} {loc : Nat → Addr} {σ : L2.St} {H : Hp} {p : Addr} (hb : ∀ b, G.bw b → G.fb b) (n : ¬ G.fb p) (R : Rep K (G.plus p) ρ loc σ H) :
    Rep K G ρ loc σ H ∧ ¬ Fb G.fb ρ loc p := by
  have sub : ∀ b, Fb G.fb ρ loc b → Fb (G.plus p).fb ρ loc b := fun b z => by
    rcases z with z | z
    · exact .inl (.inl z)
    · exact .inr z
  refine ⟨⟨R.len, fun i d e => ?_, fun i b ds e => ?_, R.apart, R.brw, fun i ds e => ?_, R.ext, fun b e => R.fbS b (.inl e), hb, R.raw.step (fun _ _ _ e => ⟨e, rfl⟩) (fun j b ds e => .inl ⟨b, ds, e, rfl⟩) (fun b o e n => ⟨e, fun z => n (sub b z)⟩) (fun _ _ _ e => e) fun _ _ a b => ⟨a, fun z => b (.inl z)⟩⟩, ?_⟩
  · obtain ⟨v, h1, h2⟩ := R.dat i d e
    exact ⟨v, h1, h2.weak sub⟩
  · obtain ⟨h1, vs, h2, h3⟩ := R.own i b ds e
    exact ⟨h1, vs, h2, h3.weak sub⟩
  · obtain ⟨h1, h2⟩ := R.new i ds e
    exact ⟨h1, fun z => h2 (.inl z)⟩
  · rintro (z | z | ⟨i, b, ds, e, z⟩)
    · exact n z
    · rcases (R.raw.here z).2 with z | z
      · exact z.2 (.inr rfl)
      · exact n (hb _ z)
    · cases b with
      | false => exact (R.new i ds e).2 (.inr z)
      | true => exact n (z ▸ hb _ (R.brw i ds e).2)
theorem Fb.plus_sub {G : Fr} {ρ : List Slot} {loc : Nat → Addr} {p : Addr} : ∀ b, Fb G.fb ρ loc b → Fb (G.plus p).fb ρ loc b := fun b z => by
  rcases z with z | z
  · exact .inl (.inl z)
  · exact .inr z
theorem Grow.weak {F F' F2 : AS} {H H' : Hp} (g : Grow F F' H H') (s : ∀ b, F2 b → F' b) : Grow F F2 H H' := fun b o e n => let ⟨a, c⟩ := g b o e n; ⟨a, fun z => c (s b z)⟩
/-- a new list as data -/
theorem em_ofN {ms : M (List D)} (h : NM X e ms) : EM X e (mList ms) := by
  refine ⟨fun ρ k k' w q => h.mono ρ _ _ (fun ds ρ1 q1 => w _ _ q1) q, pe_weak h.run ?_⟩
  rintro σ H Q ⟨G, loc, ρ, R, q⟩
  refine ⟨G, loc, ρ, R, h.mono ρ _ _ (fun ds ρ1 q1 p vs H1 h0 n e1 R1 g1 d1 => ?_) q⟩
  obtain ⟨R2, n2⟩ := R1.unplus R.bwS n
  exact q1 _ H1 R2 (g1.weak Fb.plus_sub) (.lst n2 e1 (d1.weak Fb.plus_sub))
theorem nm_lst (h : AM X es ms) : NM X (.List es pos) (mLen ms) := by
  refine ⟨fun ρ k k' w q => h.mono ρ _ _ (fun ds ρ1 q1 => ⟨q1.1, w _ _ q1.2⟩) q, pe_weak (pe_lst h.run) ?_⟩
  rintro σ H Q ⟨G, loc, ρ, R, q⟩
  refine ⟨G, loc, ρ, R, h.mono ρ _ _ (fun ds ρ1 q1 vs H1 R1 g1 d1 => ⟨by rw [d1.length]; exact q1.1, fun p hp => ?_⟩) q⟩
  obtain ⟨a1, a2, a3, a4, a5, a6⟩ := new_list R1 d1 hp
  exact q1.2 p vs _ a1 a2 a3 a4 (g1.trans a5) a6
end

/-! ### subscripts, slices -/
def ixD : P2
  | .list xs, .int i, k => ∃ d, atI xs i = some d ∧ k d
  | .tuple xs, .int i, k => ∃ d, atI xs i = some d ∧ k d
  | .str z, .int i, k => z.length ≤ sizeLine ∧ ∃ c, atI z.cps.toList i = some c ∧ k (.str ⟨#[c]⟩)
  | _, _, _ => False
section
variable {K : PySem.W.Frag}
theorem dx_atI {F : AS} {H : Hp} {vs : List V} {ds : List D} (h : DxAll K H F vs ds) {i : Int} {d : D} (e : atI ds i = some d) : ∃ v, atI vs i = some v ∧ Dx K H F v d := by
  unfold atI at e ⊢
  rw [h.length]
  cases q : ixN ds.length i with
  | none => rw [q] at e; cases e
  | some j =>
    rw [q] at e
    obtain ⟨v, h1, h2⟩ := h.get (i := j) e
    exact ⟨v, h1, h2⟩
theorem pm_ix (a b : D) : Pm1 (ixD a b) := fun k k' h q => by
  cases a <;> cases b <;> first
    | exact q.elim
    | (obtain ⟨d, e, q⟩ := q; exact ⟨d, e, h _ q⟩)
    | (obtain ⟨z, d, e, q⟩ := q; exact ⟨z, d, e, h _ q⟩)
theorem prim_ix : Prim2 K (rIx K) ixD := by
  intro F H x y a b Q hF hx hy h
  cases a <;> cases b <;> first | exact (show False from h).elim | skip
  · cases hx; cases hy
    obtain ⟨z, c, e, q⟩ := h
    exact .inr (.inr ⟨_, _, c, rfl, rfl, z, e, q.now (.str _)⟩)
  · cases hy
    obtain ⟨d, e, q⟩ := h
    obtain ⟨p, xs, rfl, e1, n1, d1⟩ := hx.sql
    obtain ⟨v, e2, d2⟩ := dx_atI d1 e
    exact .inl ⟨p, xs, _, v, rfl, rfl, .inl (.inl e1), e2, q.now d2⟩
  · cases hy
    obtain ⟨d, e, q⟩ := h
    obtain ⟨p, xs, rfl, e1, d1⟩ := hx.sqt
    obtain ⟨v, e2, d2⟩ := dx_atI d1 e
    exact .inr (.inl ⟨p, xs, _, v, rfl, rfl, e1, e2, q.now d2⟩)
end
def cutL {α : Type} (xs : List α) (lo hi : Option Int) : List α := (xs.drop (HT.sIx xs.length 0 lo)).take (HT.sIx xs.length xs.length hi - HT.sIx xs.length 0 lo)
/-- the part of a slice -/
def TOof (K : PySem.W.Frag) (m : M (Option Int)) : TO := fun σ H Q => ∃ G loc ρ, Rep K G ρ loc σ H ∧ m ρ fun o ρ' =>
  ∀ H', Rep K G ρ' loc σ H' → Grow (Fb G.fb ρ loc) (Fb G.fb ρ' loc) H H' → Q o H'
structure OM (X : Cx) (e : Option Expr) (m : M (Option Int)) : Prop where
  mono : Mono m
  run : PO X e (TOof X.K m)
def mSome (m : M D) : M (Option Int) := fun ρ k => m ρ fun d ρ1 => match d with
  | .int i => k (some i) ρ1
  | _ => False
def slD (d : D) (lo hi : Option Int) (k : D → Prop) : Prop := match d with
  | .list xs => k (.list (cutL xs lo hi))
  | .tuple xs => k (.tuple (cutL xs lo hi))
  | .str z => z.length ≤ sizeLine ∧ k (.str (cutS z lo hi))
  | _ => False
def mSl (m : M D) (l h : M (Option Int)) : M D := fun ρ k => m ρ fun d ρ1 => l ρ1 fun lo ρ2 => h ρ2 fun hi ρ3 => slD d lo hi fun r => k r ρ3
section
variable {X : Cx} {e : Expr} {m : M D} {lo hi : Option Expr} {l h : M (Option Int)} {pos p2 : Pos}
theorem em_ix {b : Expr} {mb : M D} (ha : EM X e m) (hb : EM X b mb) (hs : PlainIx b) : EM X (.Subscript e b pos) (mBin ixD m mb) :=
  ⟨mono_bin pm_ix ha.mono hb.mono, pe_weak (pe_ix ix_seq ha.run hb.run hs) fun _ _ _ q => two_vals prim_ix pm_ix ha.mono hb.mono q⟩
theorem om_none : OM X none (mPure none) := by
  refine ⟨mono_pure, ⟨fun pins s σ H Q I q => po_none.run pins s σ H Q I ?_⟩⟩
  obtain ⟨G, loc, ρ, R, q⟩ := q
  exact q H R Grow.refl
theorem om_some (ha : EM X e m) : OM X (some e) (mSome m) := by
  refine ⟨fun ρ k k' w q => ha.mono ρ _ _ (fun d ρ1 q1 => by cases d <;> first | exact q1.elim | exact w _ _ q1) q, ⟨fun pins s σ H Q I q => (po_some ha.run).run pins s σ H Q I ?_⟩⟩
  obtain ⟨G, loc, ρ, R, q⟩ := q
  refine ⟨G, loc, ρ, R, ha.mono ρ _ _ (fun d ρ1 q1 v H1 R1 g1 d1 => ?_) q⟩
  cases d <;> first | exact (show False from q1).elim | skip
  cases d1
  exact ⟨_, rfl, q1 H1 R1 g1⟩
theorem cut_whole {α : Type} {xs : List α} {lo hi : Option Int} (h : HT.sIx xs.length 0 lo = 0 ∧ HT.sIx xs.length xs.length hi = xs.length) : cutL xs lo hi = xs := by
  unfold cutL
  rw [h.1, h.2]
  simp
theorem pm_sl (d : D) (lo hi : Option Int) : Pm1 (slD d lo hi) := fun k k' w q => by
  cases d <;> first | exact q.elim | exact w _ q | exact ⟨q.1, w _ q.2⟩
theorem mono_sl (a : Mono m) (b : Mono l) (c : Mono h) : Mono (mSl m l h) := fun ρ k k' w q => a ρ _ _ (fun d ρ1 q1 => b ρ1 _ _ (fun lo ρ2 q2 => c ρ2 _ _ (fun hi ρ3 q3 => pm_sl _ _ _ _ _ (fun r q4 => w _ _ q4) q3) q2) q1) q
theorem dx_cut {K : PySem.W.Frag} {F : AS} {H : Hp} {vs : List V} {ds : List D} (h : DxAll K H F vs ds) (lo hi : Option Int) : DxAll K H F (cutV vs lo hi) (cutL ds lo hi) := by
  unfold cutV cutL
  rw [h.length]
  exact h.cut _ _
theorem em_sl (ha : EM X e m) (hl : OM X lo l) (hh : OM X hi h) : EM X (.Subscript e (.Slice lo hi none p2) pos) (mSl m l h) := by
  refine ⟨mono_sl ha.mono hl.mono hh.mono, pe_weak (pe_slice (sl_list.or (sl_tupA.or sl_str)) ha.run hl.run hh.run) ?_⟩
  rintro σ H Q ⟨G, loc, ρ, R, q⟩
  refine ⟨G, loc, ρ, R, ha.mono ρ _ _ (fun d ρ1 q1 v H1 R1 g1 d1 => ?_) q⟩
  refine ⟨G, loc, ρ1, R1, hl.mono ρ1 _ _ (fun lo ρ2 q2 H2 R2 g2 => ?_) q1⟩
  refine ⟨G, loc, ρ2, R2, hh.mono ρ2 _ _ (fun hi ρ3 q3 H3 R3 g3 => ?_) q2⟩
  have d3 := d1.g (g2.trans g3)
  have q4 : slD d lo hi (Kd X.K (Fb G.fb ρ3 loc) H3 Q) := pm_sl _ _ _ _ _ (fun r q4 w H4 m4 d4 => q4 w H4 (R3.more m4) (((g1.trans g2).trans g3).trans (more_grow m4)) d4) q3
  cases d <;> first | exact (show False from q4).elim | skip
  · cases d3
    exact .inr (.inr ⟨_, rfl, q4.1, q4.2.now (.str _)⟩)
  · obtain ⟨p, xs, rfl, e1, n1, dd⟩ := d3.sql
    refine .inl ⟨p, xs, rfl, .inl (.inl e1), ?_⟩
    exact new_lst R3.fbE (dx_cut dd lo hi) q4
  · obtain ⟨p, xs, rfl, e1, dd⟩ := d3.sqt
    refine .inr (.inl ⟨p, xs, rfl, e1, fun hw => ?_, fun _ => new_tup R3.fbE (dx_cut dd lo hi) q4⟩)
    rw [dd.length] at hw
    have q5 : Kd X.K (Fb G.fb ρ3 loc) H3 Q (.tuple (cutL _ lo hi)) := q4
    rw [cut_whole hw] at q5
    exact Kd.now (d := .tuple _) q5 d3
end

/-! ### built-ins by name -/
abbrev PC1 := List D → (D → Prop) → Prop
def PrimC (K : PySem.W.Frag) (r : List V → Hp → VK → Prop) (p : PC1) : Prop := ∀ (F : AS) (H : Hp) (vs : List V) (ds : List D) (Q : VK), (∀ c, F c → ∃ o, H c = some o) → DxAll K H F vs ds → p ds (Kd K F H Q) → r vs H Q
def mCall (p : PC1) (m : M (List D)) : M D := fun ρ k => m ρ fun ds ρ1 => p ds fun d => k d ρ1
theorem CallR.or {X : Cx} {f : Value} {r r' : List V → Hp → VK → Prop} (h : CallR X f r) (h' : CallR X f r') : CallR X f (fun xs H Q => r xs H Q ∨ r' xs H Q) := by
  intro pins s σ H xs us Q I rv q
  rcases q with q | q
  · exact h pins s σ H xs us Q I rv q
  · exact h' pins s σ H xs us Q I rv q
theorem mono_call {p : PC1} {m : M (List D)} (mp : ∀ ds, Pm1 (p ds)) (h : Mono m) : Mono (mCall p m) := fun ρ k k' w q => h ρ _ _ (fun ds ρ1 q1 => mp ds _ _ (fun d q2 => w _ _ q2) q1) q
theorem call_vals {K : PySem.W.Frag} {m : M (List D)} {r : List V → Hp → VK → Prop} {p : PC1} (hp : PrimC K r p) (mp : ∀ ds, Pm1 (p ds)) (mm : Mono m) {σ : L2.St} {H : Hp} {Q : VK} (h : TEof K (mCall p m) σ H Q) :
    tCB r (TAof K m) σ H Q := by
  obtain ⟨G, loc, ρ, R, q⟩ := h
  refine ⟨G, loc, ρ, R, mm ρ _ _ (fun ds ρ1 q1 vs H1 R1 g1 d1 => ?_) q⟩
  exact hp (Fb G.fb ρ1 loc) H1 vs ds Q R1.fbE d1 (mp ds _ _ (fun d q2 w H2 m2 d2 => q2 w H2 (R1.more m2) (g1.trans (more_grow m2)) d2) q1)
section
variable {X : Cx} {x : Str} {p pos : Pos} {e : Expr} {es : List Expr} {m : M (List D)} {id T : String} {r : List V → Hp → VK → Prop} {q : PC1}
theorem em_callB (hc : CallR X (.builtin id) r) (hp : PrimC X.K r q) (mp : ∀ ds, Pm1 (q ds)) (hg : Gl X x) (hm : X.mg x = none) (hv : bootBuiltins x = some (.builtin id)) (ha : AM X (e :: es) m) (hn : x ≠ "__name__" := by decide) (hdb : (x == ("__debug__" : Str)) = false := by decide)
    (he : starEach (e :: es) X.env = (false, eval e X.env) :: starEach es X.env := by rfl) (hpl : (backTo pos (starEach es X.env)).any (·.1) = false := by rfl) : EM X (.Call (.Name x p) (e :: es) [] pos) (mCall q m) :=
  ⟨mono_call mp ha.mono, pe_weak (pe_callB hc hg hm hv ha.run hn hdb he hpl) fun _ _ _ h => call_vals hp mp ha.mono h⟩
theorem em_callTy (hc : CallR X (.type T) r) (hp : PrimC X.K r q) (mp : ∀ ds, Pm1 (q ds)) (hg : Gl X x) (hm : X.mg x = none) (hv : bootBuiltins x = some (.type T)) (ha : AM X (e :: es) m) (hn : x ≠ "__name__" := by decide) (hdb : (x == ("__debug__" : Str)) = false := by decide)
    (he : starEach (e :: es) X.env = (false, eval e X.env) :: starEach es X.env := by rfl) (hpl : (backTo pos (starEach es X.env)).any (·.1) = false := by rfl) : EM X (.Call (.Name x p) (e :: es) [] pos) (mCall q m) :=
  ⟨mono_call mp ha.mono, pe_weak (pe_callTy hc hg hm hv ha.run hn hdb he hpl) fun _ _ _ h => call_vals hp mp ha.mono h⟩
end
def lenD : PC1
  | [.list xs], k => k (.int xs.length)
  | [.tuple xs], k => k (.int xs.length)
  | [.str z], k => z.length ≤ sizeLine ∧ k (.int z.length)
  | _, _ => False
def absD : PC1
  | [.int i], k => k (.int (if i < 0 then -i else i))
  | _, _ => False
def maxD : PC1
  | [.int i, .int j], k => k (.int (if j > i then j else i))
  | _, _ => False
def minD : PC1
  | [.int i, .int j], k => k (.int (if j < i then j else i))
  | _, _ => False
def intD : PC1
  | [.int i], k => k (.int i)
  | [.bool b], k => k (.int (if b then 1 else 0))
  | [.str z], k => ∃ n, PySem.intText? z = some n ∧ z.length ≤ 640 ∧ k (.int n)
  | _, _ => False
def strD : PC1
  | [.int i], k => i.natAbs.log2 < 1920 ∧ k (.str (toString i))
  | _, _ => False
def tupleD : PC1
  | [.list xs], k => k (.tuple xs)
  | [.tuple xs], k => k (.tuple xs)
  | _, _ => False
def boolsOf : List D → Option (List Bool)
  | [] => some []
  | .bool b :: ds => (boolsOf ds).map (b :: ·)
  | _ => none
def allD : PC1
  | [.list xs], k => ∃ bs, boolsOf xs = some bs ∧ k (.bool (bs.all id))
  | _, _ => False
def anyD : PC1
  | [.list xs], k => ∃ bs, boolsOf xs = some bs ∧ k (.bool (bs.any id))
  | _, _ => False
theorem boolsOf_eq : ∀ {xs : List D} {bs : List Bool}, boolsOf xs = some bs → xs = bs.map PyData.bool
  | [], bs, h => by cases h; rfl
  | d :: ds, bs, h => by
    cases d <;> first | (cases h; done) | skip
    rename_i b
    unfold boolsOf at h
    cases q : boolsOf ds with
    | none => rw [q] at h; cases h
    | some cs =>
      rw [q] at h
      cases h
      rw [boolsOf_eq q]; rfl
section
variable {K : PySem.W.Frag}
local macro_rules | `(tactic| walk_at "pmc") => `(tactic| (
  intro ds k k' h q
  match ds with
  | [] => exact q.elim
  | [d] => cases d <;> first | exact q.elim | exact h _ q | exact ⟨q.1, h _ q.2⟩ | (obtain ⟨n, a, q⟩ := q; exact ⟨n, a, h _ q⟩) | (obtain ⟨n, a, b, q⟩ := q; exact ⟨n, a, b, h _ q⟩)
  | d :: e :: r => cases d <;> exact q.elim))
theorem pm_len : ∀ ds, Pm1 (lenD ds) := by walk_at "pmc"
theorem pm_abs : ∀ ds, Pm1 (absD ds) := by walk_at "pmc"
theorem pm_int : ∀ ds, Pm1 (intD ds) := by walk_at "pmc"
theorem pm_str : ∀ ds, Pm1 (strD ds) := by walk_at "pmc"
theorem pm_tuple : ∀ ds, Pm1 (tupleD ds) := by walk_at "pmc"
theorem pm_all : ∀ ds, Pm1 (allD ds) := by walk_at "pmc"
theorem pm_any : ∀ ds, Pm1 (anyD ds) := by walk_at "pmc"
theorem pm_max : ∀ ds, Pm1 (maxD ds) := by
  intro ds k k' h q
  match ds with
  | [] => exact q.elim
  | [d] => cases d <;> exact q.elim
  | [d, e] => cases d <;> cases e <;> first | exact q.elim | exact h _ q
  | d :: e :: f :: r => cases d <;> cases e <;> exact q.elim
theorem pm_min : ∀ ds, Pm1 (minD ds) := by
  intro ds k k' h q
  match ds with
  | [] => exact q.elim
  | [d] => cases d <;> exact q.elim
  | [d, e] => cases d <;> cases e <;> first | exact q.elim | exact h _ q
  | d :: e :: f :: r => cases d <;> cases e <;> exact q.elim
theorem dx_one {F : AS} {H : Hp} {vs : List V} {d : D} (h : DxAll K H F vs [d]) : ∃ v, vs = [v] ∧ Dx K H F v d := by
  cases h with
  | cons a b => cases b; exact ⟨_, rfl, a⟩
theorem dx_two {F : AS} {H : Hp} {vs : List V} {d e : D} (h : DxAll K H F vs [d, e]) : ∃ v u, vs = [v, u] ∧ Dx K H F v d ∧ Dx K H F u e := by
  cases h with
  | cons a b =>
    obtain ⟨u, rfl, c⟩ := dx_one b
    exact ⟨_, u, rfl, a, c⟩
end
end DL

namespace DL
open PySem L2

section
variable {K : PySem.W.Frag}
theorem prim_len : PrimC K (fun xs H Q => ∃ x n, xs = [x] ∧ LenV K x H n ∧ Q (.int n) H) lenD := by
  intro F H vs ds Q hF hd h
  match ds with
  | [] => exact (show False from h).elim
  | d :: e :: r => cases d <;> exact (show False from h).elim
  | [d] =>
    obtain ⟨v, rfl, dx⟩ := dx_one hd
    cases d <;> first | exact (show False from h).elim | skip
    · cases dx; exact ⟨_, _, rfl, ⟨h.1, rfl⟩, h.2.now (.int _)⟩
    · obtain ⟨p, xs, rfl, e, _, da⟩ := dx.sql
      exact ⟨_, _, rfl, .inl ⟨xs, .inl (.inl e), rfl⟩, by rw [da.length]; exact Kd.now (d := .int _) h (.int _)⟩
    · obtain ⟨p, xs, rfl, e, da⟩ := dx.sqt
      exact ⟨_, _, rfl, .inr ⟨xs, e, rfl⟩, by rw [da.length]; exact Kd.now (d := .int _) h (.int _)⟩
theorem prim_abs : PrimC K (fun xs H Q => ∃ i, xs = [V.int i] ∧ Q (.int (if i < 0 then -i else i)) H) absD := by
  intro F H vs ds Q hF hd h
  match ds with
  | [] => exact (show False from h).elim
  | d :: e :: r => cases d <;> exact (show False from h).elim
  | [d] =>
    obtain ⟨v, rfl, dx⟩ := dx_one hd
    cases d <;> first | exact (show False from h).elim | skip
    cases dx; exact ⟨_, rfl, Kd.now (d := .int _) h (.int _)⟩
theorem prim_str : PrimC K (fun xs H Q => ∃ i, xs = [V.int i] ∧ i.natAbs.log2 < 1920 ∧ Q (.str (toString i)) H) strD := by
  intro F H vs ds Q hF hd h
  match ds with
  | [] => exact (show False from h).elim
  | d :: e :: r => cases d <;> exact (show False from h).elim
  | [d] =>
    obtain ⟨v, rfl, dx⟩ := dx_one hd
    cases d <;> first | exact (show False from h).elim | skip
    cases dx; exact ⟨_, rfl, h.1, h.2.now (.str _)⟩
theorem prim_max : PrimC K (fun xs H Q => ∃ i j, xs = [V.int i, .int j] ∧ Q (.int (if j > i then j else i)) H) maxD := by
  intro F H vs ds Q hF hd h
  match ds with
  | [] => exact (show False from h).elim
  | [d] => cases d <;> exact (show False from h).elim
  | d :: e :: f :: r => cases d <;> cases e <;> exact (show False from h).elim
  | [d, e] =>
    obtain ⟨v, u, rfl, dx, dy⟩ := dx_two hd
    cases d <;> cases e <;> first | exact (show False from h).elim | skip
    cases dx; cases dy; exact ⟨_, _, rfl, Kd.now (d := .int _) h (.int _)⟩
theorem prim_min : PrimC K (fun xs H Q => ∃ i j, xs = [V.int i, .int j] ∧ Q (.int (if j < i then j else i)) H) minD := by
  intro F H vs ds Q hF hd h
  match ds with
  | [] => exact (show False from h).elim
  | [d] => cases d <;> exact (show False from h).elim
  | d :: e :: f :: r => cases d <;> cases e <;> exact (show False from h).elim
  | [d, e] =>
    obtain ⟨v, u, rfl, dx, dy⟩ := dx_two hd
    cases d <;> cases e <;> first | exact (show False from h).elim | skip
    cases dx; cases dy; exact ⟨_, _, rfl, Kd.now (d := .int _) h (.int _)⟩
def rIntU : List V → Hp → VK → Prop := fun xs H Q => ((∃ i, xs = [V.int i] ∧ Q (.int i) H) ∨ ∃ k, xs = [V.bl k] ∧ Q (.int (if k then 1 else 0)) H) ∨ ∃ a n, xs = [V.str a] ∧ PySem.intText? a = some n ∧ a.length ≤ 640 ∧ Q (.int n) H
theorem call_intU {X : Cx} : CallR X (.type "int") rIntU := CallR.or call_int1 call_int_str
theorem prim_int : PrimC K rIntU intD := by
  intro F H vs ds Q hF hd h
  match ds with
  | [] => exact (show False from h).elim
  | d :: e :: r => cases d <;> exact (show False from h).elim
  | [d] =>
    obtain ⟨v, rfl, dx⟩ := dx_one hd
    cases d <;> first | exact (show False from h).elim | skip
    · cases dx; exact .inl (.inr ⟨_, rfl, Kd.now (d := .int _) h (.int _)⟩)
    · cases dx; exact .inl (.inl ⟨_, rfl, Kd.now (d := .int _) h (.int _)⟩)
    · cases dx
      obtain ⟨n, a, b, q⟩ := h
      exact .inr ⟨_, n, rfl, a, b, q.now (.int _)⟩
theorem prim_tuple : PrimC K (fun xs H Q => ∃ p ys, xs = [V.ref p] ∧ ((SqL K H p ys ∧ ∀ l, H l = none → Q (.ref l) (upd H l (.tup ys))) ∨ (SqT K H p ys ∧ Q (.ref p) H))) tupleD := by
  intro F H vs ds Q hF hd h
  match ds with
  | [] => exact (show False from h).elim
  | d :: e :: r => cases d <;> exact (show False from h).elim
  | [d] =>
    obtain ⟨v, rfl, dx⟩ := dx_one hd
    cases d <;> first | exact (show False from h).elim | skip
    · obtain ⟨p, xs, rfl, e, _, da⟩ := dx.sql
      exact ⟨p, xs, rfl, .inl ⟨.inl (.inl e), new_tup hF da h⟩⟩
    · obtain ⟨p, xs, rfl, e, da⟩ := dx.sqt
      exact ⟨p, xs, rfl, .inr ⟨e, Kd.now (d := .tuple _) h dx⟩⟩
theorem prim_all : PrimC K (rAll K) allD := by
  intro F H vs ds Q hF hd h
  match ds with
  | [] => exact (show False from h).elim
  | d :: e :: r => cases d <;> exact (show False from h).elim
  | [d] =>
    obtain ⟨v, rfl, dx⟩ := dx_one hd
    cases d <;> first | exact (show False from h).elim | skip
    obtain ⟨bs, hb, q⟩ := h
    rw [boolsOf_eq hb] at dx
    obtain ⟨p, xs, rfl, e, _, da⟩ := dx.sql
    rw [da.bools] at e
    exact ⟨p, bs, rfl, .inl (.inl e), q.now (.bl _)⟩
theorem prim_any : PrimC K (rAny K) anyD := by
  intro F H vs ds Q hF hd h
  match ds with
  | [] => exact (show False from h).elim
  | d :: e :: r => cases d <;> exact (show False from h).elim
  | [d] =>
    obtain ⟨v, rfl, dx⟩ := dx_one hd
    cases d <;> first | exact (show False from h).elim | skip
    obtain ⟨bs, hb, q⟩ := h
    rw [boolsOf_eq hb] at dx
    obtain ⟨p, xs, rfl, e, _, da⟩ := dx.sql
    rw [da.bools] at e
    exact ⟨p, bs, rfl, .inl (.inl e), q.now (.bl _)⟩
end
section
variable {X : Cx} {p pos : Pos} {e e2 : Expr} {es : List Expr} {m : M (List D)}
theorem em_len (hm : X.mg "len" = none) (ha : AM X [e] m) (hg : Gl X "len" := by rfl) (he : starEach [e] X.env = (false, eval e X.env) :: starEach [] X.env := by rfl) (hpl : (backTo pos (starEach [] X.env)).any (·.1) = false := by rfl) : EM X (.Call (.Name "len" p) [e] [] pos) (mCall lenD m) :=
  em_callB call_len prim_len pm_len hg hm PySem.boot_len ha (he := he) (hpl := hpl)
theorem em_abs (hm : X.mg "abs" = none) (ha : AM X [e] m) (hg : Gl X "abs" := by rfl) (he : starEach [e] X.env = (false, eval e X.env) :: starEach [] X.env := by rfl) (hpl : (backTo pos (starEach [] X.env)).any (·.1) = false := by rfl) : EM X (.Call (.Name "abs" p) [e] [] pos) (mCall absD m) :=
  em_callB call_abs prim_abs pm_abs hg hm (by decide +kernel) ha (he := he) (hpl := hpl)
theorem em_str_ (hm : X.mg "str" = none) (ha : AM X [e] m) (hg : Gl X "str" := by rfl) (he : starEach [e] X.env = (false, eval e X.env) :: starEach [] X.env := by rfl) (hpl : (backTo pos (starEach [] X.env)).any (·.1) = false := by rfl) : EM X (.Call (.Name "str" p) [e] [] pos) (mCall strD m) :=
  em_callTy call_str_int prim_str pm_str hg hm PyProof.Rows.boot_str ha (he := he) (hpl := hpl)
theorem em_int_ (hm : X.mg "int" = none) (ha : AM X [e] m) (hg : Gl X "int" := by rfl) (he : starEach [e] X.env = (false, eval e X.env) :: starEach [] X.env := by rfl) (hpl : (backTo pos (starEach [] X.env)).any (·.1) = false := by rfl) : EM X (.Call (.Name "int" p) [e] [] pos) (mCall intD m) :=
  em_callTy call_intU prim_int pm_int hg hm PyProof.Rows.boot_int ha (he := he) (hpl := hpl)
theorem em_tuple_ (hm : X.mg "tuple" = none) (ha : AM X [e] m) (hg : Gl X "tuple" := by rfl) (he : starEach [e] X.env = (false, eval e X.env) :: starEach [] X.env := by rfl) (hpl : (backTo pos (starEach [] X.env)).any (·.1) = false := by rfl) : EM X (.Call (.Name "tuple" p) [e] [] pos) (mCall tupleD m) :=
  em_callTy call_tuple_of prim_tuple pm_tuple hg hm PyProof.Rows.boot_tuple ha (he := he) (hpl := hpl)
theorem em_all (hc : X.calm = true) (hm : X.mg "all" = none) (ha : AM X [e] m) (hg : Gl X "all" := by rfl) (he : starEach [e] X.env = (false, eval e X.env) :: starEach [] X.env := by rfl) (hpl : (backTo pos (starEach [] X.env)).any (·.1) = false := by rfl) : EM X (.Call (.Name "all" p) [e] [] pos) (mCall allD m) :=
  em_callB (cr_all hc) prim_all pm_all hg hm PyProof.Rows.boot_all ha (he := he) (hpl := hpl)
theorem em_any (hc : X.calm = true) (hm : X.mg "any" = none) (ha : AM X [e] m) (hg : Gl X "any" := by rfl) (he : starEach [e] X.env = (false, eval e X.env) :: starEach [] X.env := by rfl) (hpl : (backTo pos (starEach [] X.env)).any (·.1) = false := by rfl) : EM X (.Call (.Name "any" p) [e] [] pos) (mCall anyD m) :=
  em_callB (cr_any hc) prim_any pm_any hg hm PyProof.Rows.boot_any ha (he := he) (hpl := hpl)
theorem em_max (hc : X.calm = true) (hm : X.mg "max" = none) (ha : AM X [e, e2] m) (hg : Gl X "max" := by rfl) (he : starEach [e, e2] X.env = (false, eval e X.env) :: starEach [e2] X.env := by rfl) (hpl : (backTo pos (starEach [e2] X.env)).any (·.1) = false := by rfl) : EM X (.Call (.Name "max" p) [e, e2] [] pos) (mCall maxD m) :=
  em_callB (call_max2 hc) prim_max pm_max hg hm PyProof.Rows.boot_max ha (he := he) (hpl := hpl)
theorem em_min (hc : X.calm = true) (hm : X.mg "min" = none) (ha : AM X [e, e2] m) (hg : Gl X "min" := by rfl) (he : starEach [e, e2] X.env = (false, eval e X.env) :: starEach [e2] X.env := by rfl) (hpl : (backTo pos (starEach [e2] X.env)).any (·.1) = false := by rfl) : EM X (.Call (.Name "min" p) [e, e2] [] pos) (mCall minD m) :=
  em_callB (call_min2 hc) prim_min pm_min hg hm PyProof.Rows.boot_min ha (he := he) (hpl := hpl)
end

/-! ### isinstance -/
def tyD : D → Option String
  | .none => some "NoneType" | .bool _ => some "bool" | .int _ => some "int" | .str _ => some "str" | .list _ => some "list" | .tuple _ => some "tuple" | .dict _ => none
def isiD (T : String) (d : D) : Bool := match d with
  | .none => T == "NoneType" | .bool _ => T == "bool" || T == "int" | .int _ => T == "int" | .str _ => T == "str" | .list _ => T == "list" | .tuple _ => T == "tuple" | .dict _ => false
def ndD (d : D) : Bool := match d with
  | .dict _ => false
  | _ => true
theorem tyX_of {K : PySem.W.Frag} {H : Hp} {F : AS} {v : V} {d : D} (nd : ndD d = true) (h : Dx K H F v d) : ∃ t, tyD d = some t ∧ TyX K H v (.type t) := by
  cases h with
  | non => exact ⟨_, rfl, .base .non⟩
  | bl b => exact ⟨_, rfl, .base (.bl b)⟩
  | int i => exact ⟨_, rfl, .base (.int i)⟩
  | str x => exact ⟨_, rfl, .base (.str x)⟩
  | lst n e _ => exact ⟨_, rfl, .base (.lst e)⟩
  | tup n e _ => exact ⟨_, rfl, .base (.tup e)⟩
  | tupK e _ =>
    obtain ⟨o, its, n, h1, h2, _⟩ := e
    exact ⟨_, rfl, .kTuple h1 h2⟩
  | dsi l q n e => cases nd
  | dst l q n e => cases nd
  | scr ns q e => cases nd
  | fnr a q e => cases nd
  | adr a q => cases nd
  | exc q _ _ _ _ _ _ => cases nd
def KitAll (T : String) : Prop := kitB "NoneType" T = some (T == "NoneType") ∧ kitB "bool" T = some (T == "bool" || T == "int") ∧ kitB "int" T = some (T == "int") ∧ kitB "str" T = some (T == "str") ∧ kitB "list" T = some (T == "list") ∧ kitB "tuple" T = some (T == "tuple")
theorem KitAll.get {T : String} (k : KitAll T) {d : D} {t : String} (e : tyD d = some t) : kitB t T = some (isiD T d) := by
  obtain ⟨k1, k2, k3, k4, k5, k6⟩ := k
  cases d <;> cases e <;> assumption
theorem kit_int : KitAll "int" := by unfold KitAll; refine ⟨?_, ?_, ?_, ?_, ?_, ?_⟩ <;> decide +kernel
theorem kit_bool : KitAll "bool" := by unfold KitAll; refine ⟨?_, ?_, ?_, ?_, ?_, ?_⟩ <;> decide +kernel
theorem kit_str : KitAll "str" := by unfold KitAll; refine ⟨?_, ?_, ?_, ?_, ?_, ?_⟩ <;> decide +kernel
theorem kit_list : KitAll "list" := by unfold KitAll; refine ⟨?_, ?_, ?_, ?_, ?_, ?_⟩ <;> decide +kernel
theorem kit_tuple : KitAll "tuple" := by unfold KitAll; refine ⟨?_, ?_, ?_, ?_, ?_, ?_⟩ <;> decide +kernel
def mIsi (T : String) (m : M D) : M D := fun ρ k => m ρ fun d ρ1 => ndD d = true ∧ k (.bool (isiD T d)) ρ1
def mIsi2 (T U : String) (m : M D) : M D := fun ρ k => m ρ fun d ρ1 => ndD d = true ∧ k (.bool (isiD T d || isiD U d)) ρ1
section
variable {X : Cx} {x : Str} {p p2 p3 pos p4 p5 : Pos} {e : Expr} {m : M D} {T U : String}
/-- isinstance(e, T) -/
theorem em_isi {n : Str} (k : KitAll T) (hm : X.mg "isinstance" = none) (hmT : X.mg n = none) (hT : bootBuiltins n = some (.type T)) (ha : EM X e m) (hg : Gl X "isinstance" := by rfl) (hgT : Gl X n := by rfl) (hn : n ≠ "__name__" := by decide) (hd : (n == ("__debug__" : Str)) = false := by decide)
    (he : starEach [e, .Name n p2] X.env = (false, eval e X.env) :: starEach [.Name n p2] X.env := by rfl) (he2 : starEach [.Name n p2] X.env = (false, eval (.Name n p2) X.env) :: starEach [] X.env := by rfl) (hpl : (backTo pos (starEach [.Name n p2] X.env)).any (·.1) = false := by rfl) :
    EM X (.Call (.Name "isinstance" p) [e, .Name n p2] [] pos) (mIsi T m) := by
  refine ⟨fun ρ k k' w q => ha.mono ρ _ _ (fun d ρ1 q1 => ⟨q1.1, w _ _ q1.2⟩) q, pe_weak (pe_callB call_isi hg hm PyProof.Rows.boot_isinstance (pa_cons ha.run (pa_cons (pe_bltn (v := .ty T) hgT hmT hT rfl hn hd) pa_nil he2) he) (he := he) (hpl := hpl)) ?_⟩
  rintro σ H Q ⟨G, loc, ρ, R, q⟩
  refine ⟨G, loc, ρ, R, ha.mono ρ _ _ (fun d ρ1 q1 v H1 R1 g1 d1 => ?_) q⟩
  obtain ⟨t, e1, ty⟩ := tyX_of q1.1 d1
  exact ⟨v, .ty T, .type t, .type T, isiD T d, rfl, .ty T, ty, kit_ty (k.get e1), q1.2 _ H1 R1 g1 (.bl _)⟩
/-- isinstance(e, (T, U)) -/
theorem em_isi2 {n n2 : Str} {kk} (k : KitAll T) (k2 : KitAll U) (hm : X.mg "isinstance" = none) (hmT : X.mg n = none) (hmU : X.mg n2 = none) (hT : bootBuiltins n = some (.type T)) (hU : bootBuiltins n2 = some (.type U)) (ha : EM X e m) (hg : Gl X "isinstance" := by rfl) (hgT : Gl X n := by rfl) (hgU : Gl X n2 := by rfl)
    (hn : n ≠ "__name__" := by decide) (hd : (n == ("__debug__" : Str)) = false := by decide) (hn2 : n2 ≠ "__name__" := by decide) (hd2 : (n2 == ("__debug__" : Str)) = false := by decide)
    (he : starEach [e, .Tuple [.Name n p2, .Name n2 p3] kk p4] X.env = (false, eval e X.env) :: starEach [.Tuple [.Name n p2, .Name n2 p3] kk p4] X.env := by rfl) (he2 : starEach [.Tuple [.Name n p2, .Name n2 p3] kk p4] X.env = (false, eval (.Tuple [.Name n p2, .Name n2 p3] kk p4) X.env) :: starEach [] X.env := by rfl)
    (he3 : starEach [.Name n p2, .Name n2 p3] X.env = (false, eval (.Name n p2) X.env) :: starEach [.Name n2 p3] X.env := by rfl) (he4 : starEach [.Name n2 p3] X.env = (false, eval (.Name n2 p3) X.env) :: starEach [] X.env := by rfl)
    (hpl : (backTo pos (starEach [.Tuple [.Name n p2, .Name n2 p3] kk p4] X.env)).any (·.1) = false := by rfl) :
    EM X (.Call (.Name "isinstance" p) [e, .Tuple [.Name n p2, .Name n2 p3] kk p4] [] pos) (mIsi2 T U m) := by
  refine ⟨fun ρ k k' w q => ha.mono ρ _ _ (fun d ρ1 q1 => ⟨q1.1, w _ _ q1.2⟩) q, pe_weak (pe_callB call_isiT hg hm PyProof.Rows.boot_isinstance (pa_cons ha.run (pa_cons (pe_tup (pa_cons (pe_bltn (v := .ty T) hgT hmT hT rfl hn hd) (pa_cons (pe_bltn (v := .ty U) hgU hmU hU rfl hn2 hd2) pa_nil he4) he3)) pa_nil he2) he) (he := he) (hpl := hpl)) ?_⟩
  rintro σ H Q ⟨G, loc, ρ, R, q⟩
  refine ⟨G, loc, ρ, R, ha.mono ρ _ _ (fun d ρ1 q1 v H1 R1 g1 d1 => ?_) q⟩
  refine ⟨by show 2 ≤ sizeLine; decide, fun tp htp => ?_⟩
  have R2 := R1.more (upd_more (o := .tup [V.ty T, V.ty U]) htp)
  have g2 := more_grow (F := Fb G.fb ρ1 loc) (upd_more (o := .tup [V.ty T, V.ty U]) htp)
  obtain ⟨t, e1, ty⟩ := tyX_of q1.1 (d1.g g2)
  refine ⟨v, tp, [.ty T, .ty U], .type t, [.type T, .type U], (isiD T d || isiD U d), rfl, upd_same, .cons (.ty T) (.cons (.ty U) .nil), ty, ?_, q1.2 _ _ R2 (g1.trans g2) (.bl _)⟩
  refine kitAny_cons (kit_ty (k.get e1)) (fun f => ?_) (fun f => by rw [f]; rfl)
  rw [f, Bool.false_or]
  refine kitAny_cons (kit_ty (k2.get e1)) (fun f => ?_) (fun f => f)
  rw [f]; rfl
end

/-! ### list(..) -/
def mListOf (m : M D) : M (List D) := fun ρ k => m ρ fun d ρ1 => match d with
  | .list xs => k xs ρ1
  | .tuple xs => k xs ρ1
  | _ => False
section
variable {X : Cx} {p pos : Pos} {e : Expr} {m : M D}
theorem nm_list (hm : X.mg "list" = none) (ha : EM X e m) (hg : Gl X "list" := by rfl) (he : starEach [e] X.env = (false, eval e X.env) :: starEach [] X.env := by rfl) (hpl : (backTo pos (starEach [] X.env)).any (·.1) = false := by rfl) :
    NM X (.Call (.Name "list" p) [e] [] pos) (mListOf m) := by
  refine ⟨fun ρ k k' w q => ha.mono ρ _ _ (fun d ρ1 q1 => by cases d <;> first | exact q1.elim | exact w _ _ q1) q, pe_weak (pe_callTy call_list_of hg hm PyProof.Rows.boot_list (pa_cons ha.run pa_nil he) (he := he) (hpl := hpl)) ?_⟩
  rintro σ H Q ⟨G, loc, ρ, R, q⟩
  refine ⟨G, loc, ρ, R, ha.mono ρ _ _ (fun d ρ1 q1 v H1 R1 g1 d1 => ?_) q⟩
  cases d <;> first | exact (show False from q1).elim | skip
  · obtain ⟨a, xs, rfl, e1, _, da⟩ := d1.sql
    refine ⟨a, xs, rfl, .inl (.inl (.inl e1)), fun l hl => ?_⟩
    obtain ⟨a1, a2, a3, a4, a5, a6⟩ := new_list R1 da hl
    exact q1 l xs _ a1 a2 a3 a4 (g1.trans a5) a6
  · obtain ⟨a, xs, rfl, e1, da⟩ := d1.sqt
    refine ⟨a, xs, rfl, .inr e1, fun l hl => ?_⟩
    obtain ⟨a1, a2, a3, a4, a5, a6⟩ := new_list R1 da hl
    exact q1 l xs _ a1 a2 a3 a4 (g1.trans a5) a6
end

/-! ### own lists without giving them up -/
def mLenOwn (i : Nat) : M D := fun ρ k => match ρ[i]? with
  | some (.own b ds) => k (.int ds.length) ρ
  | some (.dat (.list ds)) => k (.int ds.length) ρ
  | some (.dat (.tuple ds)) => k (.int ds.length) ρ
  | some (.dat (.str z)) => z.length ≤ sizeLine ∧ k (.int z.length) ρ
  | _ => False
def mIxOwn (i : Nat) (m : M D) : M D := fun ρ k => (∃ s, ρ[i]? = some s) ∧ m ρ fun d ρ1 => match ρ1[i]?, d with
  | some (.own _ ds), .int j => ∃ r, atI ds j = some r ∧ k r ρ1
  | some (.dat c), d => ixD c d fun r => k r ρ1
  | _, _ => False
section
variable {X : Cx} {p p2 pos : Pos} {e : Expr} {m : M D} {x : Str}
theorem em_lenOwn {i : Nat} (hv : PE X (.Name x p2) (tVar i)) (hm : X.mg "len" = none) (hg : Gl X "len" := by rfl) (he : starEach [.Name x p2] X.env = (false, eval (.Name x p2) X.env) :: starEach [] X.env := by rfl) (hpl : (backTo pos (starEach [] X.env)).any (·.1) = false := by rfl) :
    EM X (.Call (.Name "len" p) [.Name x p2] [] pos) (mLenOwn i) := by
  refine ⟨fun ρ k k' w q => ?_, pe_weak (pe_callB call_len hg hm PySem.boot_len (pa_cons hv pa_nil he) (he := he) (hpl := hpl)) ?_⟩
  · unfold mLenOwn at q ⊢
    split at q <;> first | exact w _ _ q | exact ⟨q.1, w _ _ q.2⟩ | exact q.elim
  · rintro σ H Q ⟨G, loc, ρ, R, q⟩
    unfold mLenOwn at q
    split at q
    · rename_i b ds e
      obtain ⟨h1, vs, h2, h3⟩ := R.own i b ds e
      exact ⟨_, h1, _, _, rfl, .inl ⟨vs, .inl (.inl h2), rfl⟩, by rw [h3.length]; exact q _ H R Grow.refl (.int _)⟩
    · rename_i ds e
      obtain ⟨v, h1, h2⟩ := R.dat i _ e
      obtain ⟨a, xs, rfl, e1, _, da⟩ := h2.sql
      exact ⟨_, h1, _, _, rfl, .inl ⟨xs, .inl (.inl e1), rfl⟩, by rw [da.length]; exact q _ H R Grow.refl (.int _)⟩
    · rename_i ds e
      obtain ⟨v, h1, h2⟩ := R.dat i _ e
      obtain ⟨a, xs, rfl, e1, da⟩ := h2.sqt
      exact ⟨_, h1, _, _, rfl, .inr ⟨xs, e1, rfl⟩, by rw [da.length]; exact q _ H R Grow.refl (.int _)⟩
    · rename_i z e
      obtain ⟨v, h1, h2⟩ := R.dat i _ e
      cases h2
      exact ⟨_, h1, _, _, rfl, ⟨q.1, rfl⟩, q.2 _ H R Grow.refl (.int _)⟩
    · exact q.elim
end
end DL

/-! Defs that are called where nothing is being shown (no repr under way): the hand layer's promise, narrowed to that. -/
namespace DL
open PySem PySem.Spec PyProof.Rows L2

structure Rm (k : Nat) (A : Around) : Prop where
  rm : Room k A
  gd : A.guards = some []
section
variable {j k : Nat} {A : Around}
theorem Rm.mono (r : Rm k A) (h : j ≤ k) : Rm j A := ⟨r.rm.mono h, r.gd⟩
theorem Rm.deeper (r : Rm (k + 1) A) (env : Env) : Rm k (A.deeper env) := ⟨r.rm.deeper env, r.gd⟩
theorem Rm.units (r : Rm k A) : A.units + 64 < cLine := r.rm.units
theorem Rm.units0 (r : Rm k A) : A.units < cLine := r.rm.units0
end
/-- what a def promises there -/
structure FnG (P : Program) (w : World) (K : PySem.W.Frag) (mg : Str → Option Value) (base : Heap) (CX : CXT) (k : Nat) (f : Addr) (fd : FuncData) (ps : List Str) (sp : Sp) : Prop where
  len : ∀ vs H Q E, sp vs H Q E → vs.length = ps.length
  run : ∀ (A : Around) (outer : List Env) (s : Shared) (H : Hp) (args : Args) (us : List Value) (vs : List V) (Q : VK) (E : XK), Rm k A → Env0 P w K mg base A outer s H →
    BindsTo s fd args (ps.zip us) → Vals vs us → sp vs H Q E → codeAny (model P w) A (.call (.ref f) args) (CR CX outer P w H s Q E) s
section
variable {CX : CXT} {P : Program} {w : World} {K : PySem.W.Frag} {mg : Str → Option Value} {base : Heap} {j k : Nat} {f : Addr} {fd : FuncData} {N ps : List Str} {sp : Sp}
theorem FnG.mono (F : FnG P w K mg base CX j f fd ps sp) (h : j ≤ k) : FnG P w K mg base CX k f fd ps sp :=
  ⟨F.len, fun A outer s H args us vs Q E hr => F.run A outer s H args us vs Q E (hr.mono h)⟩
/-- the rule for a body -/
theorem fng_of {name qual : Str} {params : Arguments} {body : List Stmt} {scope : Scope} {dV kV doc pm cdv ct oc : Value} {an od : Option Addr} {osl : Array (Option Value)}
    (lk : K.lookup f = some ⟨oc, od, .func (PySem.W.fnOf name qual params body scope dV kV doc pm an cdv ct), osl⟩) (hcd : PySem.W.codeIn K cdv qual = true)
    (S : FnScope N ps scope) (len : ∀ vs H Q E, sp vs H Q E → vs.length = ps.length)
    (hb : ∀ (A : Around) (outer : List Env) (s : Shared) (H : Hp) (vs : List V) (Q : VK) (E : XK), Rm k (A.deeper (envOfC qual scope s.heap.objs.size f cdv)) → sp vs H Q E →
      ∃ t, PSs (cxOf CX P w K mg base N qual scope f cdv A outer s H E) body t ∧ t { nx := fun _ H' => Q .non H', rt := Q } (start N vs) H) :
    FnG P w K mg base CX (k + 1) f (PySem.W.fnOf name qual params body scope dV kV doc pm an cdv ct) ps sp := by
  refine ⟨len, ?_⟩
  intro A outer s H args us vs Q E room e0 bt rel prom
  have hlen := len _ _ _ _ prom
  have inK : K.In s.heap := e0.mod.kin.keeps (fun b o e => And.left (e0.bs b o e))
  have noLim : s.heap.NoLimit := e0.mod.nolimit.keeps (fun b o e => And.left (e0.bs b o e))
  refine codeAny_call_function room.rm.depth (inK _ _ lk) rfl S.co S.gen rfl (PySem.W.codeRec_of inK hcd) (bt _ _ _ _ ?_)
  refine wpAny_newFunctionEnv_cells S.kind (fun ⟨n, v⟩ hy => ?_) (fun env he s1 x => ?_)
  · rcases S.par n (List.of_mem_zip hy).1 with par | par
    · exact .inl par
    · exact .inr (And.intro par (PySem.W.cellsFrom_some _ _ _ (Or.inl par)))
  · subst he
    refine And.intro (noLim.keeps x.toInCall.keep) (codeAny_func ?_)
    obtain ⟨t, runs, holds⟩ := hb A outer s H vs Q E (room.deeper _) prom
    have inv := inv_start (CX := CX) (P := P) (w := w) (mg := mg) (base := base) (E := E) (N := N) S room.rm.hd e0 hlen rel x
    have fin : ∀ {σ' : L2.St} {H' : Hp} {v : V} {u : Value}, Inv (cxOf CX P w K mg base N qual scope f cdv A outer s H E) [] σ' H' ‹_› → RelV v u → Q v H' → CE outer P w H s Q u _ :=
      fun {σ' H' v u} J rv got => ⟨v, H', J.os, J.bare, J.base, J.hok, rv, got⟩
    refine wpAny_mono (runs.run [] s1 (start N vs) H _ inv holds) ?_ (fun e s' hs => hs)
    intro fl s' hs
    cases fl with
    | brk => exact hs.choose_spec.choose_spec.2.elim
    | cont => exact hs.choose_spec.choose_spec.2.elim
    | next =>
      obtain ⟨σ', H', J, got⟩ := hs
      exact ⟨V.non, H', J.os, J.bare, J.base, J.hok, rfl, got⟩
    | ret u =>
      obtain ⟨v, σ', H', J, rv, got⟩ := hs
      exact ⟨v, H', J.os, J.bare, J.base, J.hok, rv, got⟩
theorem funG {x qual : Str} {st : Stmt} (F : Fun K x qual st f fd) (S : FnScope N ps (defScope st)) (len : ∀ vs H Q E, sp vs H Q E → vs.length = ps.length)
    (hb : ∀ (cdv : Value) (A : Around) (outer : List Env) (s : Shared) (H : Hp) (vs : List V) (Q : VK) (E : XK), Rm k (A.deeper (envOfC qual (defScope st) s.heap.objs.size f cdv)) → sp vs H Q E →
      ∃ t, PSs (cxOf CX0 P w K mg base N qual (defScope st) f cdv A outer s H E).nox (defBody st) t ∧ t { nx := fun _ H' => Q .non H', rt := Q } (start N vs) H) : FnG P w K mg base CX0 (k + 1) f fd ps sp := by
  obtain ⟨oc, od, kV, doc, pm, an, cdv, ct, osl, e, look, code⟩ := F.ex
  subst e
  refine fng_of look code S len (fun A outer s H vs Q E room prom => ?_)
  obtain ⟨t, runs, holds⟩ := hb cdv A outer s H vs Q E room prom
  exact ⟨t, runs.nox, holds⟩
end
section
variable {X : Cx} {CX : CXT} {k i : Nat} {f : Addr} {fd : FuncData} {ps : List Str} {sp : Sp} {dvs : List V} {ds : List Value} {E : XK} {x : Str} {p pos : Pos} {e : Expr} {es : List Expr} {t : TA}
theorem run_g {pins : List (Addr × Obj)} {σ : L2.St} {H : Hp} {s : Shared} {Q : VK} {us : List Value} {vs : List V} (F : FnG X.prog X.w X.K X.mg X.base CX k f fd ps sp) (hr : Rm k X.A) (hb : Binds X.K fd ps ds) (hd : Vals dvs ds)
    (hx : Passes CX X E) (I : Inv X pins σ H s) (r : Vals vs us) (h : sp (vs ++ dvs) H Q E) : wpAny (model X.prog X.w) X.A (call (.ref f) us) (EP X pins σ Q) X.xe s := by
  have rel : Vals (vs ++ dvs) (us ++ ds) := r.append hd
  have many : (us ++ ds).length = ps.length := rel.length.symm.trans (F.len _ _ _ _ h)
  refine wpAny_call (codeAny_mono (F.run X.A X.stack s H ⟨us, []⟩ _ _ Q E hr I.env0 (hb s us I.kIn many) rel h) ?_)
  intro out s' got
  cases out with
  | error e => exact hx pins σ H s e s' I got
  | ok fl =>
    cases fl with
    | ret u => exact I.after got
    | next => exact got.elim
    | brk => exact got.elim
    | cont => exact got.elim
theorem pe_callG (F : FnG X.prog X.w X.K X.mg X.base CX k f fd ps sp) (hr : Rm k X.A) (hg : Gl X x) (hm : X.mg x = some (.ref f)) (hk : PySem.W.keepIn X.K (.ref f) = true) (hb : Binds X.K fd ps ds) (hd : Vals dvs ds) (hx : Passes CX X E)
    (ha : PA X (e :: es) t) (hdb : (x == ("__debug__" : Str)) = false := by decide) (he : starEach (e :: es) X.env = (false, eval e X.env) :: starEach es X.env := by rfl)
    (hpl : (backTo pos (starEach es X.env)).any (·.1) = false := by rfl) : PE X (.Call (.Name x p) (e :: es) [] pos) (tCall sp dvs E t) := by
  refine ⟨fun pins s σ H Q I h => wpAny_Call_Name_kw (ld_glob I hg hm ?_ hdb)⟩
  refine PySem.W.callWith_K (h₀ := X.base) I.ok.mod.kin hk (thn (ha.run pos pins s σ H _ I h) ?_) he hpl
  rintro us s1 ⟨vs, H1, I1, rel, got⟩
  exact ⟨I1.kIn, run_g F hr hb hd hx I1 rel got⟩
theorem pe_callG0 (F : FnG X.prog X.w X.K X.mg X.base CX k f fd ps sp) (hr : Rm k X.A) (hg : Gl X x) (hm : X.mg x = some (.ref f)) (hk : PySem.W.keepIn X.K (.ref f) = true) (hb : Binds X.K fd ps ds) (hd : Vals dvs ds) (hx : Passes CX X E)
    (hdb : (x == ("__debug__" : Str)) = false := by decide) : PE X (.Call (.Name x p) [] [] pos) (tCall sp dvs E tNil) :=
  ⟨fun pins s σ H Q I h => wpAny_Call_Name_kw (ld_glob I hg hm (PySem.W.callWith_K0 I.kIn hk (run_g (us := []) F hr hb hd hx I .nil h)) hdb)⟩
theorem pe_callLG (F : FnG X.prog X.w X.K X.mg X.base CX k f fd ps sp) (hr : Rm k X.A) (hN : X.N[i]? = some x) (hv : Vis X.env.scope x) (hk : PySem.W.keepIn X.K (.ref f) = true) (hb : Binds X.K fd ps ds) (hd : Vals dvs ds) (hx : Passes CX X E)
    (ha : PA X (e :: es) t) (hdb : (x == ("__debug__" : Str)) = false := by decide) (hcd : (x == ("__classdict__" : Str)) = false := by decide)
    (he : starEach (e :: es) X.env = (false, eval e X.env) :: starEach es X.env := by rfl) (hpl : (backTo pos (starEach es X.env)).any (·.1) = false := by rfl) : PE X (.Call (.Name x p) (e :: es) [] pos) (tCallL i f sp dvs E t) := by
  refine ⟨fun pins s σ H Q I h => wpAny_Call_Name_kw (thn ((pe_var (pos := p) hN hv hdb hcd).run pins s σ H (fun v H1 => v = .ref f ∧ H1 = H) I ⟨.ref f, h.1, rfl, rfl⟩) ?_)⟩
  rintro u s1 ⟨v, H1, I1, r1, rfl, rfl⟩
  cases r1
  refine PySem.W.callWith_K (h₀ := X.base) I.ok.mod.kin hk (thn (ha.run pos pins s1 σ _ _ I1 h.2) ?_) he hpl
  rintro us s2 ⟨vs, H2, I2, rel, got⟩
  exact ⟨I2.kIn, run_g F hr hb hd hx I2 rel got⟩
structure HeldG (P : Program) (w : World) (K : PySem.W.Frag) (mg : Str → Option Value) (base : Heap) (k : Nat) (f : Addr) (sp : Sp) : Prop where
  ex : ∃ (fd : FuncData) (ps : List Str), FnG P w K mg base CX0 k f fd ps sp ∧ PySem.W.keepIn K (.ref f) = true ∧ Binds K fd ps []
end
end DL

namespace DL
open PySem L2

/-! ### defs of the text: what they compute -/
/-- of data alone -/
abbrev FS := List D → (Bool → D → Prop) → Prop
/-- of a borrowed list and data -/
abbrev FB := List D → List D → (Bool → D → List D → Prop) → Prop
def KdB (K : PySem.W.Frag) (fb : AS) (H : Hp) (Q : VK) : Bool → D → Prop := fun b d => ∀ v H', (∀ c o, H c = some o → H' c = some o) → Dx K H' fb v d → (b = true → IsNew K H fb H' v d) → Q v H'
def sp0 (K : PySem.W.Frag) (n : Nat) (F : FS) : Sp := fun vs H Q _ => ∃ (fb : AS) (ds : List D), (∀ b, fb b → ∃ o, H b = some o) ∧ DxAll K H fb vs ds ∧ ds.length = n ∧ F ds (KdB K fb H Q)
def KdBB (K : PySem.W.Frag) (fb : AS) (a : Addr) (H : Hp) (Q : VK) : Bool → D → List D → Prop := fun b d bs => ∀ v H', (∀ c o, c ≠ a → H c = some o → H' c = some o) → (∃ ws, H' a = some (.lst ws) ∧ DxAll K H' fb ws bs) → Dx K H' fb v d → (b = true → IsNew K H fb H' v d) → Q v H'
def spB (K : PySem.W.Frag) (n : Nat) (F : FB) : Sp := fun vs H Q _ => ∃ (fb : AS) (a : Addr) (vs' : List V) (ds bs : List D) (ws : List V), vs = .ref a :: vs' ∧ fb a ∧ (∀ b, fb b → ∃ o, H b = some o) ∧ H a = some (.lst ws) ∧ DxAll K H fb ws bs ∧ DxAll K H fb vs' ds ∧ ds.length = n ∧
  F bs ds (KdBB K fb a H Q)
def PmS (F : FS) : Prop := ∀ ds k k', (∀ b d, k b d → k' b d) → F ds k → F ds k'
def PmB (F : FB) : Prop := ∀ bs ds k k', (∀ b d bs', k b d bs' → k' b d bs') → F bs ds k → F bs ds k'
/-- the body's meaning, from the parameters -/
def fnS (m : SMon) (extra : Nat) : FS := fun ds k => m ⟨fun _ => k false .none, fun b d _ => k b d, fun _ => False, fun _ => False⟩ (ds.map Slot.dat ++ List.replicate extra Slot.non)
def fnB (m : SMon) (extra : Nat) : FB := fun bs ds k => m ⟨fun ρ => ∃ bs', ρ[0]? = some (Slot.own true bs') ∧ k false .none bs', fun b d ρ => ∃ bs', ρ[0]? = some (Slot.own true bs') ∧ k b d bs', fun _ => False, fun _ => False⟩ (Slot.own true bs :: (ds.map Slot.dat ++ List.replicate extra Slot.non))
theorem pm_fnS {m : SMon} (h : SMono m) (n : Nat) : PmS (fnS m n) := fun ds k k' w q => h ⟨fun _ => k false .none, fun b d _ => k b d, fun _ => False, fun _ => False⟩ _ _ ⟨fun _ q => w _ _ q, fun _ _ _ q => w _ _ q, fun _ q => q, fun _ q => q⟩ q
theorem pm_fnB {m : SMon} (h : SMono m) (n : Nat) : PmB (fnB m n) := fun bs ds k k' w q => h ⟨fun ρ => ∃ bs', ρ[0]? = some (Slot.own true bs') ∧ k false .none bs', fun b d ρ => ∃ bs', ρ[0]? = some (Slot.own true bs') ∧ k b d bs', fun _ => False, fun _ => False⟩ _ _ ⟨fun _ ⟨bs', e, q⟩ => ⟨bs', e, w _ _ _ q⟩, fun _ _ _ ⟨bs', e, q⟩ => ⟨bs', e, w _ _ _ q⟩, fun _ q => q, fun _ q => q⟩ q

theorem slot_dat {ds : List D} {extra i : Nat} {d : D} (h : (ds.map Slot.dat ++ List.replicate extra Slot.non)[i]? = some (Slot.dat d)) : ds[i]? = some d := by
  by_cases hi : i < ds.length
  · rw [List.getElem?_append_left (by simpa using hi), List.getElem?_map] at h
    cases q : ds[i]? with
    | none => rw [q] at h; cases h
    | some e => rw [q] at h; cases h; rfl
  · rw [List.getElem?_append_right (by simpa using hi), List.getElem?_replicate] at h
    split at h <;> cases h
theorem slot_own {ds : List D} {extra i : Nat} {b : Bool} {es : List D} (h : (ds.map Slot.dat ++ List.replicate extra Slot.non)[i]? = some (Slot.own b es)) : False := by
  by_cases hi : i < ds.length
  · rw [List.getElem?_append_left (by simpa using hi), List.getElem?_map] at h
    cases q : ds[i]? with
    | none => rw [q] at h; cases h
    | some e => rw [q] at h; cases h
  · rw [List.getElem?_append_right (by simpa using hi), List.getElem?_replicate] at h
    split at h <;> cases h
theorem slot_raw {ds : List D} {extra i : Nat} {s : Slot} (hs : s.hv) (h : (ds.map Slot.dat ++ List.replicate extra Slot.non)[i]? = some s) : False := by
  by_cases hi : i < ds.length
  · rw [List.getElem?_append_left (by simpa using hi), List.getElem?_map] at h
    cases q : ds[i]? with
    | none => rw [q] at h; cases h
    | some e => rw [q] at h; cases h; exact hs
  · rw [List.getElem?_append_right (by simpa using hi), List.getElem?_replicate] at h
    split at h
    · cases h; exact hs
    · cases h
theorem start_get {N : List Str} {vs : List V} {i : Nat} {v : V} (h : vs[i]? = some v) : (L2.start N vs)[i]? = some (some v) := by
  unfold L2.start
  have hi : i < vs.length := (List.getElem?_eq_some_iff.mp h).1
  rw [List.getElem?_append_left (by simpa using hi), List.getElem?_map, h]
  rfl
theorem start_len {N : List Str} {vs : List V} : (L2.start N vs).length = vs.length + (N.length - vs.length) := by
  unfold L2.start
  rw [List.length_append, List.length_map, List.length_replicate]
/-- the slots at the entry -/
theorem rep_start0 {K : PySem.W.Frag} {H : Hp} {fb : AS} {vs : List V} {ds : List D} {N : List Str} (hf : ∀ b, fb b → ∃ o, H b = some o) (hd : DxAll K H fb vs ds) :
    Rep K ⟨H, fb, fun _ => False, fun _ => 0⟩ (ds.map Slot.dat ++ List.replicate (N.length - ds.length) Slot.non) (fun _ => 0) (L2.start N vs) H := by
  have sub : ∀ b, Fb fb (ds.map Slot.dat ++ List.replicate (N.length - ds.length) Slot.non) (fun _ => 0) b → fb b := fun b z => by
    rcases z with z | z | ⟨i, b, es, e, _⟩
    · exact z
    · obtain ⟨i, s, e, m⟩ := z
      exact (slot_raw m.hv e).elim
    · exact (slot_own e).elim
  refine ⟨?_, fun i d e => ?_, fun i b es e => (slot_own e).elim, fun i j b c es fs e _ _ => (slot_own e).elim, fun i es e => (slot_own e).elim, fun i es e => (slot_own e).elim, fun b o e _ => e, hf, fun b q => q.elim, RawR.no fun i s h e => (slot_raw h e).elim⟩
  · rw [start_len, List.length_append, List.length_map, List.length_replicate, hd.length]
  · obtain ⟨v, h1, h2⟩ := hd.get (slot_dat e)
    exact ⟨v, start_get h1, h2.weak sub⟩
theorem rep_startB {K : PySem.W.Frag} {H : Hp} {fb : AS} {a : Addr} {ws vs : List V} {bs ds : List D} {N : List Str} (hf : ∀ b, fb b → ∃ o, H b = some o) (ha : fb a) (hw : H a = some (.lst ws)) (hb : DxAll K H fb ws bs) (hd : DxAll K H fb vs ds) (hn : ds.length + 1 ≤ N.length) :
    Rep K ⟨H, fb, fun b => b = a, fun _ => a⟩ (Slot.own true bs :: (ds.map Slot.dat ++ List.replicate (N.length - (ds.length + 1)) Slot.non)) (fun _ => a) (start N (.ref a :: vs)) H := by
  have own0 : ∀ {i : Nat} {b : Bool} {es : List D}, (Slot.own true bs :: (ds.map Slot.dat ++ List.replicate (N.length - (ds.length + 1)) Slot.non))[i]? = some (Slot.own b es) → i = 0 ∧ b = true ∧ es = bs := fun {i b es} e => by
    cases i with
    | zero => simp at e; exact ⟨rfl, e.1, e.2.symm⟩
    | succ i => rw [List.getElem?_cons_succ] at e; exact (slot_own e).elim
  have raw0 : ∀ {i : Nat} {s : Slot}, s.hv → (Slot.own true bs :: (ds.map Slot.dat ++ List.replicate (N.length - (ds.length + 1)) Slot.non))[i]? = some s → False := fun {i s} h e => by
    cases i with
    | zero => simp at e; subst e; exact h
    | succ i => rw [List.getElem?_cons_succ] at e; exact slot_raw h e
  have sub : ∀ b, Fb fb (Slot.own true bs :: (ds.map Slot.dat ++ List.replicate (N.length - (ds.length + 1)) Slot.non)) (fun _ => a) b → fb b := fun b z => by
    rcases z with z | z | ⟨i, b, es, e, z⟩
    · exact z
    · obtain ⟨i, s, e, m⟩ := z
      exact (raw0 m.hv e).elim
    · rw [← z]; exact ha
  refine ⟨?_, fun i d e => ?_, fun i b es e => ?_, fun i j b c es fs e e' _ => ?_, fun i es e => ⟨rfl, rfl⟩, fun i es e => ?_, fun b o e _ => e, hf, fun b q => by cases q; exact ha, RawR.no fun i s h e => (raw0 h e).elim⟩
  · have := hd.length
    rw [start_len, List.length_cons, List.length_cons, List.length_append, List.length_map, List.length_replicate]
    omega
  · cases i with
    | zero => simp at e
    | succ i =>
      rw [List.getElem?_cons_succ] at e
      obtain ⟨v, h1, h2⟩ := hd.get (slot_dat e)
      exact ⟨v, start_get (i := i + 1) (by simpa using h1), h2.weak sub⟩
  · obtain ⟨rfl, rfl, rfl⟩ := own0 e
    exact ⟨start_get (i := 0) rfl, ws, hw, hb.weak sub⟩
  · rw [(own0 e).1, (own0 e').1]
  · cases (own0 e).2.1
section
variable {P : Program} {w : World} {K : PySem.W.Frag} {mg : Str → Option Value} {base : Heap} {x qual : Str} {st : Stmt} {f : Addr} {fd : FuncData} {N ps : List Str} {k : Nat} {m : SMon}
theorem DxAll.len_sp {H : Hp} {fb : AS} {vs : List V} {ds : List D} {n : Nat} (h : DxAll K H fb vs ds) (e : ds.length = n) : vs.length = n := h.length.trans e
theorem IsNew.weak {H0 H : Hp} {F F' : AS} {v : V} {d : D} (h : IsNew K H0 F H v d) (s : ∀ b, F' b → F b) : IsNew K H0 F' H v d := by
  obtain ⟨p, ws, xs, a, b, c, e, f⟩ := h
  exact ⟨p, ws, xs, a, b, c, e, f.weak fun q z => z.imp (s q) id⟩
/-- a def of data alone keeps what its body means -/
theorem fn0 (F : Fun K x qual st f fd) (S : FnScope N ps (defScope st))
    (body : ∀ (cdv : Value) (A : Around) (outer : List Env) (s : Shared) (H : Hp) (E : XK), Rm k (A.deeper (PyProof.Rows.envOfC qual (defScope st) s.heap.objs.size f cdv)) → BM (cxOf CX0 P w K mg base N qual (defScope st) f cdv A outer s H E).nox (defBody st) m) :
    FnG P w K mg base CX0 (k + 1) f fd ps (sp0 K ps.length (fnS m (N.length - ps.length))) := by
  refine funG F S (fun vs H Q E h => ?_) (fun cdv A outer s H vs Q E hr h => ?_)
  · obtain ⟨fb, ds, _, hd, e, _⟩ := h
    exact hd.len_sp e
  · obtain ⟨fb, ds, hf, hd, e, q⟩ := h
    have B := body cdv A outer s H E hr
    have R := rep_start0 (N := N) hf hd
    rw [e] at R
    refine ⟨_, B.run, ⟨_, _, _, _, R, q, ?_, ?_, ?_, ?_⟩⟩
    · exact fun ρ' loc' σ' H' R' g q => q .non H' (fun c o e => R'.ext c o e fun z => z) .non (fun z => nomatch z)
    · exact fun b d ρ' loc' σ' v H' R' g dx nw q => q v H' (fun c o e => R'.ext c o e fun z => z) (dx.weak fun c z => .inl z) fun z => (nw z).weak fun c z => .inl z
    · exact fun ρ' loc' σ' H' R' g q => q
    · exact fun ρ' loc' σ' H' R' g q => q
/-- .. of a borrowed list and data -/
theorem fnb (F : Fun K x qual st f fd) (S : FnScope N ps (defScope st)) {n : Nat} (hn : ps.length = n + 1) (hN : ps.length ≤ N.length)
    (body : ∀ (cdv : Value) (A : Around) (outer : List Env) (s : Shared) (H : Hp) (E : XK), Rm k (A.deeper (PyProof.Rows.envOfC qual (defScope st) s.heap.objs.size f cdv)) → BM (cxOf CX0 P w K mg base N qual (defScope st) f cdv A outer s H E).nox (defBody st) m) :
    FnG P w K mg base CX0 (k + 1) f fd ps (spB K n (fnB m (N.length - (n + 1)))) := by
  refine funG F S (fun vs H Q E h => ?_) (fun cdv A outer s H vs Q E hr h => ?_)
  · obtain ⟨fb, a, vs', ds, bs, ws, rfl, _, _, _, _, hd, e, _⟩ := h
    rw [List.length_cons, hd.len_sp e, hn]
  · obtain ⟨fb, a, vs', ds, bs, ws, rfl, ha, hf, hw, hb, hd, e, q⟩ := h
    have B := body cdv A outer s H E hr
    have R := rep_startB (N := N) hf ha hw hb hd (by omega)
    rw [e] at R
    have back : ∀ {ρ' : List Slot} {loc' : Nat → Addr} {σ' : L2.St} {H' : Hp} {bs' : List D}, Rep K ⟨H, fb, fun b => b = a, fun _ => a⟩ ρ' loc' σ' H' → ρ'[0]? = some (Slot.own true bs') → ∃ ws, H' a = some (.lst ws) ∧ DxAll K H' fb ws bs' := fun {ρ' loc' σ' H' bs'} R' e0 => by
      obtain ⟨h1, ws, h2, h3⟩ := R'.own 0 true bs' e0
      obtain ⟨h4, _⟩ := R'.brw 0 bs' e0
      rw [h4] at h2
      exact ⟨ws, h2, h3.weak fun c z => .inl z⟩
    refine ⟨_, B.run, ⟨_, _, _, _, R, q, ?_, ?_, ?_, ?_⟩⟩
    · exact fun ρ' loc' σ' H' R' g ⟨bs', e0, q⟩ => q .non H' (fun c o n e => R'.ext c o e n) (back R' e0) .non (fun z => nomatch z)
    · exact fun b d ρ' loc' σ' v H' R' g dx nw ⟨bs', e0, q⟩ => q v H' (fun c o n e => R'.ext c o e n) (back R' e0) (dx.weak fun c z => .inl z) fun z => (nw z).weak fun c z => .inl z
    · exact fun ρ' loc' σ' H' R' g q => q
    · exact fun ρ' loc' σ' H' R' g q => q
end

/-! ### calls of them -/
def mFn (n : Nat) (F : FS) (m : M (List D)) : M D := fun ρ k => m ρ fun ds ρ1 => ds.length = n ∧ F ds fun _ d => k d ρ1
def mFnN (n : Nat) (F : FS) (m : M (List D)) : M (List D) := fun ρ k => m ρ fun ds ρ1 => ds.length = n ∧ F ds fun b d => b = true ∧ ∃ xs, d = .list xs ∧ k xs ρ1
def mFnB (n : Nat) (F : FB) (i : Nat) (m : M (List D)) : M D := fun ρ k => (∃ b bs, ρ[i]? = some (Slot.own b bs)) ∧ m ρ fun ds ρ1 => ∃ b bs, ρ1[i]? = some (Slot.own b bs) ∧ ds.length = n ∧ F bs ds fun _ d bs' => k d (ρ1.set i (.own b bs'))
def mFnBN (n : Nat) (F : FB) (i : Nat) (m : M (List D)) : M (List D) := fun ρ k => (∃ b bs, ρ[i]? = some (Slot.own b bs)) ∧ m ρ fun ds ρ1 => ∃ b bs, ρ1[i]? = some (Slot.own b bs) ∧ ds.length = n ∧ F bs ds fun c d bs' => c = true ∧ ∃ xs, d = .list xs ∧ k xs (ρ1.set i (.own b bs'))
section
variable {X : Cx} {k n : Nat} {f : Addr} {fd : FuncData} {ps : List Str} {x : Str} {p pos : Pos} {e : Expr} {es : List Expr} {m : M (List D)} {F : FS} {FF : FB}
theorem em_fn (G : FnG X.prog X.w X.K X.mg X.base CX0 k f fd ps (sp0 X.K n F)) (mF : PmS F) (hr : Rm k X.A) (hg : Gl X x) (hm : X.mg x = some (.ref f)) (hk : PySem.W.keepIn X.K (.ref f) = true) (hb : Binds X.K fd ps [])
    (ha : AM X (e :: es) m) (hdb : (x == ("__debug__" : Str)) = false := by decide) (he : starEach (e :: es) X.env = (false, eval e X.env) :: starEach es X.env := by rfl) (hpl : (backTo pos (starEach es X.env)).any (·.1) = false := by rfl) :
    EM X (.Call (.Name x p) (e :: es) [] pos) (mFn n F m) := by
  refine ⟨fun ρ k k' w q => ha.mono ρ _ _ (fun ds ρ1 q1 => ⟨q1.1, mF ds _ _ (fun b d q2 => w _ _ q2) q1.2⟩) q, pe_weak (pe_callG G hr hg hm hk hb .nil pass0 ha.run hdb he hpl) ?_⟩
  rintro σ H Q ⟨G', loc, ρ, R, q⟩
  refine ⟨G', loc, ρ, R, ha.mono ρ _ _ (fun ds ρ1 q1 vs H1 R1 g1 d1 => ?_) q⟩
  refine ⟨Fb G'.fb ρ1 loc, ds, R1.fbE, by rw [List.append_nil]; exact d1, q1.1, mF ds _ _ (fun b d q2 v H2 m2 d2 _ => ?_) q1.2⟩
  exact q2 v H2 (R1.more m2) (g1.trans (more_grow m2)) d2
/-- a def that gives a new list -/
theorem nm_fn (G : FnG X.prog X.w X.K X.mg X.base CX0 k f fd ps (sp0 X.K n F)) (mF : PmS F) (hr : Rm k X.A) (hg : Gl X x) (hm : X.mg x = some (.ref f)) (hk : PySem.W.keepIn X.K (.ref f) = true) (hb : Binds X.K fd ps [])
    (ha : AM X (e :: es) m) (hdb : (x == ("__debug__" : Str)) = false := by decide) (he : starEach (e :: es) X.env = (false, eval e X.env) :: starEach es X.env := by rfl) (hpl : (backTo pos (starEach es X.env)).any (·.1) = false := by rfl) :
    NM X (.Call (.Name x p) (e :: es) [] pos) (mFnN n F m) := by
  refine ⟨fun ρ k k' w q => ha.mono ρ _ _ (fun ds ρ1 q1 => ⟨q1.1, mF ds _ _ (fun b d ⟨z, xs, y, q2⟩ => ⟨z, xs, y, w _ _ q2⟩) q1.2⟩) q, pe_weak (pe_callG G hr hg hm hk hb .nil pass0 ha.run hdb he hpl) ?_⟩
  rintro σ H Q ⟨G', loc, ρ, R, q⟩
  refine ⟨G', loc, ρ, R, ha.mono ρ _ _ (fun ds ρ1 q1 vs H1 R1 g1 d1 => ?_) q⟩
  refine ⟨Fb G'.fb ρ1 loc, ds, R1.fbE, by rw [List.append_nil]; exact d1, q1.1, mF ds _ _ (fun b d q2 v H2 m2 d2 nw => ?_) q1.2⟩
  obtain ⟨rfl, xs, rfl, q3⟩ := q2
  obtain ⟨p, ws, ys, rfl, e2, hp, e3, d3⟩ := nw rfl
  cases e2
  obtain ⟨a1, a2, _, a4, a5, _⟩ := new_list R1 (.nil : DxAll X.K H1 (Fb G'.fb ρ1 loc) [] []) hp
  have sub : ∀ b, Fb (G'.plus p).fb ρ1 loc b → Fb G'.fb ρ1 loc b ∨ b = p := fun b z => by
    rcases z with (z | z) | z
    · exact .inl (.inl z)
    · exact .inr z
    · exact .inl (.inr z)
  have R2 : Rep X.K (G'.plus p) ρ1 loc σ H2 := by
    have g2 : Grow (Fb G'.fb ρ1 loc) (Fb (G'.plus p).fb ρ1 loc) H1 H2 := fun b o e n => ⟨m2 b o e, fun z => by
      rcases sub b z with z | z
      · exact n z
      · rw [z, hp] at e; cases e⟩
    refine ⟨R1.len, fun i d e => ?_, fun i b ds e => ?_, R1.apart, R1.brw, a4.new, fun b o e n => m2 b o (R1.ext b o e n), fun b e => ?_, fun b e => .inl (R1.bwS b e), R1.raw.plus m2 hp g2⟩
    · obtain ⟨v, h1, h2⟩ := R1.dat i d e
      exact ⟨v, h1, h2.g g2⟩
    · obtain ⟨h1, vs, h2, h3⟩ := R1.own i b ds e
      exact ⟨h1, vs, m2 _ _ h2, h3.g g2⟩
    · rcases e with e | e
      · obtain ⟨o, q⟩ := R1.fbS b e
        exact ⟨o, m2 _ _ q⟩
      · rw [e]; exact ⟨_, e3⟩
  refine q3 p ws H2 a1 a2 e3 R2 (g1.trans fun b o e n => ⟨m2 b o e, fun z => ?_⟩) (d3.weak sub)
  rcases sub b z with z | z
  · exact n z
  · rw [z, hp] at e; cases e
/-- behind a call that changed the borrowed list alone -/
theorem Rep.back {K : PySem.W.Frag} {G : Fr} {ρ : List Slot} {loc : Nat → Addr} {σ : L2.St} {H H' : Hp} (R : Rep K G ρ loc σ H) {i : Nat} {b : Bool} {bs bs' : List D} {ws : List V} (e : ρ[i]? = some (Slot.own b bs)) (g : ∀ c o, c ≠ loc i → H c = some o → H' c = some o)
    (hw : H' (loc i) = some (.lst ws)) (hb : DxAll K H' (Fb G.fb ρ loc) ws bs') : Rep K G (ρ.set i (.own b bs')) loc σ H' ∧ Grow (Fb G.fb ρ loc) (Fb G.fb (ρ.set i (.own b bs')) loc) H H' ∧ ∀ a, Fb G.fb (ρ.set i (.own b bs')) loc a → Fb G.fb ρ loc a := by
  have hl : i < ρ.length := (List.getElem?_eq_some_iff.mp e).1
  have gt : ∀ j s, (ρ.set i (.own b bs'))[j]? = some s → (j = i ∧ s = .own b bs') ∨ (j ≠ i ∧ ρ[j]? = some s) := fun j s q => by
    by_cases hj : i = j
    · subst hj
      rw [List.getElem?_set_self hl] at q
      exact .inl ⟨rfl, (Option.some.inj q).symm⟩
    · rw [List.getElem?_set_ne hj] at q; exact .inr ⟨Ne.symm hj, q⟩
  have sub : ∀ a, Fb G.fb (ρ.set i (.own b bs')) loc a → Fb G.fb ρ loc a := fun a z => by
    rcases z with z | z | ⟨j, c, ds, e', z⟩
    · exact .inl z
    · refine .inr (.inl (Rw.sub (fun j s hs q => ?_) z))
      rcases gt j _ q with ⟨_, q⟩ | ⟨_, q⟩
      · rw [q] at hs; exact hs.elim
      · exact q
    · rcases gt j _ e' with ⟨rfl, q⟩ | ⟨_, q⟩
      · exact .inr (.inr ⟨j, b, bs, e, z⟩)
      · exact .inr (.inr ⟨j, c, ds, q, z⟩)
  have gr : Grow (Fb G.fb ρ loc) (Fb G.fb (ρ.set i (.own b bs')) loc) H H' := fun c o q n => ⟨g c o (fun z => n (.inr (.inr ⟨i, b, bs, e, z.symm⟩))) q, fun z => n (sub c z)⟩
  refine ⟨⟨by rw [List.length_set]; exact R.len, fun j d q => ?_, fun j c es q => ?_, fun j l c c' es fs q q' z => ?_, fun j es q => ?_, fun j es q => ?_, fun c o q n => ?_, fun c q => ?_, R.bwS, R.raw.step (fun j s hs q => ?_) (fun j c es q => ?_) gr (fun a u z q => g a u (fun y => R.raw.own a z i b bs e y.symm) q) fun _ _ a b => ⟨a, b⟩⟩, gr, sub⟩
  · rcases gt j _ q with ⟨_, q'⟩ | ⟨_, q'⟩
    · cases q'
    · obtain ⟨v, a1, a2⟩ := R.dat j d q'
      exact ⟨v, a1, a2.g gr⟩
  · rcases gt j _ q with ⟨rfl, q'⟩ | ⟨hj, q'⟩
    · cases q'
      exact ⟨(R.own j b bs e).1, ws, hw, hb.weak sub⟩
    · obtain ⟨a1, vs, a2, a3⟩ := R.own j c es q'
      refine ⟨a1, vs, g _ _ (fun z => hj (R.apart j i c b es bs q' e z)) a2, a3.g gr⟩
  · rcases gt j _ q with ⟨rfl, q1⟩ | ⟨hj, q1⟩
    · rcases gt l _ q' with ⟨rfl, q2⟩ | ⟨hl, q2⟩
      · rfl
      · exact R.apart j l b c' bs fs e q2 z
    · rcases gt l _ q' with ⟨rfl, q2⟩ | ⟨hl, q2⟩
      · exact R.apart j l c b es bs q1 e z
      · exact R.apart j l c c' es fs q1 q2 z
  · rcases gt j _ q with ⟨rfl, q1⟩ | ⟨_, q1⟩
    · cases q1; exact R.brw j bs e
    · exact R.brw j es q1
  · rcases gt j _ q with ⟨rfl, q1⟩ | ⟨_, q1⟩
    · cases q1; exact R.new j bs e
    · exact R.new j es q1
  · refine g _ _ (fun z => ?_) (R.ext c o q n)
    cases b with
    | true => exact n (z ▸ (R.brw i bs e).2)
    | false => rw [z, (R.new i bs e).1] at q; cases q
  · obtain ⟨o, z⟩ := R.fbS c q
    by_cases hc : c = loc i
    · rw [hc]; exact ⟨_, hw⟩
    · exact ⟨o, g _ _ hc z⟩
  · rcases gt j _ q with ⟨_, q⟩ | ⟨_, q⟩
    · rw [q] at hs; exact hs.elim
    · exact ⟨q, rfl⟩
  · rcases gt j _ q with ⟨rfl, q⟩ | ⟨_, q⟩
    · exact .inl ⟨b, bs, e, rfl⟩
    · exact .inl ⟨c, es, q, rfl⟩
theorem own_pv {K : PySem.W.Frag} {G : Fr} {ρ : List Slot} {loc : Nat → Addr} {σ : L2.St} {H : Hp} (R : Rep K G ρ loc σ H) {i : Nat} (h : ∃ b bs, ρ[i]? = some (Slot.own b bs)) : σ[i]? = some (some (.ref (loc i))) := by
  obtain ⟨b, bs, e⟩ := h
  exact (R.own i b bs e).1
/-- f(box, e, ..) -/
theorem em_fnB {i : Nat} {y : Str} {py : Pos} (hv : PE X (.Name y py) (tVar i)) (G : FnG X.prog X.w X.K X.mg X.base CX0 k f fd ps (spB X.K n FF)) (mF : PmB FF) (hr : Rm k X.A) (hg : Gl X x) (hm : X.mg x = some (.ref f)) (hk : PySem.W.keepIn X.K (.ref f) = true) (hb : Binds X.K fd ps [])
    (ha : AM X es m) (hdb : (x == ("__debug__" : Str)) = false := by decide) (he : starEach (.Name y py :: es) X.env = (false, eval (.Name y py) X.env) :: starEach es X.env := by rfl) (hpl : (backTo pos (starEach es X.env)).any (·.1) = false := by rfl) :
    EM X (.Call (.Name x p) (.Name y py :: es) [] pos) (mFnB n FF i m) := by
  refine ⟨fun ρ k k' w q => ⟨q.1, ha.mono ρ _ _ (fun ds ρ1 ⟨b, bs, e, l, q1⟩ => ⟨b, bs, e, l, mF bs ds _ _ (fun c d bs' q2 => w _ _ q2) q1⟩) q.2⟩, pe_weak (pe_callG G hr hg hm hk hb .nil pass0 (pa_cons hv ha.run he) hdb he hpl) ?_⟩
  rintro σ H Q ⟨G', loc, ρ, R, q0, q⟩
  refine ⟨.ref (loc i), own_pv R q0, G', loc, ρ, R, ha.mono ρ _ _ (fun ds ρ1 q1 vs H1 R1 g1 d1 => ?_) q⟩
  obtain ⟨b, bs, e1, l1, q1⟩ := q1
  obtain ⟨h1, ws, h2, h3⟩ := R1.own i b bs e1
  refine ⟨Fb G'.fb ρ1 loc, loc i, vs, ds, bs, ws, by rw [List.append_nil], .inr (.inr ⟨i, b, bs, e1, rfl⟩), R1.fbE, h2, h3, d1, l1, mF bs ds _ _ (fun c d bs' q2 v H2 m2 hw d2 _ => ?_) q1⟩
  obtain ⟨ws', w1, w2⟩ := hw
  obtain ⟨R2, g2, s2⟩ := R1.back e1 m2 w1 w2
  exact q2 v H2 R2 (g1.trans g2) (d2.weak s2)
end
end DL

namespace DL
open PySem L2

/-! ### stores -/
section
variable {K : PySem.W.Frag} {G : Fr} {ρ : List Slot} {loc : Nat → Addr} {σ : L2.St} {H : Hp}
theorem set_get {i j : Nat} {a s : Slot} (q : (ρ.set i a)[j]? = some s) : (j = i ∧ s = a ∧ i < ρ.length) ∨ (j ≠ i ∧ ρ[j]? = some s) := by
  by_cases hj : i = j
  · subst hj
    by_cases hl : i < ρ.length
    · rw [List.getElem?_set_self hl] at q
      exact .inl ⟨rfl, (Option.some.inj q).symm, hl⟩
    · rw [List.getElem?_eq_none (by simpa using hl)] at q; cases q
  · rw [List.getElem?_set_ne hj] at q; exact .inr ⟨Ne.symm hj, q⟩
theorem Rw.put {i : Nat} {s : Slot} (hr : ¬ s.hv) {a : Addr} (z : Rw (ρ.set i s) a) : Rw ρ a := Rw.sub (fun j s' hs q => by
  rcases set_get q with ⟨_, q, _⟩ | ⟨_, q⟩
  · rw [q] at hs; exact (hr hs).elim
  · exact q) z
theorem Fb_put {fb : AS} {i : Nat} {s : Slot} (hs : ∀ b ds, s ≠ .own b ds) (a : Addr) (h : Fb fb (ρ.set i s) loc a) (hr : ¬ s.hv := by exact fun z => z) : Fb fb ρ loc a := by
  rcases h with h | z | ⟨j, b, ds, e, l⟩
  · exact .inl h
  · exact .inr (.inl (Rw.put hr z))
  · rcases set_get e with ⟨_, q, _⟩ | ⟨_, q⟩
    · exact (hs _ _ q.symm).elim
    · exact .inr (.inr ⟨j, b, ds, q, l⟩)
/-- the values of their own where a slot is written -/
theorem RawR.put {H' : Hp} {i : Nat} {s : Slot} {v : Option V} (R : RawR K G ρ loc σ H) (hs : ∀ b ds, s ≠ .own b ds) (g : Grow (Fb G.fb ρ loc) (Fb G.fb (ρ.set i s) loc) H H') (k : ∀ a u, Rw ρ a → H a = some u → H' a = some u) (hr : ¬ s.hv := by exact fun z => z) : RawR K G (ρ.set i s) loc (σ.set i v) H' :=
  R.step (fun j s' hs' q => by
    rcases set_get q with ⟨_, q, _⟩ | ⟨hj, q⟩
    · rw [q] at hs'; exact (hr hs').elim
    · exact ⟨q, by rw [List.getElem?_set_ne (Ne.symm hj)]⟩) (fun j b es q => by
    rcases set_get q with ⟨_, q, _⟩ | ⟨_, q⟩
    · exact (hs _ _ q.symm).elim
    · exact .inl ⟨b, es, q, rfl⟩) g k fun _ _ a b => ⟨a, b⟩
/-- data in a slot -/
theorem Rep.put (R : Rep K G ρ loc σ H) (i : Nat) {v : V} {d : D} (dx : Dx K H (Fb G.fb ρ loc) v d) : Rep K G (ρ.set i (.dat d)) loc (σ.set i (some v)) H := by
  have sub : ∀ a, Fb G.fb (ρ.set i (.dat d)) loc a → Fb G.fb ρ loc a := fun a => Fb_put (by intro _ _ z; cases z) a
  refine ⟨by rw [List.length_set, List.length_set]; exact R.len, fun j e q => ?_, fun j b es q => ?_, fun j l b c es fs q q' z => ?_, fun j es q => ?_, fun j es q => ?_, R.ext, R.fbS, R.bwS, R.raw.put (by intro _ _ z; cases z) (fun b o e n => ⟨e, fun z => n (sub b z)⟩) fun _ _ _ e => e⟩
  · rcases set_get q with ⟨rfl, q', hl⟩ | ⟨hj, q'⟩
    · cases q'
      exact ⟨v, List.getElem?_set_self (by rw [R.len]; exact hl), dx.weak sub⟩
    · obtain ⟨u, a, b⟩ := R.dat j e q'
      exact ⟨u, by rw [List.getElem?_set_ne (Ne.symm hj)]; exact a, b.weak sub⟩
  · rcases set_get q with ⟨_, q', _⟩ | ⟨hj, q'⟩
    · cases q'
    · obtain ⟨a, ws, b, c⟩ := R.own j b es q'
      exact ⟨by rw [List.getElem?_set_ne (Ne.symm hj)]; exact a, ws, b, c.weak sub⟩
  · rcases set_get q with ⟨_, q1, _⟩ | ⟨_, q1⟩
    · cases q1
    · rcases set_get q' with ⟨_, q2, _⟩ | ⟨_, q2⟩
      · cases q2
      · exact R.apart j l b c es fs q1 q2 z
  · rcases set_get q with ⟨_, q1, _⟩ | ⟨_, q1⟩
    · cases q1
    · exact R.brw j es q1
  · rcases set_get q with ⟨_, q1, _⟩ | ⟨_, q1⟩
    · cases q1
    · exact R.new j es q1
theorem put_grow {i : Nat} {d : D} : Grow (Fb G.fb ρ loc) (Fb G.fb (ρ.set i (.dat d)) loc) H H := fun b o e n => ⟨e, fun z => n (Fb_put (by intro _ _ z; cases z) b z)⟩
def lset (loc : Nat → Addr) (i : Nat) (p : Addr) : Nat → Addr := fun j => if j = i then p else loc j
theorem lset_self {i : Nat} {p : Addr} : lset loc i p i = p := if_pos rfl
theorem lset_ne {i j : Nat} {p : Addr} (h : j ≠ i) : lset loc i p j = loc j := if_neg h
theorem Fb_putN {p : Addr} {i : Nat} {ds : List D} (a : Addr) (h : Fb G.fb (ρ.set i (.own false ds)) (lset loc i p) a) : Fb (G.plus p).fb ρ loc a := by
  rcases h with h | z | ⟨j, b, es, e, l⟩
  · exact .inl (.inl h)
  · exact .inr (.inl (Rw.put (by exact fun z => z) z))
  · rcases set_get e with ⟨rfl, q, _⟩ | ⟨hj, q⟩
    · rw [lset_self] at l; exact .inl (.inr l.symm)
    · rw [lset_ne hj] at l; exact .inr (.inr ⟨j, b, es, q, l⟩)
/-- a new list in a slot -/
theorem Rep.putN {p : Addr} (R : Rep K (G.plus p) ρ loc σ H) (bs : ∀ b, G.bw b → G.fb b) (h0 : G.H0 p = none) (np : ¬ G.fb p) (i : Nat) {ws : List V} {ds : List D} (hp : H p = some (.lst ws)) (dx : DxAll K H (Fb (G.plus p).fb ρ loc) ws ds) :
    Rep K G (ρ.set i (.own false ds)) (lset loc i p) (σ.set i (some (.ref p))) H := by
  have sub : ∀ a, Fb G.fb (ρ.set i (.own false ds)) (lset loc i p) a → Fb (G.plus p).fb ρ loc a := fun a => Fb_putN a
  have other : ∀ j b es, ρ[j]? = some (Slot.own b es) → loc j ≠ p := fun j b es e z => by
    cases b with
    | false => exact (R.new j es e).2 (.inr z)
    | true => exact np (z ▸ bs _ (R.brw j es e).2)
  refine ⟨by rw [List.length_set, List.length_set]; exact R.len, fun j e q => ?_, fun j b es q => ?_, fun j l b c es fs q q' z => ?_, fun j es q => ?_, fun j es q => ?_, R.ext, fun b e => R.fbS b (.inl e), bs, R.raw.step (fun j s hs q => ?_) (fun j b es q => ?_) (fun b o e n => ⟨e, fun z => n (sub b z)⟩) (fun _ _ _ e => e) fun _ _ a b => ⟨a, fun z => b (.inl z)⟩⟩
  · rcases set_get q with ⟨_, q', _⟩ | ⟨hj, q'⟩
    · cases q'
    · obtain ⟨u, a, b⟩ := R.dat j e q'
      exact ⟨u, by rw [List.getElem?_set_ne (Ne.symm hj)]; exact a, b.weak sub⟩
  · rcases set_get q with ⟨rfl, q', hl⟩ | ⟨hj, q'⟩
    · cases q'
      rw [lset_self]
      exact ⟨List.getElem?_set_self (by rw [R.len]; exact hl), ws, hp, dx.weak sub⟩
    · obtain ⟨a, us, b, c⟩ := R.own j b es q'
      rw [lset_ne hj]
      exact ⟨by rw [List.getElem?_set_ne (Ne.symm hj)]; exact a, us, b, c.weak sub⟩
  · rcases set_get q with ⟨rfl, q1, _⟩ | ⟨hj, q1⟩
    · rcases set_get q' with ⟨rfl, q2, _⟩ | ⟨hl, q2⟩
      · rfl
      · rw [lset_self, lset_ne hl] at z
        exact (other l _ _ q2 z.symm).elim
    · rcases set_get q' with ⟨rfl, q2, _⟩ | ⟨hl, q2⟩
      · rw [lset_self, lset_ne hj] at z
        exact (other j _ _ q1 z).elim
      · rw [lset_ne hj, lset_ne hl] at z
        exact R.apart j l b c es fs q1 q2 z
  · rcases set_get q with ⟨_, q1, _⟩ | ⟨hj, q1⟩
    · cases q1
    · rw [lset_ne hj]; exact R.brw j es q1
  · rcases set_get q with ⟨rfl, q1, _⟩ | ⟨hj, q1⟩
    · rw [lset_self]; exact ⟨h0, np⟩
    · rw [lset_ne hj]
      exact ⟨(R.new j es q1).1, fun z => (R.new j es q1).2 (.inl z)⟩
  · rcases set_get q with ⟨_, q1, _⟩ | ⟨hj, q1⟩
    · rw [q1] at hs; exact hs.elim
    · exact ⟨q1, by rw [List.getElem?_set_ne (Ne.symm hj)]⟩
  · rcases set_get q with ⟨rfl, q1, _⟩ | ⟨hj, q1⟩
    · refine .inr fun a z y => ?_
      rw [lset_self] at y
      rcases (R.raw.here z).2 with z | z
      · exact z.2 (.inr y.symm)
      · exact np (y ▸ bs _ z)
    · exact .inl ⟨b, es, q1, lset_ne hj⟩
end

/-! ### blocks and small statements -/
section
variable {K : PySem.W.Frag} {G : Fr} {ρ ρ' : List Slot} {loc loc' : Nat → Addr} {H H' : Hp}
theorem Lands.on {k : List Slot → Prop} {q : L2.St → Hp → Prop} (h : Lands K G loc ρ H k q) (g : Grow (Fb G.fb ρ loc) (Fb G.fb ρ' loc') H H') : Lands K G loc' ρ' H' k q := fun ρ2 loc2 σ2 H2 R2 g2 q2 => h ρ2 loc2 σ2 H2 R2 (g.trans g2) q2
theorem LandsR.on {k : Bool → D → List Slot → Prop} {q : VK} (h : LandsR K G loc ρ H k q) (g : Grow (Fb G.fb ρ loc) (Fb G.fb ρ' loc') H H') : LandsR K G loc' ρ' H' k q := fun b d ρ2 loc2 σ2 v H2 R2 g2 d2 n2 q2 => h b d ρ2 loc2 σ2 v H2 R2 (g.trans g2) d2 n2 q2
end
def sNext : SMon := fun k ρ => k.nx ρ
def sBreak : SMon := fun k ρ => k.bk ρ
def sCont : SMon := fun k ρ => k.ct ρ
def sNever : SMon := fun _ _ => False
def sSeq (m m' : SMon) : SMon := fun k ρ => m { k with nx := m' k } ρ
def sIf (c : M Bool) (a b : SMon) : SMon := fun k ρ => c ρ fun t ρ1 => if t = true then a k ρ1 else b k ρ1
def sDrop {α : Type} (m : M α) : SMon := fun k ρ => m ρ fun _ ρ1 => k.nx ρ1
def sRet (m : M D) : SMon := fun k ρ => m ρ fun d ρ1 => k.rt false d ρ1
def sRetN (m : M (List D)) : SMon := fun k ρ => m ρ fun ds ρ1 => k.rt true (.list ds) ρ1
def sRet0 : SMon := fun k ρ => k.rt false .none ρ
/-- return of an owned list -/
def sRetOwn (i : Nat) : SMon := fun k ρ => match ρ[i]? with
  | some (.own false ds) => k.rt true (.list ds) (ρ.set i (.dat (.list ds)))
  | some (.dat d) => k.rt false d ρ
  | _ => False
def sSet (i : Nat) (m : M D) : SMon := fun k ρ => m ρ fun d ρ1 => k.nx (ρ1.set i (.dat d))
def sSetN (i : Nat) (m : M (List D)) : SMon := fun k ρ => m ρ fun ds ρ1 => k.nx (ρ1.set i (.own false ds))
theorem smono_if {c : M Bool} {a b : SMon} (hc : Mono c) (ha : SMono a) (hb : SMono b) : SMono (sIf c a b) := fun k k' ρ l q => hc ρ _ _ (fun t ρ1 q1 => by
  cases t with
  | true => rw [if_pos rfl] at q1 ⊢; exact ha _ _ _ l q1
  | false => rw [if_neg Bool.false_ne_true] at q1 ⊢; exact hb _ _ _ l q1) q
theorem smono_seq {a b : SMon} (ha : SMono a) (hb : SMono b) : SMono (sSeq a b) := fun k k' ρ l q => ha { k with nx := b k } { k' with nx := b k' } ρ ⟨fun ρ1 q1 => hb k k' ρ1 l q1, l.rt, l.bk, l.ct⟩ q
section
variable {X : Cx} {st : Stmt} {rest : List Stmt} {t u : SMon} {e : Expr} {m : M D} {ms : M (List D)} {pos : Pos}
theorem bm_nil : BM X [] sNext := ⟨fun _ _ _ l q => l.nx _ q, pss_weak pss_nil fun E σ H ⟨G, loc, ρ, k, R, q, l, _⟩ => l _ _ _ _ R Grow.refl q⟩
theorem bm_cons (h1 : SM X st t) (h2 : BM X rest u) : BM X (st :: rest) (sSeq t u) := by
  refine ⟨smono_seq h1.mono h2.mono, pss_weak (pss_cons h1.run h2.run) ?_⟩
  rintro E σ H ⟨G, loc, ρ, k, R, q, l1, l2, l3, l4⟩
  exact ⟨G, loc, ρ, { k with nx := u k }, R, q, fun ρ' loc' σ' H' R' g q' => ⟨G, loc', ρ', k, R', q', l1.on g, l2.on g, l3.on g, l4.on g⟩, l2, l3, l4⟩
theorem bm_one (h : SM X st t) : BM X [st] t := ⟨h.mono, pss_one h.run⟩
theorem sm_pass : SM X (.Pass pos) sNext := ⟨fun _ _ _ l q => l.nx _ q, ps_weak ps_pass fun E σ H ⟨G, loc, ρ, k, R, q, l, _⟩ => l _ _ _ _ R Grow.refl q⟩
theorem sm_doc {x j pos'} : SM X (.Expr (.Constant (.str x) j pos) pos') sNext := ⟨fun _ _ _ l q => l.nx _ q, ps_weak ps_doc fun E σ H ⟨G, loc, ρ, k, R, q, l, _⟩ => l _ _ _ _ R Grow.refl q⟩
theorem sm_break : SM X (.Break pos) sBreak := ⟨fun _ _ _ l q => l.bk _ q, ps_weak ps_break fun E σ H ⟨G, loc, ρ, k, R, q, _, _, l, _⟩ => l _ _ _ _ R Grow.refl q⟩
theorem sm_cont : SM X (.Continue pos) sCont := ⟨fun _ _ _ l q => l.ct _ q, ps_weak ps_continue fun E σ H ⟨G, loc, ρ, k, R, q, _, _, _, l⟩ => l _ _ _ _ R Grow.refl q⟩
theorem sm_never : SM X st sNever := ⟨fun _ _ _ _ q => q.elim, ps_weak ps_never fun E σ H ⟨G, loc, ρ, k, R, q, _⟩ => q.elim⟩
theorem bm_never {sts : List Stmt} : BM X sts sNever := ⟨fun _ _ _ _ q => q.elim, pss_weak pss_never fun E σ H ⟨G, loc, ρ, k, R, q, _⟩ => q.elim⟩
theorem sm_if {c : Expr} {a b : List Stmt} {tc : M Bool} (hc : TM X c tc) (ha : BM X a t) (hb : BM X b u) : SM X (.If c a b pos) (sIf tc t u) := by
  refine ⟨smono_if hc.mono ha.mono hb.mono, ps_weak (ps_if hc.run ha.run hb.run) ?_⟩
  rintro E σ H ⟨G, loc, ρ, k, R, q, l1, l2, l3, l4⟩
  refine ⟨G, loc, ρ, R, hc.mono ρ _ _ (fun b ρ1 q1 H1 R1 g1 => ?_) q⟩
  cases b with
  | true =>
    rw [if_pos rfl] at q1 ⊢
    exact ⟨G, loc, ρ1, k, R1, q1, l1.on g1, l2.on g1, l3.on g1, l4.on g1⟩
  | false =>
    rw [if_neg Bool.false_ne_true] at q1 ⊢
    exact ⟨G, loc, ρ1, k, R1, q1, l1.on g1, l2.on g1, l3.on g1, l4.on g1⟩
theorem sm_drop (h : EM X e m) (hs : swapsWith e none pos.line X.env = pure false := by rfl) : SM X (.Expr e pos) (sDrop m) := by
  refine ⟨fun k k' ρ l q => h.mono ρ _ _ (fun _ ρ1 q1 => l.nx _ q1) q, ps_weak (ps_expr h.run hs) ?_⟩
  rintro E σ H ⟨G, loc, ρ, k, R, q, l1, l2, l3, l4⟩
  exact ⟨G, loc, ρ, R, h.mono ρ _ _ (fun d ρ1 q1 v H1 R1 g1 d1 => l1 _ _ _ _ R1 g1 q1) q⟩
theorem sm_ret (h : EM X e m) : SM X (.Return (some e) pos) (sRet m) := by
  refine ⟨fun k k' ρ l q => h.mono ρ _ _ (fun _ ρ1 q1 => l.rt _ _ _ q1) q, ps_weak (ps_ret h.run) ?_⟩
  rintro E σ H ⟨G, loc, ρ, k, R, q, l1, l2, l3, l4⟩
  exact ⟨G, loc, ρ, R, h.mono ρ _ _ (fun d ρ1 q1 v H1 R1 g1 d1 => l2 false d _ _ _ v _ R1 g1 d1 (fun z => nomatch z) q1) q⟩
theorem sm_retN (h : NM X e ms) : SM X (.Return (some e) pos) (sRetN ms) := by
  refine ⟨fun k k' ρ l q => h.mono ρ _ _ (fun _ ρ1 q1 => l.rt _ _ _ q1) q, ps_weak (ps_ret h.run) ?_⟩
  rintro E σ H ⟨G, loc, ρ, k, R, q, l1, l2, l3, l4⟩
  refine ⟨G, loc, ρ, R, h.mono ρ _ _ (fun ds ρ1 q1 p vs H1 h0 n e1 R1 g1 d1 => ?_) q⟩
  obtain ⟨R2, n2⟩ := R1.unplus R.bwS n
  refine l2 true _ _ _ _ _ _ R2 (g1.weak Fb.plus_sub) (.lst n2 e1 (d1.weak Fb.plus_sub)) (fun _ => ⟨p, vs, ds, rfl, rfl, h0, e1, d1.weak fun b z => ?_⟩) q1
  rcases z with (z | z) | z
  · exact .inl (.inl z)
  · exact .inr z
  · exact .inl (.inr z)
theorem sm_ret0 : SM X (.Return none pos) sRet0 := ⟨fun k k' ρ l q => l.rt _ _ _ q, ps_weak ps_retN fun E σ H ⟨G, loc, ρ, k, R, q, _, l, _⟩ => l false .none _ _ _ _ _ R Grow.refl .non (fun z => nomatch z) q⟩
theorem sm_retOwn (i : Nat) {x : Str} {p : Pos} (h : PE X (.Name x p) (tVar i)) : SM X (.Return (some (.Name x p)) pos) (sRetOwn i) := by
  refine ⟨fun k k' ρ l q => ?_, ps_weak (ps_ret h) ?_⟩
  · unfold sRetOwn at q ⊢
    split at q
    · exact l.rt _ _ _ q
    · exact l.rt _ _ _ q
    · exact q.elim
  · rintro E σ H ⟨G, loc, ρ, k, R, q, l1, l2, l3, l4⟩
    unfold sRetOwn at q
    split at q
    · rename_i ds e
      obtain ⟨R', dx⟩ := R.freeze e
      obtain ⟨h1, ws, h2, h3⟩ := R.own i false ds e
      refine ⟨_, h1, l2 true _ _ _ _ _ _ R' (fun b o e n => ⟨e, fun z => n (Fb_freeze b z)⟩) dx (fun _ => ⟨loc i, ws, ds, rfl, rfl, (R.new i ds e).1, h2, h3.weak fun b z => ?_⟩) q⟩
      rcases z with z | z
      · exact Fb_freeze b z
      · exact .inr (.inr ⟨i, false, ds, e, z.symm⟩)
    · rename_i d e
      obtain ⟨v, h1, h2⟩ := R.dat i d e
      exact ⟨v, h1, l2 false _ _ _ _ _ _ R Grow.refl h2 (fun z => nomatch z) q⟩
    · exact q.elim
theorem sm_set {i : Nat} {x : Str} {pos' : Pos} (hN : X.N.Nodup) (hi : X.N[i]? = some x) (hx : Loc X.env.scope x) (he : EM X e m) (hs : swapsWith e (some (.Name x pos')) pos.line X.env = pure false := by rfl) (hf : X.fn x = true ∨ X.env.scope.names.lookup x = some .local := by first | exact .inl rfl | exact .inr rfl | assumption) :
    SM X (.Assign [.Name x pos'] e pos) (sSet i m) := by
  refine ⟨fun k k' ρ l q => he.mono ρ _ _ (fun _ ρ1 q1 => l.nx _ q1) q, ps_weak (ps_set hN hi hx he.run hs hf) ?_⟩
  rintro E σ H ⟨G, loc, ρ, k, R, q, l1, l2, l3, l4⟩
  exact ⟨G, loc, ρ, R, he.mono ρ _ _ (fun d ρ1 q1 v H1 R1 g1 d1 => l1 _ _ _ _ (R1.put i d1) (g1.trans put_grow) q1) q⟩
theorem sm_setN {i : Nat} {x : Str} {pos' : Pos} (hN : X.N.Nodup) (hi : X.N[i]? = some x) (hx : Loc X.env.scope x) (he : NM X e ms) (hs : swapsWith e (some (.Name x pos')) pos.line X.env = pure false := by rfl) (hf : X.fn x = true ∨ X.env.scope.names.lookup x = some .local := by first | exact .inl rfl | exact .inr rfl | assumption) :
    SM X (.Assign [.Name x pos'] e pos) (sSetN i ms) := by
  refine ⟨fun k k' ρ l q => he.mono ρ _ _ (fun _ ρ1 q1 => l.nx _ q1) q, ps_weak (ps_set hN hi hx he.run hs hf) ?_⟩
  rintro E σ H ⟨G, loc, ρ, k, R, q, l1, l2, l3, l4⟩
  refine ⟨G, loc, ρ, R, he.mono ρ _ _ (fun ds ρ1 q1 p vs H1 h0 n e1 R1 g1 d1 => l1 _ _ _ _ (R1.putN R.bwS h0 n i e1 d1) (g1.weak fun b z => Fb_putN b z) q1) q⟩
end

/-- a frame in which p stays as it stands -/
def Fr.pin (G : Fr) (p : Addr) (o : HO) : Fr := { G with H0 := upd G.H0 p o, fb := fun a => G.fb a ∨ a = p }
section
variable {K : PySem.W.Frag} {G : Fr} {ρ : List Slot} {loc : Nat → Addr} {σ : L2.St} {H : Hp} {p : Addr} {o : HO}
theorem Rep.pin (R : Rep K (G.plus p) ρ loc σ H) (e : H p = some o) : Rep K (G.pin p o) ρ loc σ H := by
  refine ⟨R.len, R.dat, R.own, R.apart, R.brw, fun i ds q => ?_, fun b u q n => ?_, R.fbS, R.bwS, R.raw.step (fun _ _ _ e => ⟨e, rfl⟩) (fun j b ds e => .inl ⟨b, ds, e, rfl⟩) (fun b o e n => ⟨e, n⟩) (fun _ _ _ e => e) fun a z h n => ⟨?_, n⟩⟩
  · obtain ⟨h1, h2⟩ := R.new i ds q
    refine ⟨?_, h2⟩
    show upd G.H0 p o (loc i) = none
    rw [upd_ne fun z => h2 (.inr z)]; exact h1
  · by_cases hb : b = p
    · subst hb
      have q : upd G.H0 b o b = some u := q
      rw [upd_same] at q
      rw [e]; exact q
    · have q : upd G.H0 p o b = some u := q
      rw [upd_ne hb] at q
      exact R.ext b u q n
  · show upd G.H0 p o a = none
    rw [upd_ne fun y => n (.inr y)]; exact h
theorem Rep.unpin (R : Rep K (G.pin p o) ρ loc σ H) (h0 : G.H0 p = none) (nb : ¬ G.bw p) : Rep K (G.plus p) ρ loc σ H ∧ H p = some o := by
  have ne : ∀ b u, G.H0 b = some u → b ≠ p := fun b u e z => by rw [z, h0] at e; cases e
  refine ⟨⟨R.len, R.dat, R.own, R.apart, R.brw, fun i ds q => ?_, fun b u q n => ?_, R.fbS, R.bwS, R.raw.step (fun _ _ _ e => ⟨e, rfl⟩) (fun j b ds e => .inl ⟨b, ds, e, rfl⟩) (fun b o e n => ⟨e, n⟩) (fun _ _ _ e => e) fun a z h n => ⟨?_, n⟩⟩, R.ext p o upd_same nb⟩
  · obtain ⟨h1, h2⟩ := R.new i ds q
    refine ⟨?_, h2⟩
    have h1 : upd G.H0 p o (loc i) = none := h1
    rw [upd_ne fun z => h2 (.inr z)] at h1; exact h1
  · refine R.ext b u ?_ n
    show upd G.H0 p o b = some u
    rw [upd_ne (ne b u q)]; exact q
  · have h : upd G.H0 p o a = none := h
    rw [upd_ne fun y => n (.inr y)] at h; exact h
end

/-! ### a, b = e1, e2 -/
inductive Put where
  | d (x : D) | n (xs : List D)
def Put.slot : Put → Slot
  | .d x => .dat x
  | .n xs => .own false xs
inductive PutsOk (K : PySem.W.Frag) (H : Hp) (F : AS) : Fr → Fr → List V → List Put → Prop
  | nil {G : Fr} : PutsOk K H F G G [] []
  | d {G G' : Fr} {v : V} {vs : List V} {x : D} {us : List Put} : Dx K H F v x → PutsOk K H F G G' vs us → PutsOk K H F G G' (v :: vs) (.d x :: us)
  | n {G G' : Fr} {p : Addr} {ws vs : List V} {xs : List D} {us : List Put} : G.H0 p = none → ¬ G.fb p → H p = some (.lst ws) → DxAll K H F ws xs → PutsOk K H F (G.pin p (.lst ws)) G' vs us → PutsOk K H F G G' (.ref p :: vs) (.n xs :: us)
def TPAof (K : PySem.W.Frag) (m : M (List Put)) : TA := fun σ H Q => ∃ G loc ρ, Rep K G ρ loc σ H ∧ m ρ fun us ρ' =>
  ∀ vs H' G', Rep K G' ρ' loc σ H' → Grow (Fb G.fb ρ loc) (Fb G'.fb ρ' loc) H H' → PutsOk K H' (Fb G'.fb ρ' loc) G G' vs us → Q vs H'
structure APM (X : Cx) (es : List Expr) (m : M (List Put)) : Prop where
  mono : Mono m
  run : PA X es (TPAof X.K m)
def mPD (m : M D) (ms : M (List Put)) : M (List Put) := fun ρ k => m ρ fun d ρ1 => ms ρ1 fun us ρ2 => k (.d d :: us) ρ2
def mPN (m : M (List D)) (ms : M (List Put)) : M (List Put) := fun ρ k => m ρ fun d ρ1 => ms ρ1 fun us ρ2 => k (.n d :: us) ρ2
def setAll : List Nat → List Put → List Slot → List Slot
  | i :: is, u :: us, ρ => (setAll is us ρ).set i u.slot
  | _, _, ρ => ρ
def putAll : List Nat → List V → L2.St → L2.St
  | i :: is, v :: vs, σ => (putAll is vs σ).set i (some v)
  | _, _, σ => σ
def sPar (is : List Nat) (m : M (List Put)) : SMon := fun k ρ => m ρ fun us ρ1 => us.length = is.length ∧ k.nx (setAll is us ρ1)
theorem PutsOk.len {K : PySem.W.Frag} {H : Hp} {F : AS} {G G' : Fr} {vs : List V} {us : List Put} (h : PutsOk K H F G G' vs us) : vs.length = us.length := by
  induction h with
  | nil => rfl
  | d _ _ ih => rw [List.length_cons, List.length_cons, ih]
  | n _ _ _ _ _ ih => rw [List.length_cons, List.length_cons, ih]
theorem PutsOk.same {K : PySem.W.Frag} {H : Hp} {F : AS} {G G' : Fr} {vs : List V} {us : List Put} (h : PutsOk K H F G G' vs us) : (∀ b o, G.H0 b = some o → G'.H0 b = some o) ∧ G'.bw = G.bw := by
  induction h with
  | nil => exact ⟨fun _ _ z => z, rfl⟩
  | d _ _ ih => exact ih
  | n h0 _ _ _ _ ih => exact ⟨fun b o e => ih.1 b o (upd_more h0 b o e), ih.2⟩
theorem PutsOk.rep {K : PySem.W.Frag} {H : Hp} {loc : Nat → Addr} {σ : L2.St} {ρ : List Slot} {F : AS} {G G' : Fr} {vs : List V} {us : List Put} (h : PutsOk K H F G G' vs us) : ∀ (is : List Nat), us.length = is.length → (∀ b, G.bw b → G.fb b) → Rep K G' ρ loc σ H → (∀ b, Fb G'.fb ρ loc b → F b) →
    ∃ loc', Rep K G (setAll is us ρ) loc' (putAll is vs σ) H ∧ ∀ b, Fb G.fb (setAll is us ρ) loc' b → F b := by
  induction h with
  | nil => exact fun is _ _ R s => ⟨loc, by cases is <;> exact R, by cases is <;> exact s⟩
  | d dx r ih =>
    intro is hl hb R s
    cases is with
    | nil => cases hl
    | cons i is =>
      obtain ⟨loc', R', s'⟩ := ih is (Nat.succ.inj hl) hb R s
      exact ⟨loc', R'.put i (dx.weak s'), fun b z => s' b (Fb_put (by intro _ _ z; cases z) b z)⟩
  | n h0 np hp dx r ih =>
    intro is hl hb R s
    cases is with
    | nil => cases hl
    | cons i is =>
      obtain ⟨loc', R', s'⟩ := ih is (Nat.succ.inj hl) (fun b z => .inl (hb b z)) R s
      obtain ⟨R2, _⟩ := R'.unpin h0 fun z => np (hb _ z)
      exact ⟨lset loc' i _, R2.putN hb h0 np i hp (dx.weak s'), fun b z => s' b (Fb_putN b z)⟩
section
variable {X : Cx} {st : Stmt} {e : Expr} {es : List Expr} {m : M D} {ml : M (List D)} {ms : M (List Put)} {pos : Pos}
theorem apm_nil : APM X [] (mPure []) := by
  refine ⟨mono_pure, pa_weak pa_nil ?_⟩
  rintro σ H Q ⟨G, loc, ρ, R, q⟩
  exact q [] H G R Grow.refl .nil
theorem apm_d (h : EM X e m) (g : APM X es ms) (hs : starEach (e :: es) X.env = (false, eval e X.env) :: starEach es X.env := by rfl) : APM X (e :: es) (mPD m ms) := by
  refine ⟨fun ρ k k' w q => h.mono ρ _ _ (fun d ρ1 q1 => g.mono ρ1 _ _ (fun us ρ2 q2 => w _ _ q2) q1) q, pa_weak (pa_cons h.run g.run hs) ?_⟩
  rintro σ H Q ⟨G, loc, ρ, R, q⟩
  refine ⟨G, loc, ρ, R, h.mono ρ _ _ (fun d ρ1 q1 v H1 R1 g1 d1 => ?_) q⟩
  exact ⟨G, loc, ρ1, R1, g.mono ρ1 _ _ (fun us ρ2 q2 vs H2 G2 R2 g2 p2 => q2 (v :: vs) H2 G2 R2 (g1.trans g2) (.d (d1.g g2) p2)) q1⟩
theorem apm_n (h : NM X e ml) (g : APM X es ms) (hs : starEach (e :: es) X.env = (false, eval e X.env) :: starEach es X.env := by rfl) : APM X (e :: es) (mPN ml ms) := by
  refine ⟨fun ρ k k' w q => h.mono ρ _ _ (fun d ρ1 q1 => g.mono ρ1 _ _ (fun us ρ2 q2 => w _ _ q2) q1) q, pa_weak (pa_cons h.run g.run hs) ?_⟩
  rintro σ H Q ⟨G, loc, ρ, R, q⟩
  refine ⟨G, loc, ρ, R, h.mono ρ _ _ (fun d ρ1 q1 p ws H1 h0 np e1 R1 g1 d1 => ?_) q⟩
  refine ⟨G.pin p (.lst ws), loc, ρ1, R1.pin e1, g.mono ρ1 _ _ (fun us ρ2 q2 vs H2 G2 R2 g2 p2 => q2 (.ref p :: vs) H2 G2 R2 (g1.trans g2) (.n h0 np ?_ (d1.g g2) p2)) q1⟩
  refine R2.ext p _ (p2.same.1 p _ upd_same) fun z => ?_
  rw [p2.same.2] at z
  exact np (R.bwS p z)
theorem putAll2 {i j : Nat} (hij : i ≠ j) {v w : V} {σ : L2.St} : (σ.set i (some v)).set j (some w) = putAll [i, j] [v, w] σ := by
  show _ = (σ.set j (some w)).set i (some v)
  rw [List.set_comm _ _ hij]
theorem sm_par_of {is : List Nat} {tp : TS} {ta : TA} (h : PS X st tp) (ha : APM X es ms) (e : ta = TPAof X.K ms) (w : ∀ E σ H, ta σ H (fun vs H1 => vs.length = is.length ∧ E.nx (putAll is vs σ) H1) → tp E σ H) : SM X st (sPar is ms) := by
  subst e
  refine ⟨fun k k' ρ l q => ha.mono ρ _ _ (fun _ ρ1 q1 => ⟨q1.1, l.nx _ q1.2⟩) q, ps_weak h fun E σ H => ?_⟩
  rintro ⟨G, loc, ρ, k, R, q, l1, l2, l3, l4⟩
  refine w E σ H ⟨G, loc, ρ, R, ha.mono ρ _ _ (fun us ρ1 q1 vs H1 G1 R1 g1 p1 => ⟨p1.len.trans q1.1, ?_⟩) q⟩
  obtain ⟨loc', R', s'⟩ := p1.rep is q1.1 R.bwS R1 fun b z => z
  exact l1 _ _ _ _ R' (g1.weak s') q1.2
theorem two_of {vs : List V} (h : vs.length = 2) : ∃ v w, vs = [v, w] := by
  match vs, h with
  | [v, w], _ => exact ⟨v, w, rfl⟩
theorem three_of {vs : List V} (h : vs.length = 3) : ∃ v w u, vs = [v, w, u] := by
  match vs, h with
  | [v, w, u], _ => exact ⟨v, w, u, rfl⟩
theorem sm_par {i j : Nat} {x y : Str} {a b : Expr} {px py pt : Pos} {kt k2 pt2} (hc : X.calm = true) (hN : X.N.Nodup) (hi : X.N[i]? = some x) (hj : X.N[j]? = some y) (hij : i ≠ j)
    (hx : X.env.scope.names.lookup x = some .local) (hy : X.env.scope.names.lookup y = some .local) (ha : APM X [a, b] ms)
    (hw : swappedStores [.Tuple [.Name x px, .Name y py] kt pt] (.Tuple [a, b] k2 pt2) X.env = pure (some [x, y]))
    (hs : swapsWithSole [.Tuple [.Name x px, .Name y py] kt pt] (.Tuple [a, b] k2 pt2) pos.line X.env = pure false := by rfl) :
    SM X (.Assign [.Tuple [.Name x px, .Name y py] kt pt] (.Tuple [a, b] k2 pt2) pos) (sPar [i, j] ms) := by
  refine sm_par_of (ps_par hc hN hi hj hij hx hy ha.run hw hs) ha rfl fun E σ H h => ?_
  obtain ⟨G, loc, ρ, R, q⟩ := h
  refine ⟨G, loc, ρ, R, ha.mono ρ _ _ (fun us ρ1 q1 vs H1 G1 R1 g1 p1 => ?_) q⟩
  obtain ⟨l, q2⟩ := q1 vs H1 G1 R1 g1 p1
  obtain ⟨v, w, rfl⟩ := two_of l
  exact ⟨v, w, rfl, by rw [putAll2 hij]; exact q2⟩
end
end DL

namespace DL
open PySem L2

/-! ### targets -/
abbrev GMn := D → List Slot → (List Slot → Prop) → Prop
abbrev GMs := List D → List Slot → (List Slot → Prop) → Prop
def TGof (K : PySem.W.Frag) (vs : List Nat) (g : GMn) : TG := fun v σ H Q => ∃ G loc ρ d, Rep K G ρ loc σ H ∧ Dx K H (Fb G.fb ρ loc) v d ∧ g d ρ fun ρ' =>
  ∀ σ' H', Rep K G ρ' loc σ' H' → Grow (Fb G.fb ρ loc) (Fb G.fb ρ' loc) H H' → wipe σ' vs = wipe σ vs → Q σ' H'
def TGsof (K : PySem.W.Frag) (vs : List Nat) (g : GMs) : TGs := fun us σ H Q => ∃ G loc ρ ds, Rep K G ρ loc σ H ∧ DxAll K H (Fb G.fb ρ loc) us ds ∧ g ds ρ fun ρ' =>
  ∀ σ' H', Rep K G ρ' loc σ' H' → Grow (Fb G.fb ρ loc) (Fb G.fb ρ' loc) H H' → wipe σ' vs = wipe σ vs → Q σ' H'
structure GM (X : Cx) (vs : List Nat) (tg : Expr) (g : GMn) : Prop where
  mono : ∀ d ρ (k k' : List Slot → Prop), (∀ ρ', k ρ' → k' ρ') → g d ρ k → g d ρ k'
  run : PG X tg (TGof X.K vs g)
structure GsM (X : Cx) (vs : List Nat) (tgs : List Expr) (g : GMs) : Prop where
  mono : ∀ ds ρ (k k' : List Slot → Prop), (∀ ρ', k ρ' → k' ρ') → g ds ρ k → g ds ρ k'
  run : PGs X tgs (TGsof X.K vs g)
theorem pg_weak {X : Cx} {e : Expr} {t t' : TG} (h : PG X e t) (w : ∀ v σ H Q, t' v σ H Q → t v σ H Q) : PG X e t' := ⟨fun pins s σ H v u Q I r q => h.run pins s σ H v u Q I r (w _ _ _ _ q)⟩
theorem pgs_weak {X : Cx} {e : List Expr} {t t' : TGs} (h : PGs X e t) (w : ∀ v σ H Q, t' v σ H Q → t v σ H Q) : PGs X e t' := ⟨fun pins s σ H v u Q I r q => h.run pins s σ H v u Q I r (w _ _ _ _ q)⟩
theorem wipe_set {x : Option V} {i : Nat} : ∀ {vs : List Nat} {σ : L2.St}, i ∈ vs → wipe (σ.set i x) vs = wipe σ vs
  | v :: vs, σ, h => by
    by_cases hv : i ∈ vs
    · unfold wipe; rw [wipe_set hv]
    · have e : i = v := by
        rcases List.mem_cons.mp h with e | e
        · exact e
        · exact (hv e).elim
      subst e
      have comm : ∀ (us : List Nat), i ∉ us → wipe (σ.set i x) us = (wipe σ us).set i x := fun us hu => by
        induction us with
        | nil => rfl
        | cons u us ih =>
          have h1 : u ≠ i := fun e => hu (by rw [e]; exact List.mem_cons_self)
          have h2 : i ∉ us := fun m => hu (List.mem_cons_of_mem _ m)
          unfold wipe
          rw [ih h2, List.set_comm _ _ (Ne.symm h1)]
      unfold wipe
      rw [comm vs hv, List.set_set]
def gVar (i : Nat) : GMn := fun d ρ k => k (ρ.set i (.dat d))
def gTupD (n : Nat) (g : GMs) : GMn := fun d ρ k => match d with
  | .tuple ds => ds.length = n ∧ g ds ρ k
  | _ => False
def gNilD : GMs := fun ds ρ k => match ds with
  | [] => k ρ
  | _ => False
def gConsD (g : GMn) (gs : GMs) : GMs := fun ds ρ k => match ds with
  | d :: r => g d ρ fun ρ1 => gs r ρ1 k
  | [] => False
/-- with what a slot owns -/
def withOwn (ρ : List Slot) (j : Nat) (f : Bool → List D → Prop) : Prop := match ρ[j]? with
  | some (.own b bs) => f b bs
  | _ => False
theorem withOwn.mono {ρ : List Slot} {j : Nat} {f g : Bool → List D → Prop} (h : withOwn ρ j f) (w : ∀ b bs, f b bs → g b bs) : withOwn ρ j g := by
  unfold withOwn at h ⊢
  split at h
  · exact w _ _ h
  · exact h.elim
theorem withOwn.get {ρ : List Slot} {j : Nat} {f : Bool → List D → Prop} (h : withOwn ρ j f) : ∃ b bs, ρ[j]? = some (.own b bs) ∧ f b bs := by
  unfold withOwn at h
  split at h
  · exact ⟨_, _, by assumption, h⟩
  · exact h.elim
def gSubD (j : Nat) (mi : M D) : GMn := fun d ρ k => withOwn ρ j fun _ _ => mi ρ fun e ρ1 => withOwn ρ1 j fun b bs => match e with
  | .int i => ∃ n, ixN bs.length i = some n ∧ k (ρ1.set j (.own b (bs.set n d)))
  | _ => False
section
variable {K : PySem.W.Frag} {G : Fr} {ρ : List Slot} {loc : Nat → Addr} {σ : L2.St} {H : Hp}
/-- an owned list rewritten -/
theorem Rep.wr (R : Rep K G ρ loc σ H) {i : Nat} {b : Bool} {bs bs' : List D} {ws : List V} (e : ρ[i]? = some (Slot.own b bs)) (hb : DxAll K H (Fb G.fb ρ loc) ws bs') :
    Rep K G (ρ.set i (.own b bs')) loc σ (upd H (loc i) (.lst ws)) ∧ Grow (Fb G.fb ρ loc) (Fb G.fb (ρ.set i (.own b bs')) loc) H (upd H (loc i) (.lst ws)) := by
  have g : Grow (Fb G.fb ρ loc) (Fb G.fb ρ loc) H (upd H (loc i) (.lst ws)) := fun c o q n => ⟨by rw [upd_ne fun z => n (.inr (.inr ⟨i, b, bs, e, z.symm⟩))]; exact q, n⟩
  obtain ⟨a1, a2, _⟩ := R.back e (fun c o n q => by rw [upd_ne n]; exact q) upd_same (hb.g g)
  exact ⟨a1, a2⟩
end
section
variable {X : Cx} {vs : List Nat} {pos : Pos} {e : Expr} {es : List Expr} {g : GMn} {gs : GMs}
theorem gm_name {i : Nat} {x : Str} (hN : X.N.Nodup) (hi : X.N[i]? = some x) (hx : Loc X.env.scope x) (hv : i ∈ vs) (hf : X.fn x = true ∨ X.env.scope.names.lookup x = some .local := by first | exact .inl rfl | exact .inr rfl | assumption) : GM X vs (.Name x pos) (gVar i) := by
  refine ⟨fun _ _ _ _ w q => w _ q, pg_weak (pg_name hN hi hx hf) ?_⟩
  rintro v σ H Q ⟨G, loc, ρ, d, R, dx, q⟩
  exact q _ H (R.put i dx) put_grow (wipe_set hv)
theorem gsm_nil : GsM X vs [] gNilD := by
  refine ⟨fun ds ρ k k' w q => ?_, pgs_weak pgs_nil ?_⟩
  · cases ds with
    | nil => exact w _ q
    | cons d ds => exact q.elim
  · rintro us σ H Q ⟨G, loc, ρ, ds, R, dx, q⟩
    cases ds with
    | nil => cases dx; exact ⟨rfl, q _ H R Grow.refl rfl⟩
    | cons d ds => exact q.elim
theorem gsm_cons (h : GM X vs e g) (h2 : GsM X vs es gs) (hs : (assignEach (e :: es) X.env).map (·.2) = assign e X.env :: (assignEach es X.env).map (·.2) := by rfl) : GsM X vs (e :: es) (gConsD g gs) := by
  refine ⟨fun ds ρ k k' w q => ?_, pgs_weak (pgs_cons h.run h2.run hs) ?_⟩
  · cases ds with
    | nil => exact q.elim
    | cons d ds => exact h.mono d ρ _ _ (fun ρ1 q1 => h2.mono ds ρ1 _ _ w q1) q
  · rintro us σ H Q ⟨G, loc, ρ, ds, R, dx, q⟩
    cases ds with
    | nil => exact q.elim
    | cons d ds =>
      cases dx with
      | cons dv dr =>
        refine ⟨_, _, rfl, G, loc, ρ, d, R, dv, h.mono d ρ _ _ (fun ρ1 q1 σ1 H1 R1 g1 w1 => ?_) q⟩
        exact ⟨G, loc, ρ1, ds, R1, dr.g g1, h2.mono ds ρ1 _ _ (fun ρ2 q2 σ2 H2 R2 g2 w2 => q2 σ2 H2 R2 (g1.trans g2) (w2.trans w1)) q1⟩
theorem gm_tup {k n : Nat} (hc : X.calm = true) (h : GsM X vs es gs) (hn : (assignEach es X.env).length = n := by rfl) (hst : (assignEach es X.env).findIdx? (·.1) = none := by rfl) : GM X vs (.Tuple es k pos) (gTupD n gs) := by
  refine ⟨fun d ρ k k' w q => ?_, pg_weak (pg_tup hc h.run hn hst) ?_⟩
  · cases d <;> first | exact q.elim | exact ⟨q.1, h.mono _ ρ _ _ w q.2⟩
  · rintro v σ H Q ⟨G, loc, ρ, d, R, dx, q⟩
    cases d <;> first | exact q.elim | skip
    obtain ⟨a, xs, rfl, e1, da⟩ := dx.sqt
    exact ⟨a, xs, rfl, e1, da.length.trans q.1, G, loc, ρ, _, R, da, q.2⟩
theorem gm_sub {j : Nat} {x : Str} {p : Pos} {i : Expr} {mi : M D} (hv : PE X (.Name x p) (tVar j)) (hi : EM X i mi)
    (ha : ∀ v, assign (.Subscript (.Name x p) i pos) X.env v = (do
      let ov ← holding [v] (eval (.Name x p) X.env)
      let iv ← holding [v, ov] (eval i X.env)
      standAt pos
      holding [v, ov, iv] (setItem ov iv v)
      release [v, ov, iv] []) := by intro _; rfl) : GM X vs (.Subscript (.Name x p) i pos) (gSubD j mi) := by
  refine ⟨fun d ρ k k' w q => q.mono fun _ _ q => hi.mono ρ _ _ (fun e ρ1 q1 => q1.mono fun b bs q2 => by
      cases e <;> first | exact q2.elim | (obtain ⟨n, q3, q4⟩ := q2; exact ⟨n, q3, w _ q4⟩)) q, pg_weak (pg_sub hv hi.run set_list ha) ?_⟩
  · rintro v σ H Q ⟨G, loc, ρ, d, R, dx, q⟩
    obtain ⟨b, bs, e0, q⟩ := q.get
    refine ⟨_, (R.own j b bs e0).1, G, loc, ρ, R, hi.mono ρ _ _ (fun e ρ1 q1 iv H1 R1 g1 d1 => ?_) q⟩
    obtain ⟨c, cs, e1, q1⟩ := q1.get
    cases e <;> first | exact q1.elim | skip
    cases d1
    obtain ⟨n, q3, q4⟩ := q1
    obtain ⟨h1, ws, h2, h3⟩ := R1.own j c cs e1
    obtain ⟨R2, g2⟩ := R1.wr e1 (h3.set n (dx.g g1))
    exact ⟨loc j, ws, _, n, rfl, rfl, h2, by rw [h3.length]; exact q3, q4 σ _ R2 (g1.trans g2) rfl⟩
/-- target = value -/
def sAsg (m : M D) (g : GMn) : SMon := fun k ρ => m ρ fun d ρ1 => g d ρ1 k.nx
theorem sm_asg {tg : Expr} {m : M D} (vs : List Nat) (he : EM X e m) (hg : GM X vs tg g) (hs : swapsWithSole [tg] e pos.line X.env = pure false := by rfl) (hw : swappedStores [tg] e X.env = pure none := by rfl)
    (h1 : (assignEach [tg] X.env).map (·.2) = [assign tg X.env] := by rfl) : SM X (.Assign [tg] e pos) (sAsg m g) := by
  refine ⟨fun k k' ρ l q => he.mono ρ _ _ (fun d ρ1 q1 => hg.mono _ _ _ _ l.nx q1) q, ps_weak (ps_asg he.run hg.run hs hw h1) ?_⟩
  rintro E σ H ⟨G, loc, ρ, k, R, q, l1, l2, l3, l4⟩
  refine ⟨G, loc, ρ, R, he.mono ρ _ _ (fun d ρ1 q1 v H1 R1 g1 d1 => ?_) q⟩
  exact ⟨G, loc, ρ1, d, R1, d1, hg.mono _ _ _ _ (fun ρ2 q2 σ2 H2 R2 g2 _ => l1 _ _ _ _ R2 (g1.trans g2) q2) q1⟩
end

/-! ### three at once; name op= e -/
section
variable {X : Cx} {pos : Pos} {ms : M (List Put)}
theorem putAll3 {i j l : Nat} (hij : i ≠ j) (hil : i ≠ l) (hjl : j ≠ l) {v w u : V} {σ : L2.St} : ((σ.set i (some v)).set j (some w)).set l (some u) = putAll [i, j, l] [v, w, u] σ := by
  show _ = ((σ.set l (some u)).set j (some w)).set i (some v)
  rw [List.set_comm _ _ hij, List.set_comm _ _ hil, List.set_comm _ _ hjl]
theorem sm_par3 {i j l : Nat} {x y z : Str} {a b c : Expr} {px py pz pt : Pos} {kt k2 pt2} (hc : X.calm = true) (hN : X.N.Nodup) (hi : X.N[i]? = some x) (hj : X.N[j]? = some y) (hl : X.N[l]? = some z) (hij : i ≠ j) (hil : i ≠ l) (hjl : j ≠ l)
    (hx : X.env.scope.names.lookup x = some .local) (hy : X.env.scope.names.lookup y = some .local) (hz : X.env.scope.names.lookup z = some .local) (ha : APM X [a, b, c] ms)
    (hw : swappedStores [.Tuple [.Name x px, .Name y py, .Name z pz] kt pt] (.Tuple [a, b, c] k2 pt2) X.env = pure (some [x, y, z]))
    (hs : swapsWithSole [.Tuple [.Name x px, .Name y py, .Name z pz] kt pt] (.Tuple [a, b, c] k2 pt2) pos.line X.env = pure false := by rfl) :
    SM X (.Assign [.Tuple [.Name x px, .Name y py, .Name z pz] kt pt] (.Tuple [a, b, c] k2 pt2) pos) (sPar [i, j, l] ms) := by
  refine sm_par_of (ps_par3 hc hN hi hj hl hij hil hjl hx hy hz ha.run hw hs) ha rfl fun E σ H h => ?_
  obtain ⟨G, loc, ρ, R, q⟩ := h
  refine ⟨G, loc, ρ, R, ha.mono ρ _ _ (fun us ρ1 q1 vs H1 G1 R1 g1 p1 => ?_) q⟩
  obtain ⟨l, q2⟩ := q1 vs H1 G1 R1 g1 p1
  obtain ⟨v, w, u, rfl⟩ := three_of l
  exact ⟨v, w, u, rfl, by rw [putAll3 hij hil hjl]; exact q2⟩
def sAug (i : Nat) (p : P2) (m : M D) : SMon := fun k ρ => match ρ[i]? with
  | some (.dat d) => m ρ fun e ρ1 => p d e fun r => k.nx (ρ1.set i (.dat r))
  | _ => False
theorem sm_aug {i : Nat} {x : Str} {e : Expr} {m : M D} {op : Operator} {r : TIp} {p : P2} {pos' : Pos} (hN : X.N.Nodup) (hi : X.N[i]? = some x) (hx : Loc X.env.scope x) (he : EM X e m) (ho : PIp X op r) (hp : Prim2 X.K r p) (mp : ∀ a b, Pm1 (p a b)) (hf : X.fn x = true ∨ X.env.scope.names.lookup x = some .local := by first | exact .inl rfl | exact .inr rfl | assumption) :
    SM X (.AugAssign (.Name x pos') op e pos) (sAug i p m) := by
  refine ⟨fun k k' ρ l q => ?_, ps_weak (ps_aug hN hi hx he.run ho hf) ?_⟩
  · unfold sAug at q ⊢
    split at q
    · exact he.mono ρ _ _ (fun e ρ1 q1 => mp _ _ _ _ (fun r q2 => l.nx _ q2) q1) q
    · exact q.elim
  · rintro E σ H ⟨G, loc, ρ, k, R, q, l1, l2, l3, l4⟩
    unfold sAug at q
    split at q
    · rename_i d e0
      obtain ⟨v, h1, h2⟩ := R.dat i d e0
      refine ⟨v, h1, G, loc, ρ, R, he.mono ρ _ _ (fun e ρ1 q1 u H1 R1 g1 d1 => ?_) q⟩
      refine hp (Fb G.fb ρ1 loc) H1 v u d e _ R1.fbE (h2.g g1) d1 (mp _ _ _ _ (fun r q2 w H2 m2 d2 => ?_) q1)
      exact l1 _ _ _ _ ((R1.more m2).put i d2) ((g1.trans (more_grow m2)).trans put_grow) q2
    · exact q.elim
/-- //= of ints -/
theorem ipo_fdiv : PIp X .FloorDiv (rI CDivW fun i j => .int (i / j)) := by
  intro pins s σ H x y v u Q I r1 r2 h
  exact iop_fdivW pins s σ H x y v u Q I r1 r2 h
end

/-! ### methods of an owned list -/
def mAppend (i : Nat) (m : M D) : M D := fun ρ k => withOwn ρ i fun _ _ => m ρ fun d ρ1 => withOwn ρ1 i fun b bs => bs.length < sizeLine ∧ k .none (ρ1.set i (.own b (bs ++ [d])))
def mPop (i : Nat) : M D := fun ρ k => withOwn ρ i fun b bs => ∃ d, bs[bs.length - 1]? = some d ∧ k d (ρ.set i (.own b bs.dropLast))
def mPopAt (i : Nat) (m : M D) : M D := fun ρ k => withOwn ρ i fun _ _ => m ρ fun e ρ1 => withOwn ρ1 i fun b bs => match e with
  | .int j => -(2 ^ 63) ≤ j ∧ j < 2 ^ 63 ∧ ∃ n d, seqIndex? j bs.length = some n ∧ bs[n]? = some d ∧ k d (ρ1.set i (.own b (bs.eraseIdx n)))
  | _ => False
def mClear (i : Nat) : M D := fun ρ k => withOwn ρ i fun b _ => k .none (ρ.set i (.own b []))
def mReverse (i : Nat) : M D := fun ρ k => withOwn ρ i fun b bs => k .none (ρ.set i (.own b bs.reverse))
theorem DxAll.dropLast {K : PySem.W.Frag} {H : Hp} {F : AS} {vs : List V} {ds : List D} (h : DxAll K H F vs ds) : DxAll K H F vs.dropLast ds.dropLast := by
  rw [List.dropLast_eq_take, List.dropLast_eq_take, h.length]; exact h.take _
section
variable {X : Cx} {i : Nat} {x : Str} {p apos cpos : Pos} {e : Expr} {m : M D}
theorem em_append (hv : PE X (.Name x p) (tVar i)) (he : EM X e m)
    (hbase : attributeBase (.Name x p) "append" X.env (eval (.Name x p) X.env) = eval (.Name x p) X.env := by rfl)
    (hfew : ((backTo cpos (starEach [e] X.env)).all (fun x => !x.1) && (backToKw cpos (keywordEach [] X.env)).all (fun x => x.1.isSome)
      && decide ([e].length + ([] : List Keyword).length + (if ([] : List Keyword).isEmpty then 0 else 1) < 30)) = true := by rfl)
    (hline : (apos.endLine == cpos.line) = true := by rfl) (hs : starEach [e] X.env = (false, eval e X.env) :: starEach [] X.env := by rfl) (hplain : (backTo cpos (starEach [] X.env)).any (·.1) = false := by rfl) :
    EM X (.Call (.Attribute (.Name x p) "append" apos) [e] [] cpos) (mAppend i m) := by
  refine ⟨fun ρ k k' w q => q.mono fun _ _ q => he.mono ρ _ _ (fun d ρ1 q1 => q1.mono fun b bs q2 => ⟨q2.1, w _ _ q2.2⟩) q, pe_weak (pe_bm PySem.F.plainAttrs_list PySem.F.slot_list_append PySem.F.type_list_append mt_append hv (pa_cons he.run pa_nil hs) hbase hfew hline hs hplain) ?_⟩
  rintro σ H Q ⟨G, loc, ρ, R, q⟩
  obtain ⟨b, bs, e0, q⟩ := q.get
  obtain ⟨h1, ws, h2, h3⟩ := R.own i b bs e0
  refine ⟨_, h1, .inl ⟨rfl, ws, .inl (.inl h2)⟩, G, loc, ρ, R, he.mono ρ _ _ (fun d ρ1 q1 v H1 R1 g1 d1 => ?_) q⟩
  obtain ⟨c, cs, e1, q1⟩ := q1.get
  obtain ⟨k1, us, k2, k3⟩ := R1.own i c cs e1
  obtain ⟨R2, g2⟩ := R1.wr e1 (k3.append (.cons d1 .nil))
  exact ⟨loc i, us, v, rfl, rfl, k2, by rw [k3.length]; exact q1.1, q1.2 _ _ R2 (g1.trans g2) .non⟩
theorem em_pop (hv : PE X (.Name x p) (tVar i))
    (hbase : attributeBase (.Name x p) "pop" X.env (eval (.Name x p) X.env) = eval (.Name x p) X.env := by rfl) (hline : (apos.endLine == cpos.line) = true := by rfl) :
    EM X (.Call (.Attribute (.Name x p) "pop" apos) [] [] cpos) (mPop i) := by
  refine ⟨fun ρ k k' w q => q.mono fun b bs ⟨d, h, q⟩ => ⟨d, h, w _ _ q⟩, pe_weak (pe_bm0 PySem.F.plainAttrs_list PySem.F.slot_list_pop PySem.F.type_list_pop mt_pop hv hbase hline) ?_⟩
  rintro σ H Q ⟨G, loc, ρ, R, q⟩
  obtain ⟨b, bs, e0, d, hd, q⟩ := q.get
  obtain ⟨h1, ws, h2, h3⟩ := R.own i b bs e0
  obtain ⟨v, hv, dv⟩ := h3.get hd
  obtain ⟨R2, g2⟩ := R.wr e0 h3.dropLast
  exact ⟨_, h1, .inl ⟨rfl, ws, .inl (.inl h2)⟩, loc i, ws, v, rfl, rfl, h2, by rw [h3.length]; exact hv, q _ _ R2 g2 (dv.g g2)⟩
theorem em_popAt (hv : PE X (.Name x p) (tVar i)) (he : EM X e m)
    (hbase : attributeBase (.Name x p) "pop" X.env (eval (.Name x p) X.env) = eval (.Name x p) X.env := by rfl)
    (hfew : ((backTo cpos (starEach [e] X.env)).all (fun x => !x.1) && (backToKw cpos (keywordEach [] X.env)).all (fun x => x.1.isSome)
      && decide ([e].length + ([] : List Keyword).length + (if ([] : List Keyword).isEmpty then 0 else 1) < 30)) = true := by rfl)
    (hline : (apos.endLine == cpos.line) = true := by rfl) (hs : starEach [e] X.env = (false, eval e X.env) :: starEach [] X.env := by rfl) (hplain : (backTo cpos (starEach [] X.env)).any (·.1) = false := by rfl) :
    EM X (.Call (.Attribute (.Name x p) "pop" apos) [e] [] cpos) (mPopAt i m) := by
  refine ⟨fun ρ k k' w q => q.mono fun _ _ q => he.mono ρ _ _ (fun d ρ1 q1 => q1.mono fun b bs q2 => by
      cases d <;> first | exact q2.elim | (obtain ⟨a1, a2, n, d, a3, a4, a5⟩ := q2; exact ⟨a1, a2, n, d, a3, a4, w _ _ a5⟩)) q, pe_weak (pe_bm PySem.F.plainAttrs_list PySem.F.slot_list_pop PySem.F.type_list_pop mt_popAt hv (pa_cons he.run pa_nil hs) hbase hfew hline hs hplain) ?_⟩
  · rintro σ H Q ⟨G, loc, ρ, R, q⟩
    obtain ⟨b, bs, e0, q⟩ := q.get
    obtain ⟨h1, ws, h2, h3⟩ := R.own i b bs e0
    refine ⟨_, h1, .inl ⟨rfl, ws, .inl (.inl h2)⟩, G, loc, ρ, R, he.mono ρ _ _ (fun d ρ1 q1 v H1 R1 g1 d1 => ?_) q⟩
    obtain ⟨c, cs, e1, q1⟩ := q1.get
    cases d <;> first | exact q1.elim | skip
    cases d1
    obtain ⟨a1, a2, n, d, a3, a4, a5⟩ := q1
    obtain ⟨k1, us, k2, k3⟩ := R1.own i c cs e1
    obtain ⟨y, hy, dy⟩ := k3.get a4
    obtain ⟨R2, g2⟩ := R1.wr e1 (k3.eraseIdx n)
    exact ⟨loc i, us, _, n, y, rfl, rfl, k2, a1, a2, by rw [k3.length]; exact a3, hy, a5 _ _ R2 (g1.trans g2) (dy.g g2)⟩
end
end DL

namespace DL
open PySem L2

/-! ### what is walked -/
def Gives (K : PySem.W.Frag) (F : AS) (H : Hp) (J : It) (ds : List D) : Prop := ∀ (i : Nat) (F' : AS) (H' : Hp), Grow F F' H H' → (∀ c, F' c → ∃ o, H' c = some o) →
  (∀ d, ds[i]? = some d → J.go i H' ∧ ∀ x H2, J.yld i H' x H2 → (∀ b o, H' b = some o → H2 b = some o) ∧ Dx K H2 F' x d) ∧ (ds.length ≤ i → J.stop i H')
def TIof (K : PySem.W.Frag) (m : M (List D)) : TI := fun σ H R => ∃ G loc ρ, Rep K G ρ loc σ H ∧ m ρ fun ds ρ' =>
  ∀ J H', Rep K G ρ' loc σ H' → Grow (Fb G.fb ρ loc) (Fb G.fb ρ' loc) H H' → Gives K (Fb G.fb ρ' loc) H' J ds → R J H'
structure IM (X : Cx) (tg e : Expr) (m : M (List D)) : Prop where
  mono : Mono m
  run : PI X tg e (TIof X.K m)
theorem pi_weak {X : Cx} {tg e : Expr} {t t' : TI} (h : PI X tg e t) (w : ∀ σ H Q, t' σ H Q → t σ H Q) : PI X tg e t' := ⟨fun pins s σ H Q I q => h.run pins s σ H Q I (w _ _ _ q)⟩
def mOrI (m m' : M (List D)) : M (List D) := fun ρ k => m ρ k ∨ m' ρ k
theorem IM.or {X : Cx} {tg e : Expr} {m m' : M (List D)} (h : IM X tg e m) (h' : IM X tg e m') : IM X tg e (mOrI m m') := by
  refine ⟨fun ρ k k' w q => q.imp (h.mono ρ k k' w) (h'.mono ρ k k' w), ⟨fun pins s σ H Q I q => ?_⟩⟩
  obtain ⟨G, loc, ρ, R, q⟩ := q
  rcases q with q | q
  · exact h.run.run pins s σ H Q I ⟨G, loc, ρ, R, q⟩
  · exact h'.run.run pins s σ H Q I ⟨G, loc, ρ, R, q⟩
def mItL (m : M D) : M (List D) := fun ρ k => m ρ fun d ρ1 => match d with
  | .list ds => k ds ρ1
  | _ => False
def mItT (m : M D) : M (List D) := fun ρ k => m ρ fun d ρ1 => match d with
  | .tuple ds => k ds ρ1
  | _ => False
def signsD (z : Str) : List D := z.cps.toList.map fun c => .str ⟨#[c]⟩
def mItS (m : M D) : M (List D) := fun ρ k => m ρ fun d ρ1 => match d with
  | .str z => k (signsD z) ρ1
  | _ => False
def rngD (lo : Int) (n : Nat) : List D := (List.range n).map fun i => .int (lo + (i : Nat))
def mRng1 (m : M (List D)) : M (List D) := fun ρ k => m ρ fun ds ρ1 => match ds with
  | [.int j] => -(2 ^ 62) ≤ j ∧ j < 2 ^ 62 ∧ k (rngD 0 j.toNat) ρ1
  | _ => False
def mRng2 (m : M (List D)) : M (List D) := fun ρ k => m ρ fun ds ρ1 => match ds with
  | [.int i, .int j] => (-(2 ^ 62) ≤ i ∧ i < 2 ^ 62 ∧ -(2 ^ 62) ≤ j ∧ j < 2 ^ 62) ∧ k (rngD i (j - i).toNat) ρ1
  | _ => False
def zipD (xs ys : List D) : List D := (xs.zip ys).map fun p => .tuple [p.1, p.2]
def mZip (m : M (List D)) : M (List D) := fun ρ k => m ρ fun ds ρ1 => match ds with
  | [.list xs, .list ys] => k (zipD xs ys) ρ1
  | [.tuple xs, .tuple ys] => k (zipD xs ys) ρ1
  | _ => False
def enumD (xs : List D) : List D := xs.zipIdx.map fun p => .tuple [.int (p.2 : Nat), p.1]
def mEnum (m : M (List D)) : M (List D) := fun ρ k => m ρ fun ds ρ1 => match ds with
  | [.list xs] => k (enumD xs) ρ1
  | _ => False
section
variable {X : Cx} {tg e : Expr} {m : M D} {ms : M (List D)} {p pos tpos : Pos}
theorem gives_list {K : PySem.W.Frag} {F : AS} {H : Hp} {a : Addr} {xs : List V} {ds : List D} (n : ¬ F a) (e : H a = some (.lst xs)) (d : DxAll K H F xs ds) : Gives K F H (Itl K a) ds := by
  intro i F' H' g hf
  obtain ⟨e', n'⟩ := g a _ e n
  have d' := d.g g
  refine ⟨fun y hy => ?_, fun hl => ⟨xs, .inl (.inl e'), by rw [d.length]; exact hl⟩⟩
  obtain ⟨v, h1, h2⟩ := d'.get hy
  refine ⟨⟨xs, v, .inl (.inl e'), h1⟩, fun x H2 hx => ?_⟩
  obtain ⟨rfl, hx⟩ := hx
  have q := hx xs (.inl (.inl e'))
  rw [h1] at q
  cases q
  exact ⟨fun _ _ z => z, h2⟩
theorem gives_tup {K : PySem.W.Frag} {F : AS} {H : Hp} {v : V} {ds : List D} (h : Dx K H F v (.tuple ds)) : ∃ a xs, v = .ref a ∧ SqT K H a xs ∧ Gives K F H (Itt K a) ds := by
  obtain ⟨a, xs, rfl, e, d⟩ := h.sqt
  refine ⟨a, xs, rfl, e, fun i F' H' g hf => ?_⟩
  have h' := h.g g
  have key : ∃ xs', SqT K H' a xs' ∧ DxAll K H' F' xs' ds := by
    obtain ⟨a', xs', z, e', d'⟩ := h'.sqt
    cases z
    exact ⟨xs', e', d'⟩
  obtain ⟨xs', e', d'⟩ := key
  refine ⟨fun y hy => ?_, fun hl => ⟨xs', e', by rw [d'.length]; exact hl⟩⟩
  obtain ⟨v, h1, h2⟩ := d'.get hy
  refine ⟨⟨xs', v, e', h1⟩, fun x H2 hx => ?_⟩
  obtain ⟨rfl, hx⟩ := hx
  have q := hx xs' e'
  rw [h1] at q
  cases q
  exact ⟨fun _ _ z => z, h2⟩
theorem im_list (he : EM X e m) : IM X tg e (mItL m) := by
  refine ⟨fun ρ k k' w q => he.mono ρ _ _ (fun d ρ1 q1 => by cases d <;> first | exact q1.elim | exact w _ _ q1) q, pi_weak (pi_list he.run) ?_⟩
  rintro σ H Q ⟨G, loc, ρ, R, q⟩
  refine ⟨G, loc, ρ, R, he.mono ρ _ _ (fun d ρ1 q1 v H1 R1 g1 d1 => ?_) q⟩
  cases d <;> first | exact (show False from q1).elim | skip
  obtain ⟨a, xs, rfl, e1, n1, da⟩ := d1.sql
  exact ⟨a, rfl, ⟨xs, .inl (.inl e1)⟩, q1 _ _ R1 g1 (gives_list n1 e1 da)⟩
theorem im_tup (he : EM X e m) : IM X tg e (mItT m) := by
  refine ⟨fun ρ k k' w q => he.mono ρ _ _ (fun d ρ1 q1 => by cases d <;> first | exact q1.elim | exact w _ _ q1) q, pi_weak (pi_tup he.run) ?_⟩
  rintro σ H Q ⟨G, loc, ρ, R, q⟩
  refine ⟨G, loc, ρ, R, he.mono ρ _ _ (fun d ρ1 q1 v H1 R1 g1 d1 => ?_) q⟩
  cases d <;> first | exact (show False from q1).elim | skip
  obtain ⟨a, xs, rfl, e1, gv⟩ := gives_tup d1
  exact ⟨a, rfl, ⟨xs, e1⟩, q1 _ _ R1 g1 gv⟩
theorem im_str (he : EM X e m) : IM X tg e (mItS m) := by
  refine ⟨fun ρ k k' w q => he.mono ρ _ _ (fun d ρ1 q1 => by cases d <;> first | exact q1.elim | exact w _ _ q1) q, pi_weak (pi_str he.run) ?_⟩
  rintro σ H Q ⟨G, loc, ρ, R, q⟩
  refine ⟨G, loc, ρ, R, he.mono ρ _ _ (fun d ρ1 q1 v H1 R1 g1 d1 => ?_) q⟩
  cases d <;> first | exact (show False from q1).elim | skip
  rename_i z
  cases d1
  refine ⟨z, rfl, q1 _ _ R1 g1 fun i F' H' g hf => ⟨fun y hy => ?_, fun hl => ?_⟩⟩
  · unfold signsD at hy
    rw [List.getElem?_map] at hy
    cases hc : z.cps.toList[i]? with
    | none => rw [hc] at hy; cases hy
    | some c =>
      rw [hc] at hy
      cases hy
      have hlt : i < z.cps.size := by simpa using (List.getElem?_eq_some_iff.mp hc).1
      refine ⟨hlt, fun x H2 hx => ?_⟩
      obtain ⟨rfl, c', e1, rfl⟩ := hx
      rw [← Array.getElem?_toList, hc] at e1
      cases e1
      exact ⟨fun _ _ z => z, .str _⟩
  · unfold signsD at hl
    show z.cps.size ≤ i
    simpa using hl
theorem gives_rng {K : PySem.W.Frag} {F : AS} {H : Hp} (lo : Int) (n : Nat) : Gives K F H (Itr lo n) (rngD lo n) := by
  intro i F' H' g hf
  unfold rngD
  refine ⟨fun y hy => ?_, fun hl => ?_⟩
  · rw [List.getElem?_map] at hy
    cases hc : (List.range n)[i]? with
    | none => rw [hc] at hy; cases hy
    | some c =>
      rw [hc] at hy
      cases hy
      obtain ⟨h1, h2⟩ := List.getElem?_eq_some_iff.mp hc
      rw [List.getElem_range] at h2
      subst h2
      refine ⟨show i < n by simpa using h1, fun x H2 hx => ?_⟩
      obtain ⟨rfl, rfl⟩ := hx
      exact ⟨fun _ _ z => z, .int _⟩
  · show n ≤ i
    simpa using hl
theorem im_range1 {a : Expr} (ha : AM X [a] ms) (hm : X.mg "range" = none) (hg : Gl X "range" := by rfl) (hs : starEach [a] X.env = [(false, eval a X.env)] := by rfl) : IM X tg (.Call (.Name "range" p) [a] [] pos) (mRng1 ms) := by
  refine ⟨fun ρ k k' w q => ha.mono ρ _ _ (fun ds ρ1 q1 => ?_) q, pi_weak (pi_range1 hg hm ha.run hs) ?_⟩
  · split at q1
    · exact ⟨q1.1, q1.2.1, w _ _ q1.2.2⟩
    · exact q1.elim
  · rintro σ H Q ⟨G, loc, ρ, R, q⟩
    refine ⟨G, loc, ρ, R, ha.mono ρ _ _ (fun ds ρ1 q1 vs H1 R1 g1 d1 => ?_) q⟩
    split at q1
    · obtain ⟨v, rfl, dv⟩ := dx_one d1
      cases dv
      exact ⟨_, rfl, q1.1, q1.2.1, q1.2.2 _ _ R1 g1 (gives_rng _ _)⟩
    · exact q1.elim
theorem im_range2 {a b : Expr} (ha : AM X [a, b] ms) (hm : X.mg "range" = none) (hg : Gl X "range" := by rfl) (hs : starEach [a, b] X.env = [(false, eval a X.env), (false, eval b X.env)] := by rfl) (hs2 : starEach [b] X.env = [(false, eval b X.env)] := by rfl) :
    IM X tg (.Call (.Name "range" p) [a, b] [] pos) (mRng2 ms) := by
  refine ⟨fun ρ k k' w q => ha.mono ρ _ _ (fun ds ρ1 q1 => ?_) q, pi_weak (pi_range2 hg hm ha.run hs hs2) ?_⟩
  · split at q1
    · exact ⟨q1.1, w _ _ q1.2⟩
    · exact q1.elim
  · rintro σ H Q ⟨G, loc, ρ, R, q⟩
    refine ⟨G, loc, ρ, R, ha.mono ρ _ _ (fun ds ρ1 q1 vs H1 R1 g1 d1 => ?_) q⟩
    split at q1
    · obtain ⟨v, u, rfl, dv, du⟩ := dx_two d1
      cases dv
      cases du
      exact ⟨_, _, rfl, q1.1, q1.2 _ _ R1 g1 (gives_rng _ _)⟩
    · exact q1.elim
theorem dx_new2 {K : PySem.W.Frag} {F : AS} {H : Hp} {T : Addr} {x y : V} {a b : D} (hf : ∀ c, F c → ∃ o, H c = some o) (hT : H T = none) (hx : Dx K H F x a) (hy : Dx K H F y b) :
    (∀ c o, H c = some o → upd H T (.tup [x, y]) c = some o) ∧ Dx K (upd H T (.tup [x, y])) F (.ref T) (.tuple [a, b]) := by
  refine ⟨upd_more hT, .tup (fun z => ?_) upd_same (.cons (hx.g (more_grow (upd_more hT))) (.cons (hy.g (more_grow (upd_more hT))) .nil))⟩
  obtain ⟨o, q⟩ := hf T z
  rw [hT] at q; cases q
theorem zip_get : ∀ {xs ys : List D} {i : Nat} {d : D}, (zipD xs ys)[i]? = some d → ∃ a b, xs[i]? = some a ∧ ys[i]? = some b ∧ d = .tuple [a, b] := by
  intro xs ys i d h
  unfold zipD at h
  rw [List.getElem?_map] at h
  cases q : (xs.zip ys)[i]? with
  | none => rw [q] at h; cases h
  | some p =>
    rw [q] at h
    cases h
    obtain ⟨h1, h2⟩ := List.getElem?_zip_eq_some.mp q
    exact ⟨_, _, h1, h2, rfl⟩
theorem zip_end {xs ys : List D} {i : Nat} (h : (zipD xs ys).length ≤ i) : xs.length ≤ i ∨ ys.length ≤ i := by
  unfold zipD at h
  rw [List.length_map, List.length_zip] at h
  omega
theorem gives_zip {K : PySem.W.Frag} {F : AS} {H : Hp} {a b : Addr} {xs ys : List V} {ds es : List D} (n : ¬ F a) (e : H a = some (.lst xs)) (d : DxAll K H F xs ds) (n2 : ¬ F b) (e2 : H b = some (.lst ys)) (d2 : DxAll K H F ys es) : Gives K F H (Itz K a b) (zipD ds es) := by
  intro i F' H' g hf
  obtain ⟨e', n'⟩ := g a _ e n
  obtain ⟨e2', n2'⟩ := g b _ e2 n2
  refine ⟨fun y hy => ?_, fun hl => ⟨xs, ys, .inl (.inl e'), .inl (.inl e2'), ?_⟩⟩
  · obtain ⟨p, q, h1, h2, rfl⟩ := zip_get hy
    obtain ⟨v, k1, k2⟩ := (d.g g).get h1
    obtain ⟨u, l1, l2⟩ := (d2.g g).get h2
    refine ⟨⟨xs, ys, v, u, .inl (.inl e'), .inl (.inl e2'), k1, l1⟩, fun x H2 hx => ?_⟩
    obtain ⟨T, v', u', rfl, hT, rfl, hx, hy⟩ := hx
    have q1 := hx xs (.inl (.inl e'))
    have q2 := hy ys (.inl (.inl e2'))
    rw [k1] at q1; cases q1
    rw [l1] at q2; cases q2
    exact dx_new2 hf hT k2 l2
  · rw [d.length, d2.length]; exact zip_end hl
theorem sqt_at {K : PySem.W.Frag} {F : AS} {H : Hp} {a : Addr} {ds : List D} (h : Dx K H F (.ref a) (.tuple ds)) : ∃ xs, SqT K H a xs ∧ DxAll K H F xs ds := by
  obtain ⟨a', xs', z, e', d'⟩ := h.sqt
  cases z
  exact ⟨xs', e', d'⟩
theorem gives_zipT {K : PySem.W.Frag} {F : AS} {H : Hp} {a b : Addr} {ds es : List D} (d : Dx K H F (.ref a) (.tuple ds)) (d2 : Dx K H F (.ref b) (.tuple es)) : Gives K F H (RZ.ItzT K a b) (zipD ds es) := by
  intro i F' H' g hf
  obtain ⟨xs, e', da⟩ := sqt_at (d.g g)
  obtain ⟨ys, e2', db⟩ := sqt_at (d2.g g)
  refine ⟨fun y hy => ?_, fun hl => ⟨xs, ys, e', e2', ?_⟩⟩
  · obtain ⟨p, q, h1, h2, rfl⟩ := zip_get hy
    obtain ⟨v, k1, k2⟩ := da.get h1
    obtain ⟨u, l1, l2⟩ := db.get h2
    refine ⟨⟨xs, ys, v, u, e', e2', k1, l1⟩, fun x H2 hx => ?_⟩
    obtain ⟨T, v', u', rfl, hT, rfl, hx, hy⟩ := hx
    have q1 := hx xs e'
    have q2 := hy ys e2'
    rw [k1] at q1; cases q1
    rw [l1] at q2; cases q2
    exact dx_new2 hf hT k2 l2
  · rw [da.length, db.length]; exact zip_end hl
theorem im_zip {a b : Expr} {elts : List Expr} {kk : Nat} (ha : AM X [a, b] ms) (hm : X.mg "zip" = none) (hg : Gl X "zip" := by rfl)
    (hs : starEach [a, b] X.env = (false, eval a X.env) :: starEach [b] X.env := by rfl) (hpl : (backTo pos (starEach [b] X.env)).any (·.1) = false := by rfl) :
    IM X (.Tuple elts kk tpos) (.Call (.Name "zip" p) [a, b] [] pos) (mZip ms) := by
  refine ⟨fun ρ k k' w q => ha.mono ρ _ _ (fun ds ρ1 q1 => ?_) q, pi_weak (RZ.pi_zipA hg hm ha.run hs hpl) ?_⟩
  · split at q1
    · exact w _ _ q1
    · exact w _ _ q1
    · exact q1.elim
  · rintro σ H Q ⟨G, loc, ρ, R, q⟩
    refine ⟨G, loc, ρ, R, ha.mono ρ _ _ (fun ds ρ1 q1 vs H1 R1 g1 d1 => ?_) q⟩
    split at q1
    · obtain ⟨v, u, rfl, dv, du⟩ := dx_two d1
      obtain ⟨p1, xs, rfl, e1, n1, da⟩ := dv.sql
      obtain ⟨p2, ys, rfl, e2, n2, db⟩ := du.sql
      exact ⟨p1, p2, xs, ys, rfl, .inl ⟨.inl (.inl e1), .inl (.inl e2), q1 _ _ R1 g1 (gives_zip n1 e1 da n2 e2 db)⟩⟩
    · obtain ⟨v, u, rfl, dv, du⟩ := dx_two d1
      obtain ⟨p1, xs, rfl, e1, _⟩ := dv.sqt
      obtain ⟨p2, ys, rfl, e2, _⟩ := du.sqt
      exact ⟨p1, p2, xs, ys, rfl, .inr ⟨e1, e2, q1 _ _ R1 g1 (gives_zipT dv du)⟩⟩
    · exact q1.elim
theorem gives_enum {K : PySem.W.Frag} {F : AS} {H : Hp} {a : Addr} {xs : List V} {ds : List D} (n : ¬ F a) (e : H a = some (.lst xs)) (d : DxAll K H F xs ds) : Gives K F H (Ite K a) (enumD ds) := by
  intro i F' H' g hf
  obtain ⟨e', n'⟩ := g a _ e n
  refine ⟨fun y hy => ?_, fun hl => ⟨xs, .inl (.inl e'), ?_⟩⟩
  · unfold enumD at hy
    rw [List.getElem?_map, List.getElem?_zipIdx] at hy
    cases hc : ds[i]? with
    | none => rw [hc] at hy; cases hy
    | some c =>
      rw [hc] at hy
      cases hy
      obtain ⟨v, k1, k2⟩ := (d.g g).get hc
      refine ⟨⟨xs, v, .inl (.inl e'), k1⟩, fun x H2 hx => ?_⟩
      obtain ⟨T, v', rfl, hT, rfl, hx⟩ := hx
      have q1 := hx xs (.inl (.inl e'))
      rw [k1] at q1; cases q1
      have := dx_new2 hf hT (.int (i : Nat)) k2
      simpa using this
  · unfold enumD at hl
    rw [d.length]
    simpa using hl
theorem im_enum {a : Expr} {elts : List Expr} {kk : Nat} (ha : AM X [a] ms) (hm : X.mg "enumerate" = none) (hg : Gl X "enumerate" := by rfl) (hs : starEach [a] X.env = [(false, eval a X.env)] := by rfl) :
    IM X (.Tuple elts kk tpos) (.Call (.Name "enumerate" p) [a] [] pos) (mEnum ms) := by
  refine ⟨fun ρ k k' w q => ha.mono ρ _ _ (fun ds ρ1 q1 => ?_) q, pi_weak (pi_enum hg hm ha.run hs) ?_⟩
  · split at q1
    · exact w _ _ q1
    · exact q1.elim
  · rintro σ H Q ⟨G, loc, ρ, R, q⟩
    refine ⟨G, loc, ρ, R, ha.mono ρ _ _ (fun ds ρ1 q1 vs H1 R1 g1 d1 => ?_) q⟩
    split at q1
    · obtain ⟨v, rfl, dv⟩ := dx_one d1
      obtain ⟨p1, xs, rfl, e1, n1, d1⟩ := dv.sql
      exact ⟨p1, xs, rfl, .inl (.inl e1), q1 _ _ R1 g1 (gives_enum n1 e1 d1)⟩
    · exact q1.elim
end

/-! ### for, while -/
/-- what is wanted behind a loop's body -/
def loopK (k : SK) (nx : List Slot → Prop) : SK := { nx := nx, rt := k.rt, bk := k.nx, ct := nx }
def forLoop (g : GMn) (body : SMon) (k : SK) : List D → List Slot → Prop
  | [], ρ => k.nx ρ
  | d :: ds, ρ => g d ρ fun ρ1 => body (loopK k (forLoop g body k ds)) ρ1
def sFor (mi : M (List D)) (g : GMn) (body : SMon) : SMon := fun k ρ => mi ρ fun ds ρ1 => forLoop g body k ds ρ1
def whLoop (c : M Bool) (body : SMon) (k : SK) : Nat → List Slot → Prop
  | 0, _ => False
  | n + 1, ρ => c ρ fun b ρ1 => if b = true then body (loopK k (whLoop c body k n)) ρ1 else k.nx ρ1
def sWhile (c : M Bool) (body : SMon) : SMon := fun k ρ => ∃ n, whLoop c body k n ρ
theorem mono_forLoop {g : GMn} {body : SMon} (hg : ∀ d ρ (k k' : List Slot → Prop), (∀ ρ', k ρ' → k' ρ') → g d ρ k → g d ρ k') (hb : SMono body) {k k' : SK} (l : SK.le k k') : ∀ (ds : List D) (ρ : List Slot), forLoop g body k ds ρ → forLoop g body k' ds ρ
  | [], ρ, q => l.nx ρ q
  | d :: ds, ρ, q => hg d ρ _ _ (fun ρ1 q1 => hb (loopK k (forLoop g body k ds)) (loopK k' (forLoop g body k' ds)) ρ1 ⟨fun ρ2 q2 => mono_forLoop hg hb l ds ρ2 q2, l.rt, l.nx, fun ρ2 q2 => mono_forLoop hg hb l ds ρ2 q2⟩ q1) q
theorem mono_whLoop {c : M Bool} {body : SMon} (hc : Mono c) (hb : SMono body) {k k' : SK} (l : SK.le k k') : ∀ (n : Nat) (ρ : List Slot), whLoop c body k n ρ → whLoop c body k' n ρ
  | 0, _, q => q.elim
  | n + 1, ρ, q => hc ρ _ _ (fun b ρ1 q1 => by
    cases b with
    | true => rw [if_pos rfl] at q1 ⊢; exact hb (loopK k (whLoop c body k n)) (loopK k' (whLoop c body k' n)) ρ1 ⟨fun ρ2 q2 => mono_whLoop hc hb l n ρ2 q2, l.rt, l.nx, fun ρ2 q2 => mono_whLoop hc hb l n ρ2 q2⟩ q1
    | false => rw [if_neg Bool.false_ne_true] at q1 ⊢; exact l.nx _ q1) q
section
variable {X : Cx} {tg iter : Expr} {body : List Stmt} {mi : M (List D)} {g : GMn} {mb : SMon} {pos : Pos}
theorem sm_for (vs : List Nat) (hp : PassesOwn (model X.prog X.w) X.A X.env X.xe) (hc : X.calm = true) (hi : IM X tg iter mi) (hg : GM X vs tg g) (hb : BM X body mb) (hs : ∀ x, foldedSetIterable iter X.env x = pure x := by intro _; rfl) :
    SM X (.For tg iter body [] pos) (sFor mi g mb) := by
  refine ⟨fun k k' ρ l q => hi.mono ρ _ _ (fun ds ρ1 q1 => mono_forLoop hg.mono hb.mono l ds ρ1 q1) q, ps_weak (ps_for hp hc hi.run hg.run hb.run hs) ?_⟩
  rintro E σ H ⟨G, loc, ρ, k, R, q, l1, l2, l3, l4⟩
  refine ⟨G, loc, ρ, R, hi.mono ρ _ _ (fun ds ρ1 q1 J H1 R1 g1 gv => ?_) q⟩
  refine ⟨fun i m σ2 H2 => ∃ loc2 ρ2, m = ds.length - i ∧ Rep X.K G ρ2 loc2 σ2 H2 ∧ Grow (Fb G.fb ρ1 loc) (Fb G.fb ρ2 loc2) H1 H2 ∧ forLoop g mb k (ds.drop i) ρ2, ⟨_, loc, ρ1, rfl, R1, Grow.refl, by simpa using q1⟩, ?_⟩
  rintro i m σ2 H2 ⟨loc2, ρ2, hm, R2, g2, q2⟩
  obtain ⟨gv1, gv2⟩ := gv i _ H2 g2 R2.fbE
  cases hd : ds[i]? with
  | none =>
    have hl : ds.length ≤ i := List.getElem?_eq_none_iff.mp hd
    rw [List.drop_eq_nil_of_le hl] at q2
    exact .inl ⟨gv2 hl, l1 _ _ _ _ R2 (g1.trans g2) q2⟩
  | some d =>
    obtain ⟨hl, hd'⟩ := List.getElem?_eq_some_iff.mp hd
    have e : ds.drop i = d :: ds.drop (i + 1) := by rw [← hd']; exact List.drop_eq_getElem_cons hl
    rw [e] at q2
    obtain ⟨go, yl⟩ := gv1 d hd
    refine .inr ⟨go, fun σ3 H3 => ∃ loc3 ρ3, Rep X.K G ρ3 loc3 σ3 H3 ∧ Grow (Fb G.fb ρ1 loc) (Fb G.fb ρ3 loc3) H1 H3 ∧ forLoop g mb k (ds.drop (i + 1)) ρ3, fun σ3 H3 ⟨loc3, ρ3, R3, g3, q3⟩ => ⟨ds.length - (i + 1), by omega, loc3, ρ3, rfl, R3, g3, q3⟩, fun x H3 y3 => ?_⟩
    obtain ⟨m3, d3⟩ := yl x H3 y3
    refine ⟨G, loc2, ρ2, d, R2.more m3, d3, hg.mono _ _ _ _ (fun ρ4 q4 σ4 H4 R4 g4 _ => ?_) q2⟩
    have g5 := g2.trans ((more_grow m3).trans g4)
    have ln : Lands X.K G loc2 ρ4 H4 (forLoop g mb k (ds.drop (i + 1))) (fun σ3 H3 => ∃ loc3 ρ3, Rep X.K G ρ3 loc3 σ3 H3 ∧ Grow (Fb G.fb ρ1 loc) (Fb G.fb ρ3 loc3) H1 H3 ∧ forLoop g mb k (ds.drop (i + 1)) ρ3) :=
      fun ρ6 loc6 σ6 H6 R6 g6 q6 => ⟨loc6, ρ6, R6, g5.trans g6, q6⟩
    exact ⟨G, loc2, ρ4, _, R4, q4, ln, l2.on (g1.trans g5), l1.on (g1.trans g5), ln⟩
theorem sm_while {c : Expr} {mc : M Bool} (hp : PassesOwn (model X.prog X.w) X.A X.env X.xe) (hc : TM X c mc) (hb : BM X body mb) : SM X (.While c body [] pos) (sWhile mc mb) := by
  refine ⟨fun k k' ρ l ⟨n, q⟩ => ⟨n, mono_whLoop hc.mono hb.mono l n ρ q⟩, ps_weak (ps_while hp hc.run hb.run) ?_⟩
  rintro E σ H ⟨G, loc, ρ, k, R, ⟨n, q⟩, l1, l2, l3, l4⟩
  refine ⟨fun m σ2 H2 => ∃ loc2 ρ2, Rep X.K G ρ2 loc2 σ2 H2 ∧ Grow (Fb G.fb ρ loc) (Fb G.fb ρ2 loc2) H H2 ∧ whLoop mc mb k m ρ2, ⟨n, loc, ρ, R, Grow.refl, q⟩, ?_⟩
  rintro m σ2 H2 ⟨loc2, ρ2, R2, g2, q2⟩
  cases m with
  | zero => exact q2.elim
  | succ m =>
    refine ⟨G, loc2, ρ2, R2, hc.mono _ _ _ (fun b ρ3 q3 H3 R3 g3 => ?_) q2⟩
    cases b with
    | false =>
      rw [if_neg Bool.false_ne_true] at q3 ⊢
      exact l1 _ _ _ _ R3 (g2.trans g3) q3
    | true =>
      rw [if_pos rfl] at q3 ⊢
      refine ⟨fun σ4 H4 => ∃ loc4 ρ4, Rep X.K G ρ4 loc4 σ4 H4 ∧ Grow (Fb G.fb ρ loc) (Fb G.fb ρ4 loc4) H H4 ∧ whLoop mc mb k m ρ4, fun σ4 H4 z => ⟨m, Nat.lt_succ_self m, z⟩, ?_⟩
      have ln : Lands X.K G loc2 ρ3 H3 (whLoop mc mb k m) (fun σ4 H4 => ∃ loc4 ρ4, Rep X.K G ρ4 loc4 σ4 H4 ∧ Grow (Fb G.fb ρ loc) (Fb G.fb ρ4 loc4) H H4 ∧ whLoop mc mb k m ρ4) :=
        fun ρ6 loc6 σ6 H6 R6 g6 q6 => ⟨loc6, ρ6, R6, (g2.trans g3).trans g6, q6⟩
      exact ⟨G, loc2, ρ3, _, R3, q3, ln, l2.on (g2.trans g3), l1.on (g2.trans g3), ln⟩
end
end DL

namespace DL
open PySem L2

/-! ### list comprehensions -/
def wipeS (ρ : List Slot) : List Nat → List Slot
  | [] => ρ
  | v :: vs => (wipeS ρ vs).set v .non
theorem wipeS_len (ρ : List Slot) : ∀ vs : List Nat, (wipeS ρ vs).length = ρ.length
  | [] => rfl
  | v :: vs => by unfold wipeS; rw [List.length_set, wipeS_len ρ vs]
theorem wipeS_get {ρ : List Slot} {i : Nat} {s : Slot} : ∀ {vs : List Nat}, (wipeS ρ vs)[i]? = some s → s ≠ .non → ρ[i]? = some s ∧ i ∉ vs
  | [], h, _ => ⟨h, by simp⟩
  | v :: vs, h, n => by
    unfold wipeS at h
    rcases set_get h with ⟨_, q, _⟩ | ⟨hv, q⟩
    · exact (n q).elim
    · obtain ⟨a, b⟩ := wipeS_get q n
      exact ⟨a, fun z => by
        rcases List.mem_cons.mp z with z | z
        · exact hv z
        · exact b z⟩
theorem wipe_in {σ : L2.St} {i : Nat} : ∀ {vs : List Nat}, i ∈ vs → i < σ.length → (wipe σ vs)[i]? = some none
  | v :: vs, h, hl => by
    unfold wipe
    by_cases hv : v = i
    · subst hv
      exact List.getElem?_set_self (by rw [wipe_length]; exact hl)
    · rw [List.getElem?_set_ne hv]
      rcases List.mem_cons.mp h with e | e
      · exact (hv e.symm).elim
      · exact wipe_in e hl
theorem wipe_wipe (σ : L2.St) (vs : List Nat) : wipe (wipe σ vs) vs = wipe σ vs := by
  refine List.ext_getElem? fun i => ?_
  by_cases hi : i ∈ vs
  · by_cases hl : i < σ.length
    · rw [wipe_in hi hl, wipe_in hi (by rw [wipe_length]; exact hl)]
    · rw [List.getElem?_eq_none (by rw [wipe_length, wipe_length]; omega), List.getElem?_eq_none (by rw [wipe_length]; omega)]
  · rw [wipe_out hi]
section
variable {K : PySem.W.Frag} {G : Fr} {ρ : List Slot} {loc : Nat → Addr} {σ σ2 : L2.St} {H : Hp}
theorem Fb_wipe {fb : AS} {vs : List Nat} (a : Addr) (h : Fb fb (wipeS ρ vs) loc a) : Fb fb ρ loc a := by
  rcases h with h | z | ⟨j, b, ds, e, l⟩
  · exact .inl h
  · exact .inr (.inl (Rw.sub (fun j s hs q => (wipeS_get q (fun z => by rw [z] at hs; exact hs)).1) z))
  · exact .inr (.inr ⟨j, b, ds, (wipeS_get e (fun z => nomatch z)).1, l⟩)
theorem Rep.wipe {vs : List Nat} (R : Rep K G ρ loc σ2 H) (h : L2.wipe σ2 vs = L2.wipe σ vs) : Rep K G (wipeS ρ vs) loc σ H := by
  have sub : ∀ a, Fb G.fb (wipeS ρ vs) loc a → Fb G.fb ρ loc a := fun a => Fb_wipe a
  have hl : σ.length = σ2.length := by rw [← wipe_length σ vs, ← h, wipe_length]
  have at' : ∀ i, i ∉ vs → σ[i]? = σ2[i]? := fun i hi => by rw [← wipe_out (σ := σ) hi, ← h, wipe_out hi]
  refine ⟨by rw [wipeS_len, hl]; exact R.len, fun j d q => ?_, fun j b es q => ?_, fun j l b c es fs q q' z => ?_, fun j es q => ?_, fun j es q => ?_, R.ext, R.fbS, R.bwS, R.raw.step (fun j s hs q => ?_) (fun j b es q => .inl ⟨b, es, (wipeS_get q (fun z => nomatch z)).1, rfl⟩) (fun b o e n => ⟨e, fun z => n (sub b z)⟩) (fun _ _ _ e => e) fun _ _ a b => ⟨a, b⟩⟩
  · obtain ⟨q1, q2⟩ := wipeS_get q (fun z => nomatch z)
    obtain ⟨v, a, b⟩ := R.dat j d q1
    exact ⟨v, by rw [at' j q2]; exact a, b.weak sub⟩
  · obtain ⟨q1, q2⟩ := wipeS_get q (fun z => nomatch z)
    obtain ⟨a, ws, c, d⟩ := R.own j b es q1
    exact ⟨by rw [at' j q2]; exact a, ws, c, d.weak sub⟩
  · exact R.apart j l b c es fs (wipeS_get q (fun z => nomatch z)).1 (wipeS_get q' (fun z => nomatch z)).1 z
  · exact R.brw j es (wipeS_get q (fun z => nomatch z)).1
  · exact R.new j es (wipeS_get q (fun z => nomatch z)).1
  · obtain ⟨q1, q2⟩ := wipeS_get q (fun z => by rw [z] at hs; exact hs)
    exact ⟨q1, at' j q2⟩
/-- the list at p, that nothing leads to, is written -/
theorem Rep.wrP {p : Addr} {o : HO} (R : Rep K (G.plus p) ρ loc σ H) (h0 : G.H0 p = none) (np : ¬ G.fb p) (bs : ∀ b, G.bw b → G.fb b) : Rep K (G.plus p) ρ loc σ (upd H p o) ∧ Grow (Fb (G.plus p).fb ρ loc) (Fb (G.plus p).fb ρ loc) H (upd H p o) := by
  have g : Grow (Fb (G.plus p).fb ρ loc) (Fb (G.plus p).fb ρ loc) H (upd H p o) := fun b u e n => ⟨by rw [upd_ne fun z => n (.inl (.inr z))]; exact e, n⟩
  refine ⟨⟨R.len, fun i d e => ?_, fun i b ds e => ?_, R.apart, R.brw, R.new, fun b u e n => ?_, fun b e => ?_, R.bwS, R.raw.step (fun _ _ _ e => ⟨e, rfl⟩) (fun j b ds e => .inl ⟨b, ds, e, rfl⟩) g (fun a u z e => by rw [upd_ne fun y => (R.raw.here z).2.elim (fun z => z.2 (.inr y)) fun z => np (y ▸ bs _ z)]; exact e) fun _ _ a b => ⟨a, b⟩⟩, g⟩
  · obtain ⟨v, h1, h2⟩ := R.dat i d e
    exact ⟨v, h1, h2.g g⟩
  · obtain ⟨h1, vs, h2, h3⟩ := R.own i b ds e
    refine ⟨h1, vs, ?_, h3.g g⟩
    rw [upd_ne fun z => ?_]; exact h2
    cases b with
    | false => exact (R.new i ds e).2 (.inr z)
    | true => exact np (z ▸ bs _ (R.brw i ds e).2)
  · rw [upd_ne fun z => by rw [z] at e; rw [show (G.plus p).H0 p = none from h0] at e; cases e]
    exact R.ext b u e n
  · by_cases hb : b = p
    · rw [hb]; exact ⟨_, upd_same⟩
    · obtain ⟨u, q⟩ := R.fbS b e
      exact ⟨u, by rw [upd_ne hb]; exact q⟩
end
/-- the tests of a clause -/
structure TsM (X : Cx) (ifs : List Expr) (m : M Bool) : Prop where
  mono : Mono m
  run : PTs X ifs (TTof X.K m)
theorem tsm_nil {X : Cx} : TsM X [] (mPure true) := ⟨mono_pure, ⟨fun pins s σ H Q I q => pts_nil.run pins s σ H Q I (by
  obtain ⟨G, loc, ρ, R, q⟩ := q
  exact q H R Grow.refl)⟩⟩
theorem tsm_one {X : Cx} {c : Expr} {m : M Bool} (h : TM X c m) : TsM X [c] m := ⟨h.mono, pts_one h.run⟩
def lcLoop (g : GMn) (tt : M Bool) (te : M D) (vs : List Nat) (k : List D → List Slot → Prop) : List D → List D → List Slot → Prop
  | [], acc, ρ => k acc (wipeS ρ vs)
  | d :: ds, acc, ρ => g d ρ fun ρ1 => tt ρ1 fun b ρ2 => if b = true then te ρ2 fun e ρ3 => acc.length < sizeLine ∧ lcLoop g tt te vs k ds (acc ++ [e]) (wipeS ρ3 vs) else lcLoop g tt te vs k ds acc (wipeS ρ2 vs)
def mLc (mi : M (List D)) (g : GMn) (tt : M Bool) (te : M D) (vs : List Nat) : M (List D) := fun ρ k => mi ρ fun ds ρ1 => lcLoop g tt te vs k ds [] (wipeS ρ1 vs)
theorem mono_lcLoop {g : GMn} {tt : M Bool} {te : M D} {vs : List Nat} (hg : ∀ d ρ (k k' : List Slot → Prop), (∀ ρ', k ρ' → k' ρ') → g d ρ k → g d ρ k') (ht : Mono tt) (he : Mono te) {k k' : List D → List Slot → Prop} (w : ∀ a ρ, k a ρ → k' a ρ) :
    ∀ (ds acc : List D) (ρ : List Slot), lcLoop g tt te vs k ds acc ρ → lcLoop g tt te vs k' ds acc ρ
  | [], acc, ρ, q => w _ _ q
  | d :: ds, acc, ρ, q => hg d ρ _ _ (fun ρ1 q1 => ht ρ1 _ _ (fun b ρ2 q2 => by
    cases b with
    | true => rw [if_pos rfl] at q2 ⊢; exact he ρ2 _ _ (fun e ρ3 q3 => ⟨q3.1, mono_lcLoop hg ht he w ds _ _ q3.2⟩) q2
    | false => rw [if_neg Bool.false_ne_true] at q2 ⊢; exact mono_lcLoop hg ht he w ds _ _ q2) q1) q
theorem mono_lc {mi : M (List D)} {g : GMn} {tt : M Bool} {te : M D} {vs : List Nat} (hi : Mono mi) (hg : ∀ d ρ (k k' : List Slot → Prop), (∀ ρ', k ρ' → k' ρ') → g d ρ k → g d ρ k') (ht : Mono tt) (he : Mono te) : Mono (mLc mi g tt te vs) :=
  fun ρ k k' w q => hi ρ _ _ (fun ds ρ1 q1 => mono_lcLoop hg ht he w ds _ _ q1) q
/-- what the layer asks of a comprehension, by the slots -/
theorem lc_meets {K : PySem.W.Frag} {mi : M (List D)} {g : GMn} {tt : M Bool} {te : M D} {vs : List Nat} (hi : Mono mi) (hg : ∀ d ρ (k k' : List Slot → Prop), (∀ ρ', k ρ' → k' ρ') → g d ρ k → g d ρ k') (ht : Mono tt) (he : Mono te)
    {σ : L2.St} {H : Hp} {Q : VK} (h : TNof K (mLc mi g tt te vs) σ H Q) : tLc (TIof K mi) (TGof K vs g) (TTof K tt) (TEof K te) vs σ H Q := by
  obtain ⟨G, loc, ρ, R, q⟩ := h
  refine ⟨G, loc, ρ, R, hi ρ _ _ (fun ds ρ1 q1 J H1 R1 g1 gv D hD => ?_) q⟩
  obtain ⟨h0, np, _, RD, gD, _⟩ := new_list (xs := []) R1 (.nil : DxAll K H1 (Fb G.fb ρ1 loc) [] []) hD
  have bs := R.bwS
  refine ⟨fun i m H2 => ∃ ρ2 acc ws, m = ds.length - i ∧ Rep K (G.plus D) ρ2 loc (wipe σ vs) H2 ∧ H2 D = some (.lst ws) ∧ DxAll K H2 (Fb (G.plus D).fb ρ2 loc) ws acc ∧ Grow (Fb G.fb ρ1 loc) (Fb (G.plus D).fb ρ2 loc) H1 H2 ∧
    lcLoop g tt te vs (fun ds ρ' => ∀ p vs H', G.H0 p = none → ¬ G.fb p → H' p = some (.lst vs) → Rep K (G.plus p) ρ' loc σ H' → Grow (Fb G.fb ρ loc) (Fb (G.plus p).fb ρ' loc) H H' → DxAll K H' (Fb (G.plus p).fb ρ' loc) vs ds → Q (.ref p) H') (ds.drop i) acc ρ2,
    ⟨_, wipeS ρ1 vs, [], [], rfl, RD.wipe (wipe_wipe σ vs).symm, upd_same, .nil, gD.weak fun b z => Fb_wipe b z, by simpa using q1⟩, ?_⟩
  rintro i m H2 ⟨ρ2, acc, ws, hm, R2, e2, d2, g2, q2⟩
  obtain ⟨gv1, gv2⟩ := gv i _ H2 g2 R2.fbE
  cases hd : ds[i]? with
  | none =>
    have hl : ds.length ≤ i := List.getElem?_eq_none_iff.mp hd
    rw [List.drop_eq_nil_of_le hl] at q2
    refine .inl ⟨gv2 hl, q2 D ws H2 h0 np e2 (R2.wipe (wipe_wipe σ vs)) ((g1.trans g2).weak fun b z => Fb_wipe b z) (d2.weak fun b z => Fb_wipe b z)⟩
  | some d =>
    obtain ⟨hl, hd'⟩ := List.getElem?_eq_some_iff.mp hd
    have e : ds.drop i = d :: ds.drop (i + 1) := by rw [← hd']; exact List.drop_eq_getElem_cons hl
    rw [e] at q2
    obtain ⟨go, yl⟩ := gv1 d hd
    refine .inr ⟨go, fun H3 => ∃ ρ3 acc ws, Rep K (G.plus D) ρ3 loc (wipe σ vs) H3 ∧ H3 D = some (.lst ws) ∧ DxAll K H3 (Fb (G.plus D).fb ρ3 loc) ws acc ∧ Grow (Fb G.fb ρ1 loc) (Fb (G.plus D).fb ρ3 loc) H1 H3 ∧
      lcLoop g tt te vs (fun ds ρ' => ∀ p vs H', G.H0 p = none → ¬ G.fb p → H' p = some (.lst vs) → Rep K (G.plus p) ρ' loc σ H' → Grow (Fb G.fb ρ loc) (Fb (G.plus p).fb ρ' loc) H H' → DxAll K H' (Fb (G.plus p).fb ρ' loc) vs ds → Q (.ref p) H') (ds.drop (i + 1)) acc ρ3,
      fun H3 ⟨ρ3, acc, ws, a1, a2, a3, a4, a5⟩ => ⟨_, by omega, ρ3, acc, ws, rfl, a1, a2, a3, a4, a5⟩, fun x H3 y3 => ?_⟩
    obtain ⟨m3, d3⟩ := yl x H3 y3
    have R3 := (R2.more m3).pin (m3 _ _ e2)
    refine ⟨G.pin D (.lst ws), loc, ρ2, d, R3, d3, hg _ _ _ _ (fun ρ4 q4 σ4 H4 R4 g4 w4 => ⟨w4.trans (wipe_wipe σ vs), ?_⟩) q2⟩
    refine ⟨G.pin D (.lst ws), loc, ρ4, R4, ht _ _ _ (fun b ρ5 q5 H5 R5 g5 => ?_) q4⟩
    have w4' : L2.wipe σ4 vs = L2.wipe (L2.wipe σ vs) vs := w4
    have g25 : Grow (Fb (G.plus D).fb ρ2 loc) (Fb (G.plus D).fb ρ5 loc) H2 H5 := (more_grow m3).trans (g4.trans g5)
    cases b with
    | false =>
      rw [if_neg Bool.false_ne_true] at q5
      show if false = true then _ else _
      rw [if_neg Bool.false_ne_true]
      obtain ⟨R6, e6⟩ := R5.unpin h0 fun z => np (bs _ z)
      exact ⟨wipeS ρ5 vs, acc, ws, R6.wipe w4', e6, (d2.g g25).weak fun b z => Fb_wipe b z, (g2.trans g25).weak fun b z => Fb_wipe b z, q5⟩
    | true =>
      rw [if_pos rfl] at q5
      show if true = true then _ else _
      rw [if_pos rfl]
      refine ⟨G.pin D (.lst ws), loc, ρ5, R5, he _ _ _ (fun y ρ6 q6 v H6 R6 g6 d6 => ?_) q5⟩
      have g26 : Grow (Fb (G.plus D).fb ρ2 loc) (Fb (G.plus D).fb ρ6 loc) H2 H6 := g25.trans g6
      obtain ⟨R7, e7⟩ := R6.unpin h0 fun z => np (bs _ z)
      obtain ⟨R8, g8⟩ := R7.wrP (o := .lst (ws ++ [v])) h0 np bs
      refine ⟨ws, e7, by rw [d2.length]; exact q6.1, wipeS ρ6 vs, acc ++ [y], ws ++ [v], R8.wipe w4', upd_same, ?_, ((g2.trans g26).trans g8).weak fun b z => Fb_wipe b z, q6.2⟩
      exact (((d2.g g26).append (.cons d6 .nil)).g g8).weak fun b z => Fb_wipe b z
section
variable {X : Cx} {elt tg iter : Expr} {ifs : List Expr} {scope : Scope} {pos spos : Pos} {mi : M (List D)} {g : GMn} {tt : M Bool} {te : M D}
theorem nm_lc (own : List (Str × Nat)) (hc : X.calm = true) (hN : X.N.Nodup) (hi : IM X tg iter mi) (ok : blkC X.N X.env.scope scope own = true)
    (hg : ∀ (s : Shared) (H : Hp) (C : Addr) (cl : List (Str × Addr)) (fp : List Addr), GM (X.blk s H scope (compEnvC scope cl C X.env) fp) (own.map (·.2)) tg g)
    (ht : ∀ (s : Shared) (H : Hp) (C : Addr) (cl : List (Str × Addr)) (fp : List Addr), TsM (X.blk s H scope (compEnvC scope cl C X.env) fp) ifs tt)
    (he : ∀ (s : Shared) (H : Hp) (C : Addr) (cl : List (Str × Addr)) (fp : List Addr), EM (X.blk s H scope (compEnvC scope cl C X.env) fp) elt te) (hs : ∀ x, foldedSetIterable iter X.env x = pure x := by intro _; rfl) :
    NM X (.ListComp elt [⟨tg, iter, ifs, 0⟩] scope pos) (mLc mi g tt te (own.map (·.2))) := by
  have z1 := (hg X.s_0 X.H_0 0 [] []).mono
  have z2 := (ht X.s_0 X.H_0 0 [] []).mono
  have z3 := (he X.s_0 X.H_0 0 [] []).mono
  exact ⟨mono_lc hi.mono z1 z2 z3, pe_weak (pe_lc (wi := TIof X.K mi) (g := TGof X.K (own.map (·.2)) g) (tt := TTof X.K tt) (te := TEof X.K te) hc hN hi.run (blkOk_by ok) (fun s H C cl fp => (hg s H C cl fp).run) (fun s H C cl fp => (ht s H C cl fp).run) (fun s H C cl fp => (he s H C cl fp).run) hs) fun σ H Q h => lc_meets hi.mono z1 z2 z3 h⟩
theorem sm_setLc (own : List (Str × Nat)) {i : Nat} {y : Str} {py : Pos} (hc : X.calm = true) (hN : X.N.Nodup) (hy : X.N[i]? = some y) (hyl : X.env.scope.names.lookup y = some .local)
    (hsw : swapsWith (.ListComp elt [⟨tg, iter, ifs, 0⟩] scope pos) (some (.Name y py)) spos.line X.env = pure true) (hi : IM X tg iter mi) (ok : blkC X.N X.env.scope scope own = true)
    (hg : ∀ (s : Shared) (H : Hp) (C : Addr) (cl : List (Str × Addr)) (fp : List Addr), GM (X.blk s H scope (compEnvC scope cl C X.env) fp) (own.map (·.2)) tg g)
    (ht : ∀ (s : Shared) (H : Hp) (C : Addr) (cl : List (Str × Addr)) (fp : List Addr), TsM (X.blk s H scope (compEnvC scope cl C X.env) fp) ifs tt)
    (he : ∀ (s : Shared) (H : Hp) (C : Addr) (cl : List (Str × Addr)) (fp : List Addr), EM (X.blk s H scope (compEnvC scope cl C X.env) fp) elt te) (hs : ∀ x, foldedSetIterable iter X.env x = pure x := by intro _; rfl) :
    SM X (.Assign [.Name y py] (.ListComp elt [⟨tg, iter, ifs, 0⟩] scope pos) spos) (sSetN i (mLc mi g tt te (own.map (·.2)))) := by
  have z1 := (hg X.s_0 X.H_0 0 [] []).mono
  have z2 := (ht X.s_0 X.H_0 0 [] []).mono
  have z3 := (he X.s_0 X.H_0 0 [] []).mono
  have mm := mono_lc (vs := own.map (·.2)) hi.mono z1 z2 z3
  refine ⟨fun k k' ρ l q => mm ρ _ _ (fun _ ρ1 q1 => l.nx _ q1) q, ps_weak (ps_setLc (wi := TIof X.K mi) (g := TGof X.K (own.map (·.2)) g) (tt := TTof X.K tt) (te := TEof X.K te) hc hN hy hyl hsw hi.run (blkOk_by ok) (fun s H C cl fp => (hg s H C cl fp).run) (fun s H C cl fp => (ht s H C cl fp).run) (fun s H C cl fp => (he s H C cl fp).run) hs) ?_⟩
  rintro E σ H ⟨G, loc, ρ, k, R, q, l1, l2, l3, l4⟩
  refine lc_meets hi.mono z1 z2 z3 ⟨G, loc, ρ, R, mm ρ _ _ (fun ds ρ1 q1 p vs H1 h0 n e1 R1 g1 d1 => l1 _ _ _ _ (R1.putN R.bwS h0 n i e1 d1) (g1.weak fun b z => Fb_putN b z) q1) q⟩
end
end DL

namespace DL
open PySem L2

/-! ### methods of a text -/
def strsOf : List D → Option (List Str)
  | [] => some []
  | .str s :: ds => (strsOf ds).map (s :: ·)
  | _ => none
theorem strsOf_eq : ∀ {xs : List D} {bs : List Str}, strsOf xs = some bs → xs = bs.map PyData.str
  | [], bs, h => by cases h; rfl
  | d :: ds, bs, h => by
    cases d <;> first | (cases h; done) | skip
    rename_i b
    unfold strsOf at h
    cases q : strsOf ds with
    | none => rw [q] at h; cases h
    | some cs =>
      rw [q] at h
      cases h
      rw [strsOf_eq q]; rfl
theorem strsOf_map (bs : List Str) : strsOf (bs.map PyData.str) = some bs := by
  induction bs with
  | nil => rfl
  | cons b bs ih => show (strsOf (bs.map PyData.str)).map _ = _; rw [ih]; rfl
def mMeth (p : Str → PC1) (m : M D) (ms : M (List D)) : M D := fun ρ k => m ρ fun d ρ1 => match d with
  | .str z => ms ρ1 fun ds ρ2 => p z ds fun r => k r ρ2
  | _ => False
theorem mono_meth {p : Str → PC1} {m : M D} {ms : M (List D)} (mp : ∀ z ds, Pm1 (p z ds)) (a : Mono m) (b : Mono ms) : Mono (mMeth p m ms) := fun ρ k k' w q => a ρ _ _ (fun d ρ1 q1 => by
  cases d <;> first | exact q1.elim | exact b ρ1 _ _ (fun ds ρ2 q2 => mp _ _ _ _ (fun r q3 => w _ _ q3) q2) q1) q
def PrimM (K : PySem.W.Frag) (r : V → List V → Hp → VK → Prop) (p : Str → PC1) : Prop := ∀ (F : AS) (H : Hp) (z : Str) (vs : List V) (ds : List D) (Q : VK), (∀ c, F c → ∃ o, H c = some o) → DxAll K H F vs ds → p z ds (Kd K F H Q) → r (.str z) vs H Q
def joinD (z : Str) : PC1
  | [.list xs], k => ∃ ys, strsOf xs = some ys ∧ (ys.map (·.length)).sum + ys.length * z.length ≤ 16777216 ∧ k (.str (Txt.join z ys))
  | _, _ => False
def indexD (z : Str) : PC1
  | [.str b], k => ∃ i rest, Builtin.Str.occurrences z b 0 z.length 1 = i :: rest ∧ k (.int (i : Nat))
  | _, _ => False
def startsD (z : Str) : PC1
  | [.str b], k => k (.bool (Txt.startswith z b))
  | _, _ => False
def isdigitD (z : Str) : PC1
  | [], k => k (.bool (Txt.isdigit z))
  | _, _ => False
theorem pm_join (z : Str) (ds : List D) : Pm1 (joinD z ds) := fun k k' w q => by
  unfold joinD at q ⊢
  split at q
  · obtain ⟨ys, a, b, c⟩ := q; exact ⟨ys, a, b, w _ c⟩
  · exact q.elim
theorem pm_index (z : Str) (ds : List D) : Pm1 (indexD z ds) := fun k k' w q => by
  unfold indexD at q ⊢
  split at q
  · obtain ⟨ys, a, b, c⟩ := q; exact ⟨ys, a, b, w _ c⟩
  · exact q.elim
theorem pm_starts (z : Str) (ds : List D) : Pm1 (startsD z ds) := fun k k' w q => by
  unfold startsD at q ⊢
  split at q
  · exact w _ q
  · exact q.elim
theorem pm_isdigit (z : Str) (ds : List D) : Pm1 (isdigitD z ds) := fun k k' w q => by
  unfold isdigitD at q ⊢
  split at q
  · exact w _ q
  · exact q.elim
section
variable {K : PySem.W.Frag}
theorem prim_join : PrimM K (fun x xs H Q => ∃ a p, ∃ ys : List Str, x = .str a ∧ xs = [.ref p] ∧ (SqL K H p (ys.map V.str) ∨ SqT K H p (ys.map V.str)) ∧ (ys.map (·.length)).sum + ys.length * a.length ≤ 16777216 ∧ Q (.str (Txt.join a ys)) H) joinD := by
  intro F H z vs ds Q hF hd h
  unfold joinD at h
  split at h
  · obtain ⟨ys, e, l, q⟩ := h
    obtain ⟨v, rfl, dv⟩ := dx_one hd
    obtain ⟨p, xs, rfl, e1, n1, d1⟩ := dv.sql
    rw [strsOf_eq e] at d1
    rw [d1.strs] at e1
    exact ⟨z, p, ys, rfl, rfl, .inl (.inl (.inl e1)), l, q.now (.str _)⟩
  · exact h.elim
theorem prim_index : PrimM K (fun x xs H Q => ∃ a b i rest, x = .str a ∧ xs = [.str b] ∧ Builtin.Str.occurrences a b 0 a.length 1 = i :: rest ∧ Q (.int (i : Nat)) H) indexD := by
  intro F H z vs ds Q hF hd h
  unfold indexD at h
  split at h
  · obtain ⟨i, rest, e, q⟩ := h
    obtain ⟨v, rfl, dv⟩ := dx_one hd
    cases dv
    exact ⟨z, _, i, rest, rfl, rfl, e, q.now (.int _)⟩
  · exact h.elim
theorem prim_starts : PrimM K (fun x xs H Q => ∃ a b, x = .str a ∧ xs = [.str b] ∧ Q (.bl (Txt.startswith a b)) H) startsD := by
  intro F H z vs ds Q hF hd h
  unfold startsD at h
  split at h
  · obtain ⟨v, rfl, dv⟩ := dx_one hd
    cases dv
    exact ⟨z, _, rfl, rfl, h.now (.bl _)⟩
  · exact h.elim
theorem prim_isdigit : PrimM K (fun x xs H Q => ∃ a, x = .str a ∧ xs = [] ∧ True ∧ Q (.bl (Txt.isdigit a)) H) isdigitD := by
  intro F H z vs ds Q hF hd h
  unfold isdigitD at h
  split at h
  · cases hd
    exact ⟨z, rfl, rfl, trivial, h.now (.bl _)⟩
  · exact h.elim
end
section
variable {X : Cx} {o e : Expr} {es : List Expr} {m : M D} {ms : M (List D)} {name : Str} {id : String} {r : V → List V → Hp → VK → Prop} {p : Str → PC1} {apos cpos : Pos}
theorem em_meth (slot : PySem.Slot "str" name id) (hty : typeOf (.builtin id) = pure (.type "method_descriptor")) (hm : MtR X id r) (hp : PrimM X.K r p) (mp : ∀ z ds, Pm1 (p z ds)) (ho : EM X o m) (ha : AM X (e :: es) ms)
    (hbase : attributeBase o name X.env (eval o X.env) = eval o X.env := by rfl)
    (hfew : ((backTo cpos (starEach (e :: es) X.env)).all (fun x => !x.1) && (backToKw cpos (keywordEach [] X.env)).all (fun x => x.1.isSome)
      && decide ((e :: es).length + ([] : List Keyword).length + (if ([] : List Keyword).isEmpty then 0 else 1) < 30)) = true := by rfl)
    (hline : (apos.endLine == cpos.line) = true := by rfl) (hs : starEach (e :: es) X.env = (false, eval e X.env) :: starEach es X.env := by rfl) (hplain : (backTo cpos (starEach es X.env)).any (·.1) = false := by rfl) :
    EM X (.Call (.Attribute o name apos) (e :: es) [] cpos) (mMeth p m ms) := by
  refine ⟨mono_meth mp ho.mono ha.mono, pe_weak (pe_bm PySem.F.plainAttrs_str slot hty hm ho.run ha.run hbase hfew hline hs hplain) ?_⟩
  rintro σ H Q ⟨G, loc, ρ, R, q⟩
  refine ⟨G, loc, ρ, R, ho.mono ρ _ _ (fun d ρ1 q1 v H1 R1 g1 d1 => ?_) q⟩
  cases d <;> first | exact (show False from q1).elim | skip
  cases d1
  refine ⟨rfl, G, loc, ρ1, R1, ha.mono ρ1 _ _ (fun ds ρ2 q2 vs H2 R2 g2 d2 => ?_) q1⟩
  exact hp (Fb G.fb ρ2 loc) H2 _ vs ds Q R2.fbE d2 (mp _ _ _ _ (fun r q3 w H3 m3 d3 => q3 w H3 (R2.more m3) ((g1.trans g2).trans (more_grow m3)) d3) q2)
theorem em_meth0 (slot : PySem.Slot "str" name id) (hty : typeOf (.builtin id) = pure (.type "method_descriptor")) (hm : MtR X id r) (hp : PrimM X.K r p) (mp : ∀ z ds, Pm1 (p z ds)) (ho : EM X o m)
    (hbase : attributeBase o name X.env (eval o X.env) = eval o X.env := by rfl) (hline : (apos.endLine == cpos.line) = true := by rfl) :
    EM X (.Call (.Attribute o name apos) [] [] cpos) (mMeth p m mNil) := by
  refine ⟨mono_meth mp ho.mono mono_pure, pe_weak (pe_bm0 PySem.F.plainAttrs_str slot hty hm ho.run hbase hline) ?_⟩
  rintro σ H Q ⟨G, loc, ρ, R, q⟩
  refine ⟨G, loc, ρ, R, ho.mono ρ _ _ (fun d ρ1 q1 v H1 R1 g1 d1 => ?_) q⟩
  cases d <;> first | exact (show False from q1).elim | skip
  cases d1
  refine ⟨rfl, ?_⟩
  exact hp (Fb G.fb ρ1 loc) H1 _ [] [] Q R1.fbE .nil (mp _ _ _ _ (fun r q3 w H3 m3 d3 => q3 w H3 (R1.more m3) (g1.trans (more_grow m3)) d3) (show p _ [] _ from q1))
theorem em_join (ho : EM X o m) (ha : AM X [e] ms)
    (hbase : attributeBase o "join" X.env (eval o X.env) = eval o X.env := by rfl)
    (hfew : ((backTo cpos (starEach [e] X.env)).all (fun x => !x.1) && (backToKw cpos (keywordEach [] X.env)).all (fun x => x.1.isSome)
      && decide ([e].length + ([] : List Keyword).length + (if ([] : List Keyword).isEmpty then 0 else 1) < 30)) = true := by rfl)
    (hline : (apos.endLine == cpos.line) = true := by rfl) (hs : starEach [e] X.env = (false, eval e X.env) :: starEach [] X.env := by rfl) (hplain : (backTo cpos (starEach [] X.env)).any (·.1) = false := by rfl) :
    EM X (.Call (.Attribute o "join" apos) [e] [] cpos) (mMeth joinD m ms) := em_meth PySem.F.slot_str_join PySem.F.type_str_join mt_join prim_join pm_join ho ha hbase hfew hline hs hplain
theorem em_index (ho : EM X o m) (ha : AM X [e] ms)
    (hbase : attributeBase o "index" X.env (eval o X.env) = eval o X.env := by rfl)
    (hfew : ((backTo cpos (starEach [e] X.env)).all (fun x => !x.1) && (backToKw cpos (keywordEach [] X.env)).all (fun x => x.1.isSome)
      && decide ([e].length + ([] : List Keyword).length + (if ([] : List Keyword).isEmpty then 0 else 1) < 30)) = true := by rfl)
    (hline : (apos.endLine == cpos.line) = true := by rfl) (hs : starEach [e] X.env = (false, eval e X.env) :: starEach [] X.env := by rfl) (hplain : (backTo cpos (starEach [] X.env)).any (·.1) = false := by rfl) :
    EM X (.Call (.Attribute o "index" apos) [e] [] cpos) (mMeth indexD m ms) := em_meth PySem.F.slot_str_index PySem.F.type_str_index mt_sindex prim_index pm_index ho ha hbase hfew hline hs hplain
end

/-! ### divmod -/
def divmodD : PC1
  | [.int i, .int j], k => CDiv i j ∧ k (.tuple [.int (i / j), .int (i % j)])
  | _, _ => False
theorem pm_divmod (ds : List D) : Pm1 (divmodD ds) := fun k k' w q => by
  unfold divmodD at q ⊢
  split at q
  · exact ⟨q.1, w _ q.2⟩
  · exact q.elim
theorem prim_divmod {K : PySem.W.Frag} : PrimC K (fun xs H Q => ∃ i j, xs = [.int i, .int j] ∧ CDiv i j ∧ ∀ p, H p = none → Q (.ref p) (upd H p (.tup [.int (i / j), .int (i % j)]))) divmodD := by
  intro F H vs ds Q hF hd h
  unfold divmodD at h
  split at h
  · obtain ⟨v, u, rfl, dv, du⟩ := dx_two hd
    cases dv
    cases du
    exact ⟨_, _, rfl, h.1, new_tup hF (.cons (.int _) (.cons (.int _) .nil)) h.2⟩
  · exact h.elim
section
variable {X : Cx} {p pos : Pos} {e e2 : Expr} {m : M (List D)}
theorem em_divmod (hm : X.mg "divmod" = none) (ha : AM X [e, e2] m) (hg : Gl X "divmod" := by rfl) (he : starEach [e, e2] X.env = (false, eval e X.env) :: starEach [e2] X.env := by rfl) (hpl : (backTo pos (starEach [e2] X.env)).any (·.1) = false := by rfl) : EM X (.Call (.Name "divmod" p) [e, e2] [] pos) (mCall divmodD m) :=
  em_callB call_divmod prim_divmod pm_divmod hg hm (by decide +kernel) ha (he := he) (hpl := hpl)
end

/-! ### a script: its length, its numbers, its slices -/
def scrI (d : D) : Option (List Int) := match d with
  | .dict (_ :: r) => r.mapM fun p => match p.2 with | .int n => some n | _ => none
  | _ => none
def mLenS (i : Nat) : M D := fun ρ k => ∃ ns, ρ[i]? = some (.dat (.dict (scrD ns))) ∧ k (.int (ns.length : Nat)) ρ
def mIxS (i : Nat) (m : M D) : M D := fun ρ k => ∃ ns, ρ[i]? = some (.dat (.dict (scrD ns))) ∧ m ρ fun d ρ1 => match d with
  | .int j => ∃ n, atI ns j = some n ∧ k (.int n) ρ1
  | _ => False
def mSlS (i : Nat) (l h : M (Option Int)) : M D := fun ρ k => ∃ ns, ρ[i]? = some (.dat (.dict (scrD ns))) ∧ l ρ fun lo ρ1 => h ρ1 fun hi ρ2 => k (.list ((cutL ns lo hi).map PyData.int)) ρ2
section
variable {X : Cx} {x : Str} {i : Nat} {p p2 pos : Pos} {b : Expr} {mb : M D} {lo hi : Option Expr} {l h : M (Option Int)}
theorem em_lenS (hv : PE X (.Name x p2) (tVar i)) (hm : X.mg "len" = none) (hg : Gl X "len" := by rfl) (he : starEach [.Name x p2] X.env = (false, eval (.Name x p2) X.env) :: starEach [] X.env := by rfl) (hpl : (backTo pos (starEach [] X.env)).any (·.1) = false := by rfl) :
    EM X (.Call (.Name "len" p) [.Name x p2] [] pos) (mLenS i) := by
  refine ⟨fun ρ k k' w ⟨ns, e, q⟩ => ⟨ns, e, w _ _ q⟩, pe_weak (pe_callB call_len hg hm PySem.boot_len (pa_cons hv pa_nil he) (he := he) (hpl := hpl)) ?_⟩
  rintro σ H Q ⟨G, loc, ρ, R, ns, e, q⟩
  obtain ⟨v, h1, h2⟩ := R.dat i _ e
  obtain ⟨a, rfl, sq, _⟩ := h2.scrA
  exact ⟨_, h1, _, _, rfl, .inl ⟨_, sq, rfl⟩, by rw [List.length_map]; exact q _ H R Grow.refl (.int _)⟩
theorem em_ixS (hv : PE X (.Name x p) (tVar i)) (hb : EM X b mb) (hs : PlainIx b) : EM X (.Subscript (.Name x p) b pos) (mIxS i mb) := by
  refine ⟨fun ρ k k' w ⟨ns, e, q⟩ => ⟨ns, e, hb.mono ρ _ _ (fun d ρ1 q1 => by cases d <;> first | exact q1.elim | exact q1.imp fun n z => ⟨z.1, w _ _ z.2⟩) q⟩, pe_weak (pe_ix ix_list hv hb.run hs) ?_⟩
  rintro σ H Q ⟨G, loc, ρ, R, ns, e, q⟩
  obtain ⟨v, h1, h2⟩ := R.dat i _ e
  refine ⟨v, h1, G, loc, ρ, R, hb.mono ρ _ _ (fun d ρ1 q1 u H1 R1 g1 d1 => ?_) q⟩
  cases d <;> first | exact (show False from q1).elim | skip
  cases d1
  obtain ⟨n, e2, q2⟩ := q1
  obtain ⟨a, rfl, sq, _⟩ := (h2.g g1).scrA
  refine ⟨a, _, _, .int n, rfl, rfl, sq, ?_, q2 _ H1 R1 g1 (.int n)⟩
  unfold atI at e2 ⊢
  rw [List.length_map]
  cases q : ixN ns.length _ with
  | none => rw [q] at e2; cases e2
  | some j =>
    rw [q] at e2
    show (ns.map V.int)[j]? = some (.int n)
    rw [List.getElem?_map, show ns[j]? = some n from e2]; rfl
theorem em_slS (hv : PE X (.Name x p) (tVar i)) (hl : OM X lo l) (hh : OM X hi h) : EM X (.Subscript (.Name x p) (.Slice lo hi none p2) pos) (mSlS i l h) := by
  refine ⟨fun ρ k k' w ⟨ns, e, q⟩ => ⟨ns, e, hl.mono ρ _ _ (fun a ρ1 q1 => hh.mono ρ1 _ _ (fun b ρ2 q2 => w _ _ q2) q1) q⟩, pe_weak (pe_slice sl_list hv hl.run hh.run) ?_⟩
  rintro σ H Q ⟨G, loc, ρ, R, ns, e, q⟩
  obtain ⟨v, h1, h2⟩ := R.dat i _ e
  refine ⟨v, h1, G, loc, ρ, R, hl.mono ρ _ _ (fun lo ρ1 q1 H1 R1 g1 => ?_) q⟩
  refine ⟨G, loc, ρ1, R1, hh.mono ρ1 _ _ (fun hi ρ2 q2 H2 R2 g2 => ?_) q1⟩
  obtain ⟨a, rfl, sq, _⟩ := (h2.g (g1.trans g2)).scrA
  refine ⟨a, _, rfl, sq, ?_⟩
  have d0 := dx_cut (DxAll.of_ints (K := X.K) (H := H2) (F := Fb G.fb ρ2 loc) ns) lo hi
  have e0 : cutL (ns.map PyData.int) lo hi = (cutL ns lo hi).map PyData.int := by unfold cutL; rw [List.length_map, ← List.map_drop, ← List.map_take]
  rw [e0] at d0
  exact new_lst R2.fbE d0 fun w H3 m3 d3 => q2 w H3 (R2.more m3) ((g1.trans g2).trans (more_grow m3)) d3
end
end DL

namespace DL
open PySem PySem.Spec PyProof.Rows L2

/-! ### int(t, 36) -/
namespace B36
open PySem.NumText PySem.Calls
def IsB (c : Nat) : Prop := (48 ≤ c ∧ c ≤ 57) ∨ (97 ≤ c ∧ c ≤ 122)
def bv (c : Nat) : Nat := if c ≤ 57 then c - 48 else c - 87
def num (l : List Nat) : Nat := l.foldl (fun a c => a * 36 + bv c) 0
theorem bv_lt {c : Nat} (h : IsB c) : bv c < 36 := by
  unfold IsB at h
  unfold bv
  split <;> omega
theorem digit_b {c : Nat} (h : IsB c) : digit? c = some (bv c) := by
  unfold IsB at h
  unfold digit? bv
  rcases h with h | h
  · rw [if_pos (Hx.bb h.1 h.2), if_pos h.2]
  · rw [if_neg (Hx.bn (show ¬ (48 ≤ c ∧ c ≤ 57) by omega)), if_pos (Hx.bb (show 97 ≤ c from h.1) (show c ≤ 122 by omega)), if_neg (show ¬ c ≤ 57 by omega)]
theorem rng {c : Nat} (h : IsB c) : 48 ≤ c ∧ c ≤ 122 ∧ c ≠ 95 := by
  unfold IsB at h
  exact ⟨by omega, by omega, by omega⟩
theorem step_b {ds : Array Nat} {b : Bool} {c : Nat} (h : IsB c) : PySem.NumText.step 36 (ds, b) c = some (ds.push (bv c), true) := by
  have hr := rng h
  unfold PySem.NumText.step
  rw [if_neg (by rw [beq_iff_eq]; exact hr.2.2), digit_b h]
  exact if_pos (bv_lt h)
theorem foldl_b : ∀ (cs : List Nat) (ds : Array Nat), (∀ c ∈ cs, IsB c) → cs.foldlM (PySem.NumText.step 36) (ds, true) = some (cs.foldl (fun acc c => acc.push (bv c)) ds, true)
  | [], _, _ => rfl
  | c :: cs, ds, h => by
    rw [List.foldlM_cons, step_b (h c (List.mem_cons_self ..))]
    show cs.foldlM (PySem.NumText.step 36) (ds.push (bv c), true) = _
    exact foldl_b cs (ds.push (bv c)) fun d hd => h d (List.mem_cons_of_mem _ hd)
theorem digits_b {cs : List Nat} (h : ∀ c ∈ cs, IsB c) (hne : cs ≠ []) : digits? 36 cs = some (cs.foldl (fun acc c => acc.push (bv c)) #[]) := by
  cases cs with
  | nil => exact absurd rfl hne
  | cons c cs =>
    unfold digits?
    rw [List.foldlM_cons, step_b (h c (List.mem_cons_self ..))]
    show (cs.foldlM (PySem.NumText.step 36) ((#[] : Array Nat).push (bv c), true)).bind _ = _
    rw [foldl_b cs _ fun d hd => h d (List.mem_cons_of_mem _ hd)]
    rfl
theorem push_b : ∀ (cs : List Nat) (ds : Array Nat), (cs.foldl (fun acc c => acc.push (bv c)) ds).foldl (fun acc d => acc * 36 + d) 0 = cs.foldl (fun a c => a * 36 + bv c) (ds.foldl (fun acc d => acc * 36 + d) 0)
  | [], _ => rfl
  | c :: cs, ds => by
    rw [List.foldl_cons, push_b cs (ds.push (bv c)), List.foldl_cons]
    congr 1
    simp
theorem dropB {cs : List Nat} (h : ∀ c ∈ cs, IsB c) : cs.dropWhile blank = cs := by
  cases cs with
  | nil => rfl
  | cons c cs => exact dropWhile_of (by have := rng (h c (List.mem_cons_self ..)); omega)
theorem signB {cs : List Nat} (h : ∀ c ∈ cs, IsB c) : sign cs = (false, cs) := by
  cases cs with
  | nil => rfl
  | cons c cs =>
    have := rng (h c (List.mem_cons_self ..))
    exact sign_of (by omega) (by omega)
theorem basedB {cs : List Nat} : based 36 cs = (36, false, cs) := by
  unfold based
  split
  · rename_i p e
    have hp : p ≠ 36 := by
      have e : (match (generalizing := false) cs with | 48 :: c :: _ => (if (c == 120 || c == 88) = true then some 16 else if (c == 111 || c == 79) = true then some 8 else if (c == 98 || c == 66) = true then some 2 else none) | _ => none) = some p := e
      repeat' split at e
      all_goals first | (cases e; done) | (cases e; decide)
    rw [if_neg (by rw [Bool.or_eq_true, beq_iff_eq, beq_iff_eq]; omega)]
  · rfl
theorem read_b {cs : List Nat} (h : ∀ c ∈ cs, IsB c) (hne : cs ≠ []) : (int_private% "readNumeral") 0 36 cs = (int_private% "Numeral.value") ((num cs : Nat) : Int) := by
  have hr : ∀ c ∈ cs.reverse, IsB c := fun c hc => h c (List.mem_reverse.mp hc)
  refine (readNumeral_eq 0 36 cs).trans ?_
  rw [dropB h, signB h]
  show judge 0 false (based 36 cs).1 (based 36 cs).2.1 (digits? (based 36 cs).1 (((based 36 cs).2.2.reverse.dropWhile blank).reverse)) = _
  rw [basedB]
  show judge 0 false 36 false (digits? 36 ((cs.reverse.dropWhile blank).reverse)) = _
  rw [dropB hr, List.reverse_reverse, digits_b h hne]
  show (int_private% "Numeral.value") (((cs.foldl (fun acc c => acc.push (bv c)) (#[] : Array Nat)).foldl (fun acc d => acc * 36 + d) 0 : Nat) : Int) = _
  have z : (#[] : Array Nat).foldl (fun acc d => acc * 36 + d) 0 = 0 := by first | rfl | simp
  rw [push_b, z] <;> rfl
theorem seen_b {x : Str} (h : ∀ c ∈ x.cps.toList, IsB c) : numTextOf x = x.cps.toList ∧ numSeenOf x = x.cps.toList := by
  have e1 : numTextOf x = x.cps.toList := by
    refine if_pos ?_
    rw [← Array.all_toList, List.all_eq_true]
    intro c hc
    have := rng (h c hc)
    exact decide_eq_true (by omega)
  refine ⟨e1, ?_⟩
  show (numTextOf x).takeWhile _ = _
  rw [e1]
  refine takeWhile_all fun c hc => ?_
  have := rng (h c hc)
  exact bne_iff_ne.mpr (by omega)
set_option maxHeartbeats 4000000 in
theorem gives_b {x : PySem.Str} {u t : Tok} (hl : x.length ≤ 640) (h : ∀ c ∈ x.cps.toList, IsB c) (hne : x.cps.toList ≠ []) :
    PySem.Gives (Builtin.«int.__new__» ⟨[.type "int", .str x u, .int 36 t], []⟩) (.int ((num x.cps.toList : Nat) : Int)) :=
  .of_wp fun M A E s Q hQ => by
    obtain ⟨hp, g, d, tk, os⟩ := s
    have f1 := F.conv_sub_int
    have f2 := F.madeHere_int
    have f6 : typeOf (.str x u) = pure (.type "str") := rfl
    obtain ⟨e1, e2⟩ := seen_b h
    have hs : (numSeenOf x).length ≤ 640 := by
      rw [e2, Array.length_toList]
      exact hl
    have hr : (int_private% "readNumeral") 0 36 (numSeenOf x) = (int_private% "Numeral.value") ((num x.cps.toList : Nat) : Int) := by
      rw [e2]
      exact read_b h hne
    have ha : ((numSeenOf x).length == (numTextOf x).length) = true := by
      rw [e1, e2]
      exact beq_self_eq_true _
    have hk := Hx.Hid.mk (And.intro hs (And.intro hr ha))
    clear hs hr ha e1 e2 hl hne h
    repeat (any_goals (first
      | assumption
      | ((with_reducible show wpAny _ _ ((int_private% "intFromText") _ _ _) _ _ _); refine Hx.wp_textB hk.out.1 hk.out.2.1 hk.out.2.2 ?_)
      | wp_step))
    all_goals first | exact ⟨_, rfl, hQ⟩ | skip
theorem call_b {prog : Program} {w : World} {A : Around} {E : Value → Shared → Prop} {s : Shared} {Q : Value → Shared → Prop} {x : PySem.Str} {u t : Tok} (hl : x.length ≤ 640) (h : ∀ c ∈ x.cps.toList, IsB c) (hne : x.cps.toList ≠ [])
    (hQ : Q (.int ((num x.cps.toList : Nat) : Int) s.toks) { s with toks := s.toks + 1 }) : wpAny (model prog w) A (call (.type "int") [.str x u, .int 36 t]) Q E s :=
  callType_new F.called_int F.newNe_int (Hx.typeCall_int_2 _ _) (Hx.newCall_int_2 _ _) (fun obj => F.initArgs_range_2 obj _ _) F.entry_int_new (gives_b hl h hne).meets (show (Made.int ((num x.cps.toList : Nat) : Int)).post _ s from ⟨rfl, hQ⟩)
end B36
def rInt36 : List V → Hp → VK → Prop := fun xs H Q => ∃ z : Str, xs = [.str z, .int 36] ∧ z.cps.toList ≠ [] ∧ z.length ≤ 640 ∧ (∀ c ∈ z.cps.toList, B36.IsB c) ∧ Q (.int ((B36.num z.cps.toList : Nat) : Int)) H
theorem call_int36 {X : Cx} : CallR X (.type "int") rInt36 := by
  intro pins s σ H xs us Q I r h
  obtain ⟨l, rfl, hne, hl, hx, q⟩ := h
  obtain ⟨u, w', rfl, r1, r2⟩ := r.two
  obtain ⟨t1, rfl⟩ := r1
  obtain ⟨t2, rfl⟩ := r2
  exact B36.call_b hl hx hne ⟨.int ((B36.num l.cps.toList : Nat) : Int), H, I.tok _, ⟨_, rfl⟩, q⟩
def int36D : PC1
  | [.str z, .int 36], k => z.cps.toList ≠ [] ∧ z.length ≤ 640 ∧ (∀ c ∈ z.cps.toList, B36.IsB c) ∧ k (.int ((B36.num z.cps.toList : Nat) : Int))
  | _, _ => False
theorem pm_int36 (ds : List D) : Pm1 (int36D ds) := fun k k' w q => by
  unfold int36D at q ⊢
  split at q
  · exact ⟨q.1, q.2.1, q.2.2.1, w _ q.2.2.2⟩
  · exact q.elim
theorem prim_int36 {K : PySem.W.Frag} : PrimC K rInt36 int36D := by
  intro F H vs ds Q hF hd h
  unfold int36D at h
  split at h
  · obtain ⟨v, u, rfl, dv, du⟩ := dx_two hd
    cases dv
    cases du
    exact ⟨_, rfl, h.1, h.2.1, h.2.2.1, h.2.2.2.now (.int _)⟩
  · exact h.elim
section
variable {X : Cx} {p pos : Pos} {e e2 : Expr} {m : M (List D)}
theorem em_int36 (hm : X.mg "int" = none) (ha : AM X [e, e2] m) (hg : Gl X "int" := by rfl) (he : starEach [e, e2] X.env = (false, eval e X.env) :: starEach [e2] X.env := by rfl) (hpl : (backTo pos (starEach [e2] X.env)).any (·.1) = false := by rfl) : EM X (.Call (.Name "int" p) [e, e2] [] pos) (mCall int36D m) :=
  em_callTy call_int36 prim_int36 pm_int36 hg hm PyProof.Rows.boot_int ha (he := he) (hpl := hpl)
end

/-! ### text[::-1] -/
def revS (z : Str) : Str := ⟨z.cps.toList.reverse.toArray⟩
def tRevS (te : TE) : TE := fun σ H Q => te σ H fun x H1 => ∃ z, x = .str z ∧ z.length ≤ sizeLine ∧ Q (.str (revS z)) H1
theorem pe_revS {X : Cx} {e : Expr} {te : TE} {k : Nat} {p1 p2 p3 pos : Pos} (he : PE X e te) : PE X (.Subscript e (.Slice none none (some (.UnaryOp .USub (.Constant (.int 1) k p1) p2)) p3) pos) (tRevS te) := by
  refine ⟨fun pins s σ H Q I h => ?_⟩
  refine Subscript_ (thn (he.run pins s σ H _ I h) fun v s1 ⟨x, H1, I1, r1, q1⟩ => ?_)
  obtain ⟨z, ex, hz, q⟩ := q1
  subst ex
  obtain ⟨t, rfl⟩ := r1
  have hst : PO X (some (.UnaryOp .USub (.Constant (.int 1) k p1) p2)) (tPart (tUn (rU fun i => .int (-i)) (tC (.int 1)))) := po_some (pe_un un_neg pe_int)
  refine wpAny_Slice (thn (po_none.run pins s1 σ H1 (fun o H2 => o = none ∧ H2 = H1) I1 ⟨rfl, rfl⟩) fun vl s2 ⟨l, H2, I2, pl, el, e2⟩ => ?_)
  subst el e2
  refine thn (po_none.run pins s2 σ H2 (fun o H3 => o = none ∧ H3 = H2) I2 ⟨rfl, rfl⟩) fun vu s3 ⟨u, H3, I3, pu, eu, e3⟩ => ?_
  subst eu e3
  refine thn (hst.run pins s3 σ H3 (fun o H4 => o = some (-1) ∧ H4 = H3) I3 ⟨1, rfl, -1, rfl, rfl, rfl⟩) fun vs s4 ⟨o, H4, I4, ps, eo, e4⟩ => ?_
  subst eo e4
  obtain ⟨l', rfl, el⟩ := IsPart.raw pl
  obtain ⟨u', rfl, eu⟩ := IsPart.raw pu
  obtain ⟨s', rfl, es⟩ := IsPart.raw ps
  have I5 : Inv X pins σ H4 { s4 with heap := s4.heap.push { cls := .type "slice", data := .fields #[partValue l', partValue u', partValue s'] } } := I4.kept (t' := s4.toks) fun b ob q => Heap.get?_push_of_some _ q
  show wpAny (model X.prog X.w) X.A (subscriptTail e (.Slice none none (some (.UnaryOp .USub (.Constant (.int 1) k p1) p2)) p3) (.str z t) (.ref s4.heap.objs.size)) (EP X pins σ Q) X.xe _
  refine tail_any (ops := [.str z t, .ref s4.heap.objs.size]) (typeIs_str _ _ _) F.slot_str_getitem.lookup ?_ (by with_unfolding_all rfl)
  refine wpAny_getItem_str_slice (l := l') (u := u') (st := s') ⟨_, Heap.get?_push_size _ rfl, rfl, rfl⟩ (by rw [es]; rfl) ?_
  have hpick : slicePicked z l' u' s' = (List.range z.cps.size).reverse := by
    unfold slicePicked
    rw [el, eu, es]
    show sliceRange ((z.cps.size : Int) - 1) (-1) (-1) = _
    rw [PySem.W.krv_sliceRange, PySem.W.krv_range]
  have hfm : ((slicePicked z l' u' s').filterMap (z.cps[·]?)) = z.cps.toList.reverse := by
    rw [hpick, List.filterMap_reverse, PySem.W.krv_all]
  unfold sliceMade
  rw [es, if_neg (by intro h; cases (Bool.and_eq_true_iff.mp h).1), hfm]
  exact ⟨by show z.cps.toList.reverse.toArray.size ≤ sizeLine; simpa [Str.length] using hz, .str (revS z), H4, I5.tok _, ⟨_, rfl⟩, q⟩
def mRevS (m : M D) : M D := fun ρ k => m ρ fun d ρ1 => match d with
  | .str z => z.length ≤ sizeLine ∧ k (.str (revS z)) ρ1
  | _ => False
theorem em_revS {X : Cx} {e : Expr} {m : M D} {k : Nat} {p1 p2 p3 pos : Pos} (he : EM X e m) : EM X (.Subscript e (.Slice none none (some (.UnaryOp .USub (.Constant (.int 1) k p1) p2)) p3) pos) (mRevS m) := by
  refine ⟨fun ρ k k' w q => he.mono ρ _ _ (fun d ρ1 q1 => by cases d <;> first | exact q1.elim | exact ⟨q1.1, w _ _ q1.2⟩) q, pe_weak (pe_revS he.run) ?_⟩
  rintro σ H Q ⟨G, loc, ρ, R, q⟩
  refine ⟨G, loc, ρ, R, he.mono ρ _ _ (fun d ρ1 q1 v H1 R1 g1 d1 => ?_) q⟩
  cases d <;> first | exact (show False from q1).elim | skip
  cases d1
  exact ⟨_, rfl, q1.1, q1.2 _ H1 R1 g1 (.str _)⟩
end DL

namespace DL
open PySem PySem.Spec PyProof.Rows L2

/-! ### enumerate(text, start=k) -/
def Ites (z : Str) (k0 : Int) : It :=
  ⟨fun i _ => i < z.cps.size, fun i H v H' => ∃ T c, v = .ref T ∧ H T = none ∧ z.cps[i]? = some c ∧ H' = upd H T (.tup [.int (k0 + (i : Nat)), .str ⟨#[c]⟩]), fun i _ => z.cps.size ≤ i⟩
theorem turn_enumS {P : Program} {w : World} {K : PySem.W.Frag} {elts : List Expr} {kk : Nat} {tpos : Pos} (e it : Addr) (z : Str) (t : Tok) (k0 : Int) (hei : e ≠ it) :
    Turn P w K (.Tuple elts kk tpos) (Ites z k0) [e, it] e (fun i h => i ≤ z.cps.size ∧ (∃ old, IsEnum h e it (k0 + (i : Nat)) old) ∧ h.IsStrIter it (strIterType z) z t i) where
  mem := by simp
  obj := fun i h st b hb => by
    obtain ⟨_, ⟨old, he⟩, ⟨o, ho, hc, hd⟩⟩ := st
    have e' : b = e ∨ b = it := by simpa using hb
    rcases e' with q | q
    · rw [q]; exact ⟨_, he, fun v q => nomatch q⟩
    · rw [q]; exact ⟨o, ho, fun v q => by rw [hd] at q; cases q⟩
  keep := fun i h h' st k => let ⟨hl, ⟨old, he⟩, hi⟩ := st; ⟨hl, ⟨old, k e (by simp) _ he⟩, let ⟨o, ho, r⟩ := hi; ⟨o, k it (by simp) o ho, r⟩⟩
  item := by
    intro X hP hw hK hc i pins s σ H E I hf st hg
    subst hP hw hK
    obtain ⟨hl, st⟩ := st
    have GN := GoesN.enumFrom (prog := X.prog) (w := X.w) (A := X.A) (elts := elts) (x1 := kk) (pos := tpos) k0 (Draws.text (prog := X.prog) (w := X.w) (A := X.A.in1) (I.ok.hd hc) it z t) e hei (by simpa using hei) (by simp)
    have hel : e < s.heap.objs.size := by obtain ⟨old, he⟩ := st.1; exact Heap.lt_size he
    have hil : it < s.heap.objs.size := by obtain ⟨o, ho, _⟩ := st.2; exact Heap.lt_size ho
    refine GN.goes i s (fun u s2 => ∃ x H', L2.Inv X pins σ H' s2 ∧ RelV x u ∧ (Ites z k0).yld i H x H' ∧ (i + 1 ≤ z.cps.size ∧ (∃ old, IsEnum s2.heap e it (k0 + ((i + 1 : Nat) : Int)) old) ∧ s2.heap.IsStrIter it (strIterType z) z t (i + 1)) ∧ ∀ b ∈ [e, it], H' b = none) E hg st fun v h' tk hY st' hk _ => ?_
    obtain ⟨T, t1, x, rfl, hT, ⟨c, t2, hcx, rfl⟩, hTt⟩ := hY
    have hnew : H T = none := I.hok.fresh hT
    have new : ObjOk X.prog X.w (upd H T (.tup [.int (k0 + (i : Nat)), .str ⟨#[c]⟩])) h' T (.tup [.int (k0 + (i : Nat)), .str ⟨#[c]⟩]) :=
      ⟨by show 2 ≤ sizeLine; decide, [.int (k0 + (i : Nat)) t1, .str ⟨#[c]⟩ t2], .cons ⟨_, rfl⟩ (.cons ⟨_, rfl⟩ .nil), hTt⟩
    have I1 := I.turnedNew (t' := tk) (ch := [e, it]) hk hf hT new
    refine ⟨.ref T, _, I1, rfl, ⟨T, c, rfl, hnew, hcx, rfl⟩, ⟨hg, st'⟩, fun b hb => ?_⟩
    have hb' : b < s.heap.objs.size := by
      have e' : b = e ∨ b = it := by simpa using hb
      rcases e' with q | q
      · rw [q]; exact hel
      · rw [q]; exact hil
    rw [upd_ne (Nat.ne_of_lt (Nat.lt_of_lt_of_le hb' hT))]
    exact (hf b hb).1
  done := by
    intro X hP hw hK hc i pins s σ H E I hf st hg
    subst hP hw hK
    obtain ⟨hl, st⟩ := st
    have hi : i = z.cps.size := Nat.le_antisymm hl hg
    subst hi
    have GN := GoesN.enumFrom (prog := X.prog) (w := X.w) (A := X.A) (elts := elts) (x1 := kk) (pos := tpos) k0 (Draws.text (prog := X.prog) (w := X.w) (A := X.A.in1) (I.ok.hd hc) it z t) e hei (by simpa using hei) (by simp)
    exact GN.stops s (fun s1 => L2.Inv X pins σ H s1) E st fun h' tk hk _ => I.turnedL (t' := tk) (ch := [e, it]) hk hf
  self := fun A i s Q E st h => let ⟨_, ⟨_, he⟩, _⟩ := st; wpAny_pyIter_enum he h
theorem callWith_typeKw {M : Model} {A : Around} {E : Value → Shared → Prop} {s : Shared} {pos : Pos} {T : String} {first : List Value} {args : List (Bool × Sem Value)} {keywords : List (Option Str × Sem Value)} {Q : Value → Shared → Prop}
    (hplain : args.any (·.1) = false) (hkw : keywords.any (·.1.isNone) = false)
    (h : wpAny M A (evalArgs (.type T) true args keywords) (fun a s₁ => wpAny M A (call (.type T) (first ++ a.pos) a.kw) Q E s₁) E s) :
    wpAny M A (callWith pos (.type T) first args keywords) Q E s := by
  unfold callWith
  refine wpAny_bind (wpAny_holding (wpAny_mono h (fun a s₁ h₁ => wpAny_bind (wpAny_standAt ?_)) fun _ _ x => x))
  simp only [hplain, hkw, Bool.or_false]
  refine wpAny_bind (wpAny_pure ?_)
  exact wpAny_bind (wpAny_mono h₁ (fun r s₂ hr => wpAny_bind (wpAny_holding (wpAny_point (wpAny_pure hr)))) fun _ _ x => x)
def iEnumS (ta tk : TA) : TI := fun σ H R => ta σ H fun xs H1 => tk σ H1 fun ys H2 => ∃ z k, xs = [.str z] ∧ ys = [.int k] ∧ -(2 ^ 63) ≤ k ∧ k < 2 ^ 63 ∧ R (Ites z k) H2
theorem pi_enumS {X : Cx} {e ek : Expr} {ta tk : TA} {p pos kpos tpos : Pos} {elts : List Expr} {kk : Nat} (hg : Gl X "enumerate") (hm : X.mg "enumerate" = none) (ha : PA X [e] ta) (hk : PK X [⟨some "start", ek, kpos⟩] tk)
    (he : starEach [e] X.env = (false, eval e X.env) :: starEach [] X.env := by rfl)
    (hpl : (backTo pos (starEach [e] X.env)).any (·.1) = false := by rfl) (hall : (backToKw pos (keywordEach [⟨some "start", ek, kpos⟩] X.env)).all (·.1.isSome) = true := by rfl) (hnone : (backToKw pos (keywordEach [⟨some "start", ek, kpos⟩] X.env)).any (·.1.isNone) = false := by rfl)
    (hks : (backToKw pos (keywordEach [⟨some "start", ek, kpos⟩] X.env)).filterMap (·.1) = [Str.ofString "start"] := by rfl) :
    PI X (.Tuple elts kk tpos) (.Call (.Name "enumerate" p) [e] [⟨some "start", ek, kpos⟩] pos) (iEnumS ta tk) := by
  refine ⟨fun pins s σ H R I h => ?_⟩
  refine wpAny_Call_Name_kw (ld_blt I hg hm boot_enumerate (callWith_typeKw hpl hnone ?_))
  have hA : wpAny (model X.prog X.w) X.A (spliced (backTo pos (starEach [e] X.env))) (fun us s1 => wpAny (model X.prog X.w) X.A (evalAll ((backToKw pos (keywordEach [⟨some "start", ek, kpos⟩] X.env)).map (·.2)))
      (fun ws s2 => wpAny (model X.prog X.w) X.A (call (.type "enumerate") us (((backToKw pos (keywordEach [⟨some "start", ek, kpos⟩] X.env)).filterMap (·.1)).zip ws)) (fun v s3 => wpAny (model X.prog X.w) X.A (pyIter v) (PIE X pins σ (.Tuple elts kk tpos) R) X.xe s3) X.xe s2) X.xe s1) X.xe s := by
    refine thn (ha.run pos pins s σ H _ I h) fun us s1 ⟨vs, H1, I1, r1, q1⟩ => ?_
    · refine thn (hk.run pos pins s1 σ H1 _ I1 q1) fun ws s2 ⟨zs, H2, I2, r2, z, k, e1, e2, k0, k1, q2⟩ => ?_
      · subst e1 e2
        obtain ⟨u, rfl, ru⟩ := r1.one
        obtain ⟨u', rfl, ru'⟩ := r2.one
        obtain ⟨t, rfl⟩ := ru
        obtain ⟨t', rfl⟩ := ru'
        rw [hks]
        refine enum_begins_start (begins_text z t) trivial k0 k1 fun h' hen hit hsz hkeep => wpAny_pyIter_enum hen ?_
        have I3 : L2.Inv X pins σ H2 { s2 with heap := h' } := I2.kept (t' := s2.toks) hkeep
        refine ⟨s2.heap.objs.size + 1, [s2.heap.objs.size + 1, s2.heap.objs.size], _, _, H2, rfl, I3, turn_enumS (s2.heap.objs.size + 1) s2.heap.objs.size z t k (Nat.succ_ne_self _), ⟨Nat.zero_le _, ⟨.none, by simpa using hen⟩, ⟨_, hit, rfl, rfl⟩⟩, fun b hb => ?_, q2⟩
        have e' : b = s2.heap.objs.size + 1 ∨ b = s2.heap.objs.size := by simpa using hb
        have hle : s2.heap.objs.size ≤ b := by
          rcases e' with z | z
          · rw [z]; exact Nat.le_add_right _ _
          · rw [z]; exact Nat.le_refl _
        exact I2.fpOk hle (I2.hok.fresh hle)
  rw [he] at hA ⊢
  exact evalArgs_kwB hall hA
theorem gives_enumS {K : PySem.W.Frag} {F : AS} {H : Hp} (z : Str) (k : Int) : Gives K F H (Ites z k) (z.cps.toList.zipIdx.map fun p => PyData.tuple [.int (k + (p.2 : Nat)), .str ⟨#[p.1]⟩]) := by
  intro i F' H' g hf
  refine ⟨fun y hy => ?_, fun hl => ?_⟩
  · rw [List.getElem?_map, List.getElem?_zipIdx] at hy
    cases hc : z.cps.toList[i]? with
    | none => rw [hc] at hy; cases hy
    | some c =>
      rw [hc] at hy
      cases hy
      have hlt : i < z.cps.size := by simpa using (List.getElem?_eq_some_iff.mp hc).1
      refine ⟨hlt, fun x H2 hx => ?_⟩
      obtain ⟨T, c', rfl, hT, e1, rfl⟩ := hx
      rw [← Array.getElem?_toList, hc] at e1
      cases e1
      have := dx_new2 (K := K) hf hT (.int (k + (i : Nat))) (.str ⟨#[c]⟩)
      simpa using this
  · show z.cps.size ≤ i
    simpa using hl
def mEnumS (m : M (List D)) (mk : M D) : M (List D) := fun ρ k => m ρ fun ds ρ1 => mk ρ1 fun e ρ2 => match ds, e with
  | [.str z], .int n => -(2 ^ 63) ≤ n ∧ n < 2 ^ 63 ∧ k (z.cps.toList.zipIdx.map fun p => PyData.tuple [.int (n + (p.2 : Nat)), .str ⟨#[p.1]⟩]) ρ2
  | _, _ => False
theorem im_enumS {X : Cx} {e ek : Expr} {ms : M (List D)} {mk : M D} {p pos kpos tpos : Pos} {elts : List Expr} {kk : Nat} (ha : AM X [e] ms) (hk : EM X ek mk) (hm : X.mg "enumerate" = none) (hg : Gl X "enumerate" := by rfl)
    (he : starEach [e] X.env = (false, eval e X.env) :: starEach [] X.env := by rfl)
    (hpl : (backTo pos (starEach [e] X.env)).any (·.1) = false := by rfl) (hall : (backToKw pos (keywordEach [⟨some "start", ek, kpos⟩] X.env)).all (·.1.isSome) = true := by rfl) (hnone : (backToKw pos (keywordEach [⟨some "start", ek, kpos⟩] X.env)).any (·.1.isNone) = false := by rfl)
    (hks : (backToKw pos (keywordEach [⟨some "start", ek, kpos⟩] X.env)).filterMap (·.1) = [Str.ofString "start"] := by rfl) :
    IM X (.Tuple elts kk tpos) (.Call (.Name "enumerate" p) [e] [⟨some "start", ek, kpos⟩] pos) (mEnumS ms mk) := by
  refine ⟨fun ρ k k' w q => ha.mono ρ _ _ (fun ds ρ1 q1 => hk.mono ρ1 _ _ (fun e ρ2 q2 => ?_) q1) q, pi_weak (pi_enumS hg hm ha.run (pk_cons hk.run pk_nil) he hpl hall hnone hks) ?_⟩
  · split at q2
    · exact ⟨q2.1, q2.2.1, w _ _ q2.2.2⟩
    · exact q2.elim
  · rintro σ H Q ⟨G, loc, ρ, R, q⟩
    refine ⟨G, loc, ρ, R, ha.mono ρ _ _ (fun ds ρ1 q1 vs H1 R1 g1 d1 => ?_) q⟩
    refine ⟨G, loc, ρ1, R1, hk.mono ρ1 _ _ (fun e ρ2 q2 v H2 R2 g2 d2 => ?_) q1⟩
    split at q2
    · obtain ⟨u, rfl, du⟩ := dx_one d1
      cases du
      cases d2
      exact ⟨_, _, rfl, rfl, q2.1, q2.2.1, q2.2.2 _ _ R2 (g1.trans g2) (gives_enumS _ _)⟩
    · exact q2.elim

/-! ### {text: int for .. in ..} -/
def putS (acc : List (Str × Int)) (x : Str) (n : Int) : List (Str × Int) := if (acc.any fun kv => decide (kv.1 = x)) = true then acc.map (fun kv => if kv.1 = x then (kv.1, n) else kv) else acc ++ [(x, n)]
theorem dsiV_put (acc : List (Str × Int)) (x : Str) (n : Int) : dsiV (putS acc x n) = putK (dsiV acc) (Sum.inr x) (.int n) := by
  have ha : ((dsiV acc).any fun kv => decide (kv.1 = (Sum.inr x : Key))) = acc.any fun kv => decide (kv.1 = x) := by
    unfold dsiV
    rw [List.any_map]
    congr 1
    funext kv
    show decide ((Sum.inr kv.1 : Key) = Sum.inr x) = decide (kv.1 = x)
    exact decide_eq_decide.mpr ⟨fun z => Sum.inr.inj z, fun z => by rw [z]⟩
  unfold putS putK
  rw [ha]
  split
  · unfold dsiV
    rw [List.map_map, List.map_map]
    congr 1
    funext kv
    show (Sum.inr (if kv.1 = x then (kv.1, n) else kv).1, V.int (if kv.1 = x then (kv.1, n) else kv).2) = if (Sum.inr kv.1 : Key) = Sum.inr x then ((Sum.inr kv.1 : Key), V.int n) else (Sum.inr kv.1, V.int kv.2)
    by_cases h : kv.1 = x
    · rw [if_pos h, if_pos (by rw [h])]
    · rw [if_neg h, if_neg fun z => h (Sum.inr.inj z)]
  · unfold dsiV
    rw [List.map_append]; rfl
def dcLoop (g : GMn) (tk tv : M D) (vs : List Nat) (k : List (Str × Int) → List Slot → Prop) : List D → List (Str × Int) → List Slot → Prop
  | [], acc, ρ => k acc (wipeS ρ vs)
  | d :: ds, acc, ρ => g d ρ fun ρ1 => tk ρ1 fun x ρ2 => tv ρ2 fun y ρ3 => match x, y with
    | .str s, .int n => acc.length < sizeLine ∧ dcLoop g tk tv vs k ds (putS acc s n) (wipeS ρ3 vs)
    | _, _ => False
def mDc (mi : M (List D)) (g : GMn) (tk tv : M D) (vs : List Nat) : M D := fun ρ k => mi ρ fun ds ρ1 => dcLoop g tk tv vs (fun l ρ2 => k (.dict (dsiD l)) ρ2) ds [] (wipeS ρ1 vs)
theorem mono_dcLoop {g : GMn} {tk tv : M D} {vs : List Nat} (hg : ∀ d ρ (k k' : List Slot → Prop), (∀ ρ', k ρ' → k' ρ') → g d ρ k → g d ρ k') (hk : Mono tk) (hv : Mono tv) {k k' : List (Str × Int) → List Slot → Prop} (w : ∀ a ρ, k a ρ → k' a ρ) :
    ∀ (ds : List D) (acc : List (Str × Int)) (ρ : List Slot), dcLoop g tk tv vs k ds acc ρ → dcLoop g tk tv vs k' ds acc ρ
  | [], acc, ρ, q => w _ _ q
  | d :: ds, acc, ρ, q => hg d ρ _ _ (fun ρ1 q1 => hk ρ1 _ _ (fun x ρ2 q2 => hv ρ2 _ _ (fun y ρ3 q3 => by
    split at q3
    · exact ⟨q3.1, mono_dcLoop hg hk hv w ds _ _ q3.2⟩
    · exact q3.elim) q2) q1) q
theorem dsiV_len (l : List (Str × Int)) : (dsiV l).length = l.length := by unfold dsiV; rw [List.length_map]
/-- a new object is at hand -/
theorem Rep.plusNew {K : PySem.W.Frag} {G : Fr} {ρ : List Slot} {loc : Nat → Addr} {σ : L2.St} {H : Hp} {o : HO} (R : Rep K G ρ loc σ H) {p : Addr} (hp : H p = none) :
    G.H0 p = none ∧ ¬ G.fb p ∧ Rep K (G.plus p) ρ loc σ (upd H p o) ∧ Grow (Fb G.fb ρ loc) (Fb (G.plus p).fb ρ loc) H (upd H p o) := by
  have g : Grow (Fb G.fb ρ loc) (Fb (G.plus p).fb ρ loc) H (upd H p o) := fun b o e n => ⟨upd_more hp b o e, fun z => by
    rcases z with (z | z) | z
    · exact n (.inl z)
    · rw [z, hp] at e; cases e
    · exact n (.inr z)⟩
  refine ⟨R.h0 hp, fun z => R.notFb hp (.inl z), ⟨R.len, fun i d e => ?_, fun i b ds e => ?_, R.apart, R.brw, fun i ds e => ?_, fun b o e n => upd_more hp b o (R.ext b o e n), fun b e => ?_, fun b e => .inl (R.bwS b e), R.raw.plus (upd_more hp) hp g⟩, g⟩
  · obtain ⟨v, h1, h2⟩ := R.dat i d e
    exact ⟨v, h1, h2.g g⟩
  · obtain ⟨h1, vs, h2, h3⟩ := R.own i b ds e
    exact ⟨h1, vs, upd_more hp _ _ h2, h3.g g⟩
  · obtain ⟨h1, h2⟩ := R.new i ds e
    refine ⟨h1, fun z => ?_⟩
    rcases z with z | z
    · exact h2 z
    · obtain ⟨_, vs, q, _⟩ := R.own i false ds e
      rw [z, hp] at q; cases q
  · rcases e with e | e
    · obtain ⟨o, q⟩ := R.fbS b e
      exact ⟨o, upd_more hp _ _ q⟩
    · rw [e]; exact ⟨_, upd_same⟩
theorem dc_meets {K : PySem.W.Frag} {mi : M (List D)} {g : GMn} {tk tv : M D} {vs : List Nat} (hi : Mono mi) (hg : ∀ d ρ (k k' : List Slot → Prop), (∀ ρ', k ρ' → k' ρ') → g d ρ k → g d ρ k') (hk : Mono tk) (hv : Mono tv)
    {σ : L2.St} {H : Hp} {Q : VK} (h : TEof K (mDc mi g tk tv vs) σ H Q) : tDc (TIof K mi) (TGof K vs g) tYes (TEof K tk) (TEof K tv) vs σ H Q := by
  obtain ⟨G, loc, ρ, R, q⟩ := h
  refine ⟨G, loc, ρ, R, hi ρ _ _ (fun ds ρ1 q1 J H1 R1 g1 gv D hD => ?_) q⟩
  obtain ⟨h0, np, RD, gD⟩ := R1.plusNew (o := .dK []) hD
  have bs := R.bwS
  refine ⟨fun i m H2 => ∃ ρ2 acc, m = ds.length - i ∧ Rep K (G.plus D) ρ2 loc (wipe σ vs) H2 ∧ H2 D = some (.dK (dsiV acc)) ∧ Grow (Fb G.fb ρ1 loc) (Fb (G.plus D).fb ρ2 loc) H1 H2 ∧
    dcLoop g tk tv vs (fun l ρ' => ∀ v H', Rep K G ρ' loc σ H' → Grow (Fb G.fb ρ loc) (Fb G.fb ρ' loc) H H' → Dx K H' (Fb G.fb ρ' loc) v (.dict (dsiD l)) → Q v H') (ds.drop i) acc ρ2,
    ⟨_, wipeS ρ1 vs, [], rfl, RD.wipe (wipe_wipe σ vs).symm, upd_same, gD.weak fun b z => Fb_wipe b z, by simpa using q1⟩, ?_⟩
  rintro i m H2 ⟨ρ2, acc, hm, R2, e2, g2, q2⟩
  obtain ⟨gv1, gv2⟩ := gv i _ H2 g2 R2.fbE
  cases hd : ds[i]? with
  | none =>
    have hl : ds.length ≤ i := List.getElem?_eq_none_iff.mp hd
    rw [List.drop_eq_nil_of_le hl] at q2
    have R3 := R2.wipe (σ := σ) (wipe_wipe σ vs)
    obtain ⟨R4, n4⟩ := R3.unplus bs np
    exact .inl ⟨gv2 hl, q2 _ H2 R4 (((g1.trans g2).weak fun b z => Fb_wipe b z).weak Fb.plus_sub) (.dsi acc rfl n4 e2)⟩
  | some d =>
    obtain ⟨hl, hd'⟩ := List.getElem?_eq_some_iff.mp hd
    have e : ds.drop i = d :: ds.drop (i + 1) := by rw [← hd']; exact List.drop_eq_getElem_cons hl
    rw [e] at q2
    obtain ⟨go, yl⟩ := gv1 d hd
    refine .inr ⟨go, fun H3 => ∃ ρ3 acc, Rep K (G.plus D) ρ3 loc (wipe σ vs) H3 ∧ H3 D = some (.dK (dsiV acc)) ∧ Grow (Fb G.fb ρ1 loc) (Fb (G.plus D).fb ρ3 loc) H1 H3 ∧
      dcLoop g tk tv vs (fun l ρ' => ∀ v H', Rep K G ρ' loc σ H' → Grow (Fb G.fb ρ loc) (Fb G.fb ρ' loc) H H' → Dx K H' (Fb G.fb ρ' loc) v (.dict (dsiD l)) → Q v H') (ds.drop (i + 1)) acc ρ3,
      fun H3 ⟨ρ3, acc, a1, a2, a4, a5⟩ => ⟨_, by omega, ρ3, acc, rfl, a1, a2, a4, a5⟩, fun x H3 y3 => ?_⟩
    obtain ⟨m3, d3⟩ := yl x H3 y3
    have R3 := (R2.more m3).pin (m3 _ _ e2)
    refine ⟨G.pin D (.dK (dsiV acc)), loc, ρ2, d, R3, d3, hg _ _ _ _ (fun ρ4 q4 σ4 H4 R4 g4 w4 => ⟨w4.trans (wipe_wipe σ vs), ?_⟩) q2⟩
    unfold tYes
    simp only [if_true]
    have w4' : L2.wipe σ4 vs = L2.wipe (L2.wipe σ vs) vs := w4
    refine ⟨G.pin D (.dK (dsiV acc)), loc, ρ4, R4, hk _ _ _ (fun x ρ5 q5 v5 H5 R5 g5 d5 => ?_) q4⟩
    refine ⟨G.pin D (.dK (dsiV acc)), loc, ρ5, R5, hv _ _ _ (fun y ρ6 q6 v6 H6 R6 g6 d6 => ?_) q5⟩
    have g26 : Grow (Fb (G.plus D).fb ρ2 loc) (Fb (G.plus D).fb ρ6 loc) H2 H6 := (more_grow m3).trans (g4.trans (g5.trans g6))
    obtain ⟨R7, e7⟩ := R6.unpin h0 fun z => np (bs _ z)
    split at q6
    · cases d5
      cases d6
      rename_i s n
      obtain ⟨R8, g8⟩ := R7.wrP (o := .dK (dsiV (putS acc s n))) h0 np bs
      refine ⟨dsiV acc, Sum.inr s, rfl, e7, by rw [dsiV_len]; exact q6.1, ?_⟩
      rw [← dsiV_put]
      exact ⟨wipeS ρ6 vs, putS acc s n, R8.wipe w4', upd_same, ((g2.trans g26).trans g8).weak fun b z => Fb_wipe b z, q6.2⟩
    · exact q6.elim
section
variable {X : Cx} {kx vx tg iter : Expr} {scope : Scope} {pos spos : Pos} {mi : M (List D)} {g : GMn} {tk tv : M D}
theorem mono_dc {vs : List Nat} (hi : Mono mi) (hg : ∀ d ρ (k k' : List Slot → Prop), (∀ ρ', k ρ' → k' ρ') → g d ρ k → g d ρ k') (hk : Mono tk) (hv : Mono tv) : Mono (mDc mi g tk tv vs) :=
  fun ρ k k' w q => hi ρ _ _ (fun ds ρ1 q1 => mono_dcLoop hg hk hv (fun _ _ z => w _ _ z) ds _ _ q1) q
theorem em_dc (own : List (Str × Nat)) (hc : X.calm = true) (hN : X.N.Nodup) (hi : IM X tg iter mi) (ok : blkC X.N X.env.scope scope own = true)
    (hg : ∀ (s : Shared) (H : Hp) (C : Addr) (cl : List (Str × Addr)) (fp : List Addr), GM (X.blk s H scope (compEnvC scope cl C X.env) fp) (own.map (·.2)) tg g)
    (hk : ∀ (s : Shared) (H : Hp) (C : Addr) (cl : List (Str × Addr)) (fp : List Addr), EM (X.blk s H scope (compEnvC scope cl C X.env) fp) kx tk)
    (he : ∀ (s : Shared) (H : Hp) (C : Addr) (cl : List (Str × Addr)) (fp : List Addr), EM (X.blk s H scope (compEnvC scope cl C X.env) fp) vx tv) (hs : ∀ x, foldedSetIterable iter X.env x = pure x := by intro _; rfl) :
    EM X (.DictComp kx vx [⟨tg, iter, [], 0⟩] scope pos) (mDc mi g tk tv (own.map (·.2))) := by
  have z1 := (hg X.s_0 X.H_0 0 [] []).mono
  have z2 := (hk X.s_0 X.H_0 0 [] []).mono
  have z3 := (he X.s_0 X.H_0 0 [] []).mono
  exact ⟨mono_dc hi.mono z1 z2 z3, pe_weak (pe_dc (wi := TIof X.K mi) (g := TGof X.K (own.map (·.2)) g) (tt := tYes) (tk := TEof X.K tk) (tv := TEof X.K tv) hc hN hi.run (blkOk_by ok) (fun s H C cl fp => (hg s H C cl fp).run) (fun _ _ _ _ _ => pts_nil) (fun s H C cl fp => (hk s H C cl fp).run) (fun s H C cl fp => (he s H C cl fp).run) hs)
    fun σ H Q h => dc_meets hi.mono z1 z2 z3 h⟩
theorem sm_setDc (own : List (Str × Nat)) {i : Nat} {y : Str} {py : Pos} (hc : X.calm = true) (hN : X.N.Nodup) (hy : X.N[i]? = some y) (hyl : X.env.scope.names.lookup y = some .local)
    (hsw : swapsWith (.DictComp kx vx [⟨tg, iter, [], 0⟩] scope pos) (some (.Name y py)) spos.line X.env = pure true) (hi : IM X tg iter mi) (ok : blkC X.N X.env.scope scope own = true)
    (hg : ∀ (s : Shared) (H : Hp) (C : Addr) (cl : List (Str × Addr)) (fp : List Addr), GM (X.blk s H scope (compEnvC scope cl C X.env) fp) (own.map (·.2)) tg g)
    (hk : ∀ (s : Shared) (H : Hp) (C : Addr) (cl : List (Str × Addr)) (fp : List Addr), EM (X.blk s H scope (compEnvC scope cl C X.env) fp) kx tk)
    (he : ∀ (s : Shared) (H : Hp) (C : Addr) (cl : List (Str × Addr)) (fp : List Addr), EM (X.blk s H scope (compEnvC scope cl C X.env) fp) vx tv) (hs : ∀ x, foldedSetIterable iter X.env x = pure x := by intro _; rfl) :
    SM X (.Assign [.Name y py] (.DictComp kx vx [⟨tg, iter, [], 0⟩] scope pos) spos) (sSet i (mDc mi g tk tv (own.map (·.2)))) := by
  have z1 := (hg X.s_0 X.H_0 0 [] []).mono
  have z2 := (hk X.s_0 X.H_0 0 [] []).mono
  have z3 := (he X.s_0 X.H_0 0 [] []).mono
  have mm := mono_dc (vs := own.map (·.2)) hi.mono z1 z2 z3
  refine ⟨fun k k' ρ l q => mm ρ _ _ (fun _ ρ1 q1 => l.nx _ q1) q, ⟨fun pins s σ H D I h => ?_⟩⟩
  rw [exec_Assign_Name_used _ _ _ _ hsw]
  refine wpAny_bind (wpAny_standAt (wpAny_bind ?_))
  show wpAny _ X.A (do let _ ← comprehension (.DictComp kx vx [⟨tg, iter, [], 0⟩] scope pos) scope X.env (firstIterPos [⟨tg, iter, [], 0⟩] pos) newDict false (eval iter X.env) (some (assign (.Name y py) X.env))) _ _ s
  have h2 : tDc (TIof X.K mi) (TGof X.K (own.map (·.2)) g) tYes (TEof X.K tk) (TEof X.K tv) (own.map (·.2)) σ H (fun x H1 => gName i x σ H1 D.nx) := by
    obtain ⟨G, loc, ρ, k, R, q, l1, l2, l3, l4⟩ := h
    exact dc_meets hi.mono z1 z2 z3 ⟨G, loc, ρ, R, mm ρ _ _ (fun d ρ1 q1 v H1 R1 g1 d1 => l1 _ _ _ _ (R1.put i d1) (g1.trans put_grow) q1) q⟩
  refine wpAny_bind (thn (dc_core (Qf := fun _ s' => SP X pins D .next s') hc hN I hi.run (blkOk_by ok) (fun s H C cl fp => (hg s H C cl fp).run) (fun _ _ _ _ _ => pts_nil) (fun s H C cl fp => (hk s H C cl fp).run) (fun s H C cl fp => (he s H C cl fp).run) hs h2 fun L C s' m H' I' q hn f => ?_) fun _ s' hq => wpAny_pure (wpAny_pure hq))
  show wpAny _ _ (assign (.Name y py) X.env (.ref L)) _ _ _
  refine wpAny_assign_Name (store_ok2 (v := V.ref L) I' hN hy (.inl hyl) rfl (fun s2 I2 ⟨a, sb, ha⟩ => ?_) (.inr hyl))
  obtain ⟨f0, f1, f2, f3, f4, f5⟩ := f
  have haC : C ≠ a := by
    rcases ha with z | z
    · rw [z]; exact f1
    · exact fun e => f4 y a z e.symm
  refine ⟨m, hn.sameBut sb haC, fun h3 sb3 => ?_⟩
  exact ⟨_, H', I2.turned (t' := s2.toks) (fun b o hb e => (sb3.2 b hb).trans e) f0 f1 f3 f4 f5, q⟩
end
def dgetD : P2
  | .dict l, .str x, k => ∃ l' n, l = dsiD l' ∧ (l'.find? fun kv => decide (kv.1 = x)) = some (x, n) ∧ k (.int n)
  | _, _, _ => False
theorem pm_dget (a b : D) : Pm1 (dgetD a b) := fun k k' w q => by
  unfold dgetD at q ⊢
  split at q
  · obtain ⟨l', n, e, f, q⟩ := q; exact ⟨l', n, e, f, w _ q⟩
  · exact q.elim
theorem dsiV_val (l : List (Str × Int)) (x : Str) (n : Int) (h : (l.find? fun kv => decide (kv.1 = x)) = some (x, n)) : valV (dsiV l) (Sum.inr x : Key) = some (.int n) := by
  unfold valV dsiV
  rw [List.find?_map]
  have : ((fun kv : Key × V => decide (kv.1 = (Sum.inr x : Key))) ∘ fun p : Str × Int => ((Sum.inr p.1 : Key), V.int p.2)) = fun kv => decide (kv.1 = x) := by
    funext kv
    show decide ((Sum.inr kv.1 : Key) = Sum.inr x) = decide (kv.1 = x)
    exact decide_eq_decide.mpr ⟨fun z => Sum.inr.inj z, fun z => by rw [z]⟩
  rw [this, h]; rfl
theorem em_dget {X : Cx} {o i : Expr} {mo mi : M D} {pos : Pos} (hu : X.A.units + 1 < cLine) (ho : EM X o mo) (hi : EM X i mi) (hs : NoSl i) : EM X (.Subscript o i pos) (mBin dgetD mo mi) := by
  refine ⟨mono_bin pm_dget ho.mono hi.mono, pe_weak (pe_dget hu ho.run hi.run hs) ?_⟩
  rintro σ H Q ⟨G, loc, ρ, R, q⟩
  refine ⟨G, loc, ρ, R, ho.mono ρ _ _ (fun a ρ1 q1 v H1 R1 g1 d1 => ?_) q⟩
  refine ⟨G, loc, ρ1, R1, hi.mono ρ1 _ _ (fun b ρ2 q2 u H2 R2 g2 d2 => ?_) q1⟩
  unfold dgetD at q2
  split at q2
  · obtain ⟨l', n, rfl, f, q3⟩ := q2
    obtain ⟨p, rfl, e1, _⟩ := (d1.g g2).dsiA
    cases d2
    exact ⟨p, .int n, rfl, .inl ⟨_, Sum.inr _, .inl e1, rfl, (dsiV_val l' _ n f).symm⟩, q3 _ H2 R2 (g1.trans g2) (.int n)⟩
  · exact q2.elim
end DL

namespace DL
open PySem L2

/-! ### an owned list's item; a def given a new list; a global -/
def mIxO (i : Nat) (m : M D) : M D := fun ρ k => withOwn ρ i fun _ _ => m ρ fun e ρ1 => withOwn ρ1 i fun _ bs => match e with
  | .int j => ∃ d, atI bs j = some d ∧ k d ρ1
  | _ => False
def mFnBn (n : Nat) (F : FB) (mN ms : M (List D)) : M D := fun ρ k => mN ρ fun bs ρ1 => ms ρ1 fun ds ρ2 => ds.length = n ∧ F bs ds fun _ d _ => k d ρ2
section
variable {K : PySem.W.Frag} {G : Fr} {ρ : List Slot} {loc : Nat → Addr} {σ : L2.St} {H H' : Hp}
/-- all but the list at p, that nothing leads to, is kept -/
theorem Rep.offP {p : Addr} (R : Rep K (G.plus p) ρ loc σ H) (h0 : G.H0 p = none) (np : ¬ G.fb p) (bs : ∀ b, G.bw b → G.fb b) (kp : ∀ c o, c ≠ p → H c = some o → H' c = some o) (e : ∃ o, H' p = some o) :
    Rep K (G.plus p) ρ loc σ H' ∧ Grow (Fb (G.plus p).fb ρ loc) (Fb (G.plus p).fb ρ loc) H H' := by
  have g : Grow (Fb (G.plus p).fb ρ loc) (Fb (G.plus p).fb ρ loc) H H' := fun b u e n => ⟨kp b u (fun z => n (.inl (.inr z))) e, n⟩
  refine ⟨⟨R.len, fun i d e => ?_, fun i b ds e => ?_, R.apart, R.brw, R.new, fun b u e n => ?_, fun b e' => ?_, R.bwS, R.raw.step (fun _ _ _ e => ⟨e, rfl⟩) (fun j b ds e => .inl ⟨b, ds, e, rfl⟩) g (fun a u z e => kp a u (fun y => (R.raw.here z).2.elim (fun z => z.2 (.inr y)) fun z => np (y ▸ bs _ z)) e) fun _ _ a b => ⟨a, b⟩⟩, g⟩
  · obtain ⟨v, h1, h2⟩ := R.dat i d e
    exact ⟨v, h1, h2.g g⟩
  · obtain ⟨h1, vs, h2, h3⟩ := R.own i b ds e
    refine ⟨h1, vs, kp _ _ (fun z => ?_) h2, h3.g g⟩
    cases b with
    | false => exact (R.new i ds e).2 (.inr z)
    | true => exact np (z ▸ bs _ (R.brw i ds e).2)
  · refine kp b u (fun z => ?_) (R.ext b u e n)
    rw [z] at e
    rw [show (G.plus p).H0 p = none from h0] at e; cases e
  · by_cases hb : b = p
    · rw [hb]; exact e
    · obtain ⟨u, q⟩ := R.fbS b e'
      exact ⟨u, kp b u hb q⟩
end
section
variable {X : Cx} {i : Nat} {x : Str} {p pos : Pos} {b : Expr} {mb : M D}
theorem em_ixO (hv : PE X (.Name x p) (tVar i)) (hb : EM X b mb) (hs : PlainIx b) : EM X (.Subscript (.Name x p) b pos) (mIxO i mb) := by
  refine ⟨fun ρ k k' w q => q.mono fun _ _ q => hb.mono ρ _ _ (fun e ρ1 q1 => q1.mono fun _ bs q2 => by
    cases e <;> first | exact q2.elim | exact q2.imp fun d z => ⟨z.1, w _ _ z.2⟩) q, pe_weak (pe_ix ix_list hv hb.run hs) ?_⟩
  rintro σ H Q ⟨G, loc, ρ, R, q⟩
  obtain ⟨c, cs, e0, q⟩ := q.get
  refine ⟨_, (R.own i c cs e0).1, G, loc, ρ, R, hb.mono ρ _ _ (fun e ρ1 q1 u H1 R1 g1 d1 => ?_) q⟩
  obtain ⟨c', bs, e1, q1⟩ := q1.get
  cases e <;> first | exact (show False from q1).elim | skip
  cases d1
  obtain ⟨d, e2, q2⟩ := q1
  obtain ⟨h1, ws, h2, h3⟩ := R1.own i c' bs e1
  obtain ⟨v, e3, d3⟩ := dx_atI h3 e2
  exact ⟨loc i, ws, _, v, rfl, rfl, .inl (.inl h2), e3, q2 v H1 R1 g1 d3⟩
/-- a global name's text, int .. -/
theorem em_gl {v : V} {u : Value} {d : D} (hm : X.mg x = some u) (r : RelV v u) (c : ∀ H F, Dx X.K H F v d) (hg : Gl X x := by rfl) (hd : (x == ("__debug__" : Str)) = false := by decide) : EM X (.Name x pos) (mPure d) := em_c (pe_glob hg hm r hd) c
theorem em_glS {z : Str} {t : Tok} (hm : X.mg x = some (.str z t)) (hg : Gl X x := by rfl) (hd : (x == ("__debug__" : Str)) = false := by decide) : EM X (.Name x pos) (mPure (.str z)) := em_gl (v := .str z) hm ⟨t, rfl⟩ (fun _ _ => .str z) hg hd
theorem em_glI {z : Int} {t : Tok} (hm : X.mg x = some (.int z t)) (hg : Gl X x := by rfl) (hd : (x == ("__debug__" : Str)) = false := by decide) : EM X (.Name x pos) (mPure (.int z)) := em_gl (v := .int z) hm ⟨t, rfl⟩ (fun _ _ => .int z) hg hd
end
section
variable {X : Cx} {k n : Nat} {f : Addr} {fd : FuncData} {ps : List Str} {x : Str} {p pos : Pos} {e : Expr} {es : List Expr} {m mN : M (List D)} {FF : FB}
theorem em_fnBn (hn : NM X e mN) (G : FnG X.prog X.w X.K X.mg X.base CX0 k f fd ps (spB X.K n FF)) (mF : PmB FF) (hr : Rm k X.A) (hg : Gl X x) (hm : X.mg x = some (.ref f)) (hk : PySem.W.keepIn X.K (.ref f) = true) (hb : Binds X.K fd ps [])
    (ha : AM X es m) (hdb : (x == ("__debug__" : Str)) = false := by decide) (he : starEach (e :: es) X.env = (false, eval e X.env) :: starEach es X.env := by rfl) (hpl : (backTo pos (starEach es X.env)).any (·.1) = false := by rfl) :
    EM X (.Call (.Name x p) (e :: es) [] pos) (mFnBn n FF mN m) := by
  refine ⟨fun ρ k k' w q => hn.mono ρ _ _ (fun bs ρ1 q1 => ha.mono ρ1 _ _ (fun ds ρ2 q2 => ⟨q2.1, mF bs ds _ _ (fun _ d _ q3 => w _ _ q3) q2.2⟩) q1) q, pe_weak (pe_callG G hr hg hm hk hb .nil pass0 (pa_cons hn.run ha.run he) hdb he hpl) ?_⟩
  rintro σ H Q ⟨G', loc, ρ, R, q⟩
  refine ⟨G', loc, ρ, R, hn.mono ρ _ _ (fun bs ρ1 q1 a ws H1 h0 np e1 R1 g1 d1 => ?_) q⟩
  refine ⟨G'.pin a (.lst ws), loc, ρ1, R1.pin e1, ha.mono ρ1 _ _ (fun ds ρ2 q2 vs H2 R2 g2 d2 => ?_) q1⟩
  have nb : ¬ G'.bw a := fun z => np (R.bwS a z)
  obtain ⟨R3, e3⟩ := R2.unpin h0 nb
  refine ⟨Fb (G'.plus a).fb ρ2 loc, a, vs, ds, bs, ws, by rw [List.append_nil], .inl (.inr rfl), R3.fbE, e3, d1.g g2, d2, q2.1, mF bs ds _ _ (fun c d bs' q3 v H3 m3 hw d3 _ => ?_) q2.2⟩
  obtain ⟨us, w1, _⟩ := hw
  obtain ⟨R4, g4⟩ := R3.offP h0 np R.bwS m3 ⟨_, w1⟩
  obtain ⟨R5, n5⟩ := R4.unplus R.bwS np
  exact q3 v H3 R5 (((g1.trans g2).trans g4).weak Fb.plus_sub) (d3.weak Fb.plus_sub)
end
end DL

namespace DL
open PySem L2

/-! ### a def and what it means, as one -/
structure OkS (P : Program) (w : World) (K : PySem.W.Frag) (mg : Str → Option Value) (base : Heap) (k : Nat) (f : Addr) (fd : FuncData) (ps : List Str) (n : Nat) (F : FS) : Prop where
  ok : FnG P w K mg base CX0 k f fd ps (sp0 K n F)
  pm : PmS F
structure OkB (P : Program) (w : World) (K : PySem.W.Frag) (mg : Str → Option Value) (base : Heap) (k : Nat) (f : Addr) (fd : FuncData) (ps : List Str) (n : Nat) (F : FB) : Prop where
  ok : FnG P w K mg base CX0 k f fd ps (spB K n F)
  pm : PmB F
section
variable {P : Program} {w : World} {K : PySem.W.Frag} {mg : Str → Option Value} {base : Heap} {x qual : Str} {st : Stmt} {f : Addr} {fd : FuncData} {N ps : List Str} {k n : Nat} {m : SMon}
theorem room0 (h : k ≤ 300) (env : Env) : Rm k (({ guards := some [] } : Around).deeper env) := ⟨⟨rfl, by show 0 + 1 + 3 * k + 5 < 1000; omega, by show 1 + 3 + 16 * k + 200 < 9900; omega⟩, rfl⟩
theorem okS_of (hk : k ≤ 300) (F : Fun K x qual st f fd) (S : FnScope N ps (defScope st))
    (body : ∀ (cdv : Value) (A : Around) (outer : List Env) (s : Shared) (H : Hp) (E : XK), Rm k (A.deeper (PyProof.Rows.envOfC qual (defScope st) s.heap.objs.size f cdv)) → BM (cxOf CX0 P w K mg base N qual (defScope st) f cdv A outer s H E).nox (defBody st) m) :
    OkS P w K mg base (k + 1) f fd ps ps.length (fnS m (N.length - ps.length)) :=
  ⟨fn0 F S body, pm_fnS (body .none { guards := some [] } [] {} (fun _ => none) (fun _ _ _ => False) (room0 hk _)).mono _⟩
theorem okB_of (hk : k ≤ 300) (F : Fun K x qual st f fd) (S : FnScope N ps (defScope st)) (hn : ps.length = n + 1) (hN : ps.length ≤ N.length)
    (body : ∀ (cdv : Value) (A : Around) (outer : List Env) (s : Shared) (H : Hp) (E : XK), Rm k (A.deeper (PyProof.Rows.envOfC qual (defScope st) s.heap.objs.size f cdv)) → BM (cxOf CX0 P w K mg base N qual (defScope st) f cdv A outer s H E).nox (defBody st) m) :
    OkB P w K mg base (k + 1) f fd ps n (fnB m (N.length - (n + 1))) :=
  ⟨fnb F S hn hN body, pm_fnB (body .none { guards := some [] } [] {} (fun _ => none) (fun _ _ _ => False) (room0 hk _)).mono _⟩
theorem okS_never : OkS P w K mg base k f fd ps n (fun _ _ => False) := by
  have no : ∀ vs H Q E, ¬ sp0 K n (fun _ _ => False) vs H Q E := fun vs H Q E ⟨_, _, _, _, _, h⟩ => h
  exact ⟨⟨fun vs H Q E h => (no vs H Q E h).elim, fun A outer s H args us vs Q E _ _ _ _ h => (no vs H Q E h).elim⟩, fun _ _ _ _ h => h⟩
theorem okB_never : OkB P w K mg base k f fd ps n (fun _ _ _ => False) := by
  have no : ∀ vs H Q E, ¬ spB K n (fun _ _ _ => False) vs H Q E := fun vs H Q E ⟨_, _, _, _, _, _, _, _, _, _, _, _, _, h⟩ => h
  exact ⟨⟨fun vs H Q E h => (no vs H Q E h).elim, fun A outer s H args us vs Q E _ _ _ _ h => (no vs H Q E h).elim⟩, fun _ _ _ _ _ h => h⟩
end
def fdivWD : P2
  | .int i, .int j, k => CDivW i j ∧ k (.int (i / j))
  | _, _, _ => False
theorem pm_fdivW (a b : D) : Pm1 (fdivWD a b) := fun k k' w q => by
  unfold fdivWD at q ⊢
  split at q
  · exact ⟨q.1, w _ q.2⟩
  · exact q.elim
theorem prim_fdivW {K : PySem.W.Frag} : Prim2 K (rI CDivW fun i j => .int (i / j)) fdivWD := by
  intro F H x y a b Q hF hx hy h
  unfold fdivWD at h
  split at h
  · cases hx; cases hy
    exact ⟨_, _, rfl, rfl, h.1, h.2.now (.int _)⟩
  · exact h.elim

/-! ### a, b = e1, e2 where a name is a cell's -/
theorem Rep.skip {K : PySem.W.Frag} {G : Fr} {ρ : List Slot} {loc : Nat → Addr} {σ : L2.St} {H : Hp} (R : Rep K G ρ loc σ H) {p : Addr} {o : HO} (hp : H p = none) : Rep K G ρ loc σ (upd H p o) := R.more (upd_more hp)
theorem PutsOk.g {K : PySem.W.Frag} {H H' : Hp} {F : AS} {G G' : Fr} {vs : List V} {us : List Put} (h : PutsOk K H F G G' vs us) (m : ∀ b o, H b = some o → H' b = some o) : PutsOk K H' F G G' vs us := by
  induction h with
  | nil => exact .nil
  | d dx _ ih => exact .d (dx.g (more_grow m)) ih
  | n h0 np hp dx _ ih => exact .n h0 np (m _ _ hp) (dx.g (more_grow m)) ih
section
variable {X : Cx} {es : List Expr} {ms : M (List Put)} {pos : Pos}
theorem sm_parT_of {tg : Expr} {g : TG} {is : List Nat} {k2 : Nat} {p2 : Pos} (ha : APM X es ms) (hg : PG X tg g) (hs : swapsWithSole [tg] (.Tuple es k2 p2) pos.line X.env = pure false) (hw : swappedStores [tg] (.Tuple es k2 p2) X.env = pure none) (h1 : (assignEach [tg] X.env).map (·.2) = [assign tg X.env])
    (hz : is.length ≤ sizeLine) (hgq : ∀ a vs σ H Q, H a = some (.tup vs) → vs.length = is.length → Q (putAll is vs σ) H → g (.ref a) σ H Q) : SM X (.Assign [tg] (.Tuple es k2 p2) pos) (sPar is ms) := by
  refine ⟨fun k k' ρ l q => ha.mono ρ _ _ (fun _ ρ1 q1 => ⟨q1.1, l.nx _ q1.2⟩) q, ps_weak (ps_asg (pe_tup ha.run) hg hs hw h1) ?_⟩
  rintro E σ H ⟨G, loc, ρ, k, R, q, l1, l2, l3, l4⟩
  refine ⟨G, loc, ρ, R, ha.mono ρ _ _ (fun us ρ1 q1 vs H1 G1 R1 g1 p1 => ?_) q⟩
  have hl : vs.length = is.length := p1.len.trans q1.1
  refine ⟨by rw [hl]; exact hz, fun p hp => hgq p vs σ _ _ upd_same hl ?_⟩
  have m := upd_more (o := .tup vs) hp
  obtain ⟨loc', R', s'⟩ := (p1.g m).rep is q1.1 R.bwS (R1.more m) fun b z => z
  exact l1 _ _ _ _ R' ((g1.trans (more_grow m)).weak s') q1.2
theorem sm_parT2 {i j : Nat} {x y : Str} {a b : Expr} {px py pt : Pos} {kt k2 : Nat} {p2 : Pos} (hc : X.calm = true) (hN : X.N.Nodup) (hi : X.N[i]? = some x) (hj : X.N[j]? = some y) (hij : i ≠ j) (hx : Loc X.env.scope x) (hy : Loc X.env.scope y) (ha : APM X [a, b] ms)
    (hfx : X.fn x = true ∨ X.env.scope.names.lookup x = some .local := by first | exact .inl rfl | exact .inr rfl) (hfy : X.fn y = true ∨ X.env.scope.names.lookup y = some .local := by first | exact .inl rfl | exact .inr rfl)
    (hs : swapsWithSole [.Tuple [.Name x px, .Name y py] kt pt] (.Tuple [a, b] k2 p2) pos.line X.env = pure false := by rfl) (hw : swappedStores [.Tuple [.Name x px, .Name y py] kt pt] (.Tuple [a, b] k2 p2) X.env = pure none := by rfl) :
    SM X (.Assign [.Tuple [.Name x px, .Name y py] kt pt] (.Tuple [a, b] k2 p2) pos) (sPar [i, j] ms) := by
  refine sm_parT_of ha (pg_tup (n := 2) hc (pgs_cons (pg_name (i := i) hN hi hx hfx) (pgs_cons (pg_name (i := j) hN hj hy hfy) pgs_nil))) hs hw rfl (by show 2 ≤ sizeLine; decide) fun q vs σ H Q e l h => ?_
  obtain ⟨v, w, rfl⟩ := two_of l
  exact ⟨q, _, rfl, .inl (.inl e), rfl, v, [w], rfl, w, [], rfl, rfl, by rw [putAll2 hij]; exact h⟩
theorem sm_parT3 {i j l : Nat} {x y z : Str} {a b c : Expr} {px py pz pt : Pos} {kt k2 : Nat} {p2 : Pos} (hc : X.calm = true) (hN : X.N.Nodup) (hi : X.N[i]? = some x) (hj : X.N[j]? = some y) (hl : X.N[l]? = some z) (hij : i ≠ j) (hil : i ≠ l) (hjl : j ≠ l) (hx : Loc X.env.scope x) (hy : Loc X.env.scope y) (hz : Loc X.env.scope z) (ha : APM X [a, b, c] ms)
    (hfx : X.fn x = true ∨ X.env.scope.names.lookup x = some .local := by first | exact .inl rfl | exact .inr rfl) (hfy : X.fn y = true ∨ X.env.scope.names.lookup y = some .local := by first | exact .inl rfl | exact .inr rfl) (hfz : X.fn z = true ∨ X.env.scope.names.lookup z = some .local := by first | exact .inl rfl | exact .inr rfl)
    (hs : swapsWithSole [.Tuple [.Name x px, .Name y py, .Name z pz] kt pt] (.Tuple [a, b, c] k2 p2) pos.line X.env = pure false := by rfl) (hw : swappedStores [.Tuple [.Name x px, .Name y py, .Name z pz] kt pt] (.Tuple [a, b, c] k2 p2) X.env = pure none := by rfl) :
    SM X (.Assign [.Tuple [.Name x px, .Name y py, .Name z pz] kt pt] (.Tuple [a, b, c] k2 p2) pos) (sPar [i, j, l] ms) := by
  refine sm_parT_of ha (pg_tup (n := 3) hc (pgs_cons (pg_name (i := i) hN hi hx hfx) (pgs_cons (pg_name (i := j) hN hj hy hfy) (pgs_cons (pg_name (i := l) hN hl hz hfz) pgs_nil)))) hs hw rfl (by show 3 ≤ sizeLine; decide) fun q vs σ H Q e l' h => ?_
  obtain ⟨v, w, u, rfl⟩ := three_of l'
  exact ⟨q, _, rfl, .inl (.inl e), rfl, v, [w, u], rfl, w, [u], rfl, u, [], rfl, rfl, by rw [putAll3 hij hil hjl]; exact h⟩
end
end DL

namespace DL
open PySem L2

/-! ### rules of reckoning with meanings -/
section
variable {k : D → Prop} {i j : Int} {x y : Str} {xs ys : List D} {a b : D} {p q : Bool}
theorem addD_ii : addD (.int i) (.int j) k = k (.int (i + j)) := rfl
theorem addD_ss : addD (.str x) (.str y) k = (x.length + y.length ≤ sizeLine ∧ k (.str (x ++ y))) := rfl
theorem addD_ll : addD (.list xs) (.list ys) k = (xs.length + ys.length ≤ sizeLine ∧ k (.list (xs ++ ys))) := rfl
theorem addD_tt : addD (.tuple xs) (.tuple ys) k = ((xs ≠ [] ∧ xs.length + ys.length ≤ sizeLine) ∧ k (.tuple (xs ++ ys))) := rfl
theorem subD_ii : subD (.int i) (.int j) k = k (.int (i - j)) := rfl
theorem mulD_ii : mulD (.int i) (.int j) k = (CMul i j ∧ k (.int (i * j))) := rfl
theorem mulD_si : mulD (.str x) (.int j) k = ((j < 16777217 ∧ -16777217 < j ∧ x.length * j.toNat ≤ sizeLine) ∧ k (.str (repS x j.toNat))) := rfl
theorem fdivD_ii : fdivD (.int i) (.int j) k = (CDiv i j ∧ k (.int (i / j))) := rfl
theorem fdivWD_ii : fdivWD (.int i) (.int j) k = (CDivW i j ∧ k (.int (i / j))) := rfl
theorem modD_ii : modD (.int i) (.int j) k = (0 < j ∧ k (.int (i % j))) := rfl
theorem powD_ii : powD (.int i) (.int j) k = (CPow i j ∧ k (.int (i ^ j.toNat))) := rfl
theorem divmodD_ii : divmodD [.int i, .int j] k = (CDiv i j ∧ k (.tuple [.int (i / j), .int (i % j)])) := rfl
theorem absD_i : absD [.int i] k = k (.int (if i < 0 then -i else i)) := rfl
theorem maxD_ii : maxD [.int i, .int j] k = k (.int (if j > i then j else i)) := rfl
theorem minD_ii : minD [.int i, .int j] k = k (.int (if j < i then j else i)) := rfl
theorem lenD_l : lenD [.list xs] k = k (.int xs.length) := rfl
theorem lenD_t : lenD [.tuple xs] k = k (.int xs.length) := rfl
theorem lenD_s : lenD [.str x] k = (x.length ≤ sizeLine ∧ k (.int x.length)) := rfl
theorem intD_b : intD [.bool p] k = k (.int (if p then 1 else 0)) := rfl
theorem intD_i : intD [.int i] k = k (.int i) := rfl
theorem strD_i : strD [.int i] k = (i.natAbs.log2 < 1920 ∧ k (.str (toString i))) := rfl
theorem tupleD_l : tupleD [.list xs] k = k (.tuple xs) := rfl
theorem tupleD_t : tupleD [.tuple xs] k = k (.tuple xs) := rfl
theorem ltD_ii : ltD (.int i) (.int j) k = k (.bool (decide (i < j))) := rfl
theorem leD_ii : leD (.int i) (.int j) k = k (.bool (decide (i ≤ j))) := rfl
theorem gtD_ii : gtD (.int i) (.int j) k = k (.bool (decide (j < i))) := rfl
theorem geD_ii : geD (.int i) (.int j) k = k (.bool (decide (j ≤ i))) := rfl
theorem isD_nn : isD .none .none k = k (.bool true) := rfl
theorem isD_sn : isD (.str x) .none k = k (.bool false) := rfl
theorem isD_in : isD (.int i) .none k = k (.bool false) := rfl
theorem isD_bn : isD (.bool p) .none k = k (.bool false) := rfl
theorem isD_ln : isD (.list xs) .none k = k (.bool false) := rfl
theorem isD_tn : isD (.tuple xs) .none k = k (.bool false) := rfl
theorem isD_bb : isD (.bool p) (.bool q) k = k (.bool (decide (p = q))) := rfl
theorem isnD_nn : isnD .none .none k = k (.bool false) := rfl
theorem isnD_sn : isnD (.str x) .none k = k (.bool true) := rfl
theorem isnD_in : isnD (.int i) .none k = k (.bool true) := rfl
theorem isnD_bn : isnD (.bool p) .none k = k (.bool true) := rfl
theorem isnD_ln : isnD (.list xs) .none k = k (.bool true) := rfl
theorem isnD_tn : isnD (.tuple xs) .none k = k (.bool true) := rfl
theorem isnD_bb : isnD (.bool p) (.bool q) k = k (.bool (!decide (p = q))) := rfl
theorem ixD_li : ixD (.list xs) (.int i) k = ∃ d, atI xs i = some d ∧ k d := rfl
theorem ixD_ti : ixD (.tuple xs) (.int i) k = ∃ d, atI xs i = some d ∧ k d := rfl
theorem ixD_si : ixD (.str x) (.int i) k = (x.length ≤ sizeLine ∧ ∃ c, atI x.cps.toList i = some c ∧ k (.str ⟨#[c]⟩)) := rfl
theorem eqD_ii : eqD (.int i) (.int j) k = k (.bool (decide (i = j))) := by
  unfold eqD
  have e : PyData.eqv (.int i) (.int j) = decide (i = j) := rfl
  rw [e]
  exact propext ⟨fun h => h.2, fun h => ⟨⟨rfl, rfl⟩, h⟩⟩
theorem neD_ii : neD (.int i) (.int j) k = k (.bool (!decide (i = j))) := by
  unfold neD
  have e : PyData.eqv (.int i) (.int j) = decide (i = j) := rfl
  rw [e]
  exact propext ⟨fun h => h.2, fun h => ⟨⟨rfl, rfl⟩, h⟩⟩
theorem shaped_s : SeqAt.shaped (.str x) = PyData.strOk x := by
  unfold SeqAt.shaped PyData.depth PyData.canLay0
  simp
theorem eqD_ss : eqD (.str x) (.str y) k = ((PyData.strOk x = true ∧ PyData.strOk y = true) ∧ k (.bool (x == y))) := by
  unfold eqD
  rw [shaped_s, shaped_s]; rfl
theorem neD_ss : neD (.str x) (.str y) k = ((PyData.strOk x = true ∧ PyData.strOk y = true) ∧ k (.bool (!(x == y)))) := by
  unfold neD
  rw [shaped_s, shaped_s]; rfl
theorem eqD_bb : eqD (.bool p) (.bool q) k = k (.bool (p == q)) := by
  unfold eqD
  exact propext ⟨fun h => h.2, fun h => ⟨⟨rfl, rfl⟩, h⟩⟩
theorem neD_bb : neD (.bool p) (.bool q) k = k (.bool (!(p == q))) := by
  unfold neD
  exact propext ⟨fun h => h.2, fun h => ⟨⟨rfl, rfl⟩, h⟩⟩
theorem at0 {α : Type} {x : α} {xs : List α} : atI (x :: xs) 0 = some x := by
  unfold atI ixN
  rw [if_pos (by decide), if_pos (by rw [List.length_cons]; omega)]; rfl
theorem at1 {α : Type} {x y : α} {xs : List α} : atI (x :: y :: xs) 1 = some y := by
  unfold atI ixN
  rw [if_pos (by decide), if_pos (by rw [List.length_cons, List.length_cons]; omega)]; rfl
theorem at2 {α : Type} {x y z : α} {xs : List α} : atI (x :: y :: z :: xs) 2 = some z := by
  unfold atI ixN
  rw [if_pos (by decide), if_pos (by rw [List.length_cons, List.length_cons, List.length_cons]; omega)]; rfl
theorem atI_of {α : Type} {xs : List α} {i : Int} {x : α} (h0 : 0 ≤ i) (h : xs[i.toNat]? = some x) : atI xs i = some x := by
  have hl := (List.getElem?_eq_some_iff.mp h).1
  unfold atI ixN
  rw [if_pos h0, if_pos (by omega)]; exact h
theorem atI_ex {α : Type} {xs : List α} {i : Int} (h0 : 0 ≤ i) (h : i < xs.length) : ∃ x, atI xs i = some x ∧ x ∈ xs := by
  have hl : i.toNat < xs.length := by omega
  exact ⟨xs[i.toNat], atI_of h0 (List.getElem?_eq_getElem hl), List.getElem_mem hl⟩
theorem ixN_of {n : Nat} {i : Int} (h0 : 0 ≤ i) (h : i < n) : ixN n i = some i.toNat := by
  unfold ixN
  rw [if_pos h0, if_pos h]
theorem bool_ite {α : Sort _} {u v : α} : (if true = true then u else v) = u := if_pos rfl
theorem bool_ite' {α : Sort _} {u v : α} : (if false = true then u else v) = v := if_neg Bool.false_ne_true
end

/-! ### owned lists, by what stands there -/
theorem withOwn_iff {ρ : List Slot} {j : Nat} {f : Bool → List D → Prop} : withOwn ρ j f ↔ ∃ b bs, ρ[j]? = some (.own b bs) ∧ f b bs := by
  refine ⟨fun h => h.get, fun ⟨b, bs, e, h⟩ => ?_⟩
  unfold withOwn
  rw [e]; exact h
section
variable {c : Bool} {xs : List D}
theorem ex_ownT : (∃ (b : Bool) (bs : List D), Slot.own c xs = Slot.own b bs) = True := propext ⟨fun _ => trivial, fun _ => ⟨c, xs, rfl⟩⟩
theorem ex_ownP {P : Bool → List D → Prop} : (∃ (b : Bool) (bs : List D), Slot.own c xs = Slot.own b bs ∧ P b bs) = P c xs := propext ⟨fun ⟨b, bs, e, h⟩ => by cases e; exact h, fun h => ⟨c, xs, rfl, h⟩⟩
theorem ex_own1 {P : List D → Prop} : (∃ bs : List D, Slot.own c xs = Slot.own c bs ∧ P bs) = P xs := propext ⟨fun ⟨bs, e, h⟩ => by cases e; exact h, fun h => ⟨xs, rfl, h⟩⟩
theorem ex_some {α : Type} {x : α} {P : α → Prop} : (∃ d, some x = some d ∧ P d) = P x := propext ⟨fun ⟨d, e, h⟩ => by cases e; exact h, fun h => ⟨x, rfl, h⟩⟩
end

/-! ### loops by an invariant -/
theorem for_inv {g : GMn} {body : SMon} {k : SK} (I : Nat → List Slot → Prop) : ∀ (ds : List D) (n : Nat) (ρ : List Slot), I n ρ →
    (∀ (j : Nat) (d : D) (ρ : List Slot), ds[j]? = some d → I (n + j) ρ → g d ρ fun ρ1 => body (loopK k (I (n + j + 1))) ρ1) → (SMono body) → (∀ d ρ (k k' : List Slot → Prop), (∀ ρ', k ρ' → k' ρ') → g d ρ k → g d ρ k') → (∀ ρ, I (n + ds.length) ρ → k.nx ρ) → forLoop g body k ds ρ
  | [], n, ρ, h, _, _, _, e => e ρ h
  | d :: ds, n, ρ, h, st, mb, mg, e => by
    have s0 := st 0 d ρ rfl h
    refine mg d ρ _ _ (fun ρ1 q1 => ?_) s0
    have key : ∀ ρ2, I (n + 0 + 1) ρ2 → forLoop g body k ds ρ2 := fun ρ2 h2 => for_inv I ds (n + 1) ρ2 h2 (fun j d' ρ' e' h' => by
      have := st (j + 1) d' ρ' (by simpa using e') (by rw [show n + (j + 1) = n + 1 + j by omega]; exact h')
      rw [show n + (j + 1) + 1 = n + 1 + j + 1 by omega] at this
      exact this) mb mg (fun ρ' h' => e ρ' (by rw [List.length_cons, show n + (ds.length + 1) = n + 1 + ds.length by omega]; exact h'))
    exact mb (loopK k (I (n + 0 + 1))) (loopK k (forLoop g body k ds)) ρ1 ⟨key, fun _ _ _ z => z, fun _ z => z, key⟩ q1
/-- .. whose body and targets mean what they say -/
theorem for_do {g : GMn} {body : SMon} {k : SK} (I : List D → List Slot → Prop) (st : ∀ d ds ρ, I (d :: ds) ρ → g d ρ fun ρ1 => body (loopK k (fun ρ2 => forLoop g body k ds ρ2)) ρ1) (e : ∀ ρ, I [] ρ → k.nx ρ) : ∀ ds ρ, I ds ρ → forLoop g body k ds ρ
  | [], ρ, h => e ρ h
  | d :: ds, ρ, h => st d ds ρ h
end DL

namespace DL
open PySem PySem.Spec PyProof.Rows L2

/-! ### a, *b = a tuple -/
section
variable {prog : Program} {w : World} {A : Around} {E : Value → Shared → Prop} {s : Shared}
theorem star_one {t : Addr} {items : Array Value} {x : Value} {Q : List Value → Shared → Prop} (hh : A.handled = none) (ht : IsTup s.heap t items) (h0 : items[0]? = some x) (hz : items.size ≤ sizeLine)
    (hQ : ∀ (h' : Heap) (tk : Nat), (∀ b o, b ≠ s.heap.objs.size → s.heap.get? b = some o → h'.get? b = some o) → Q [x, .ref h'.objs.size] { s with heap := h'.push { cls := .type "list", data := .seq (items.toList.drop 1).toArray }, toks := tk }) :
    wpAny (model prog w) A (unpackItems (.ref t) 2 (some 1)) Q E s := by
  have hlt : t ≠ s.heap.objs.size := by obtain ⟨o, ho, _⟩ := ht; exact Nat.ne_of_lt (Heap.lt_size ho)
  have hs1 : 1 ≤ items.size := by
    have := (Array.getElem?_eq_some_iff.mp h0).1
    omega
  unfold unpackItems
  refine wpAny_bind ?_
  unfold notIterableAtAll
  refine wpAny_bind (wpAny_specialOf ht.typeIs slot_tuple_iter.lookup ?_)
  refine wpAny_pure ?_
  simp only [Bool.false_eq_true, if_false]
  refine wpAny_bind (wpAny_holding (iter_tuple ht ?_))
  refine wpAny_bind (wpAny_holding (draw_tuple hlt 1 0 _ _ ⟨_, Heap.get?_push_size _ rfl, rfl, rfl⟩ (ht.push _) (by omega) fun h₁ hit₁ hs₁ => ?_))
  have ht₁ : IsTup h₁ t items := (ht.push _).extBut hs₁.extBut hlt
  obtain ⟨oi, hoi, _⟩ := id hit₁
  obtain ⟨ol, hol, _⟩ := id ht₁
  have e0 : (items.toList.drop 0).take 1 = [x] := by
    have : items.toList[0]? = some x := by rw [Array.getElem?_toList]; exact h0
    cases q : items.toList with
    | nil => rw [q] at this; cases this
    | cons a r => rw [q] at this; cases this; rfl
  rw [e0]
  show wpAny _ _ (if ([x] : List Value).length < 1 then _ else _) _ _ _
  rw [if_neg (by simp)]
  refine wpAny_bind (wpAny_holding (PySem.W.kun_collect (s := { s with heap := h₁ }) (T := "tuple_iterator") (.inr (.inr (.inr rfl))) (Walks.tuple (A := A.in1) hh s.heap.objs.size t hlt items) (fun j u st => st.1.typeIs) (k := 1) hs1 ⟨hit₁, ht₁⟩ (Heap.lt_size hoi) (Heap.lt_size hol) (fun h₂ tk hk => ?_) hz))
  show wpAny _ _ (if (items.toList.drop 1).length < 0 then _ else _) _ _ _
  rw [if_neg (by omega)]
  show wpAny _ _ (newList ((items.toList.drop 1).take ((items.toList.drop 1).length - 0)) >>= fun d => pure ([x] ++ [d] ++ (items.toList.drop 1).drop ((items.toList.drop 1).length - 0))) _ _ _
  rw [Nat.sub_zero, List.take_length, List.drop_length]
  refine wpAny_bind (wpAny_newObj_type (wpAny_pure ?_) (by show (items.toList.drop 1).toArray.size ≤ sizeLine; simp; omega))
  exact hQ h₂ tk fun b o hb e => hk b o hb (hs₁.extBut b o hb (Heap.get?_push_of_some _ e))
end
def tStar (K : PySem.W.Frag) (i j : Nat) (te : TE) : TS := fun D σ H => te σ H fun v H1 => ∃ a x xs, v = .ref a ∧ SqT K H1 a (x :: xs) ∧ ∀ p, H1 p = Option.none → D.nx ((σ.set i (some x)).set j (some (.ref p))) (upd H1 p (.lst xs))
theorem ps_star {X : Cx} {i j : Nat} {x y : Str} {e : Expr} {te : TE} {px py sy tpos pos : Pos} {kt : Nat} (hc : X.calm = true) (hN : X.N.Nodup) (hi : X.N[i]? = some x) (hj : X.N[j]? = some y) (hx : Loc X.env.scope x) (hy : Loc X.env.scope y) (he : PE X e te)
    (hfx : X.fn x = true ∨ X.env.scope.names.lookup x = some .local := by first | exact .inl rfl | exact .inr rfl) (hfy : X.fn y = true ∨ X.env.scope.names.lookup y = some .local := by first | exact .inl rfl | exact .inr rfl)
    (hs : swapsWithSole [.Tuple [.Name x px, .Starred (.Name y py) sy] kt tpos] e pos.line X.env = pure false := by rfl) (hw : swappedStores [.Tuple [.Name x px, .Starred (.Name y py) sy] kt tpos] e X.env = pure none := by rfl)
    (h1 : (assignEach [.Tuple [.Name x px, .Starred (.Name y py) sy] kt tpos] X.env).map (·.2) = [assign (.Tuple [.Name x px, .Starred (.Name y py) sy] kt tpos) X.env] := by rfl)
    (h2 : assignEach [.Name x px, .Starred (.Name y py) sy] X.env = [(false, assign (.Name x px) X.env), (true, assign (.Name y py) X.env)] := by rfl) :
    PS X (.Assign [.Tuple [.Name x px, .Starred (.Name y py) sy] kt tpos] e pos) (tStar X.K i j te) := by
  refine ⟨fun pins s σ H D I h => ?_⟩
  refine wpAny_Assign_stores (thn (he.run pins s σ H _ I h) fun v s1 ⟨u, H1, I1, r1, a, x0, xs, eu, hq, q⟩ => ?_) hs hw
  subst eu
  cases r1
  rw [h1]
  show wpAny _ _ (assign (.Tuple [.Name x px, .Starred (.Name y py) sy] kt tpos) X.env (.ref a)) _ _ _
  obtain ⟨its, rv, ht, hz⟩ := I1.tuple hq
  cases rv with
  | cons r rr =>
    rename_i u us
    rw [assign_Tuple]
    refine wpAny_bind (wpAny_standAt ?_)
    unfold unpack
    rw [h2]
    have hl := rr.length
    refine wpAny_bind (wpAny_holding (star_one (I1.ok.hd hc) ht (x := u) (by simp) (by simp; simp at hz; omega) fun h' tk hk => ?_))
    have I2 : L2.Inv X pins σ H1 { s1 with heap := h', toks := tk } := I1.kept (t' := tk) fun b o e => hk b o (Nat.ne_of_lt (Heap.lt_size e)) e
    have hn : H1 h'.objs.size = Option.none := I2.hok.fresh (Nat.le_refl _)
    have I3 : L2.Inv X pins σ (upd H1 h'.objs.size (.lst xs)) { s1 with heap := h'.push { cls := .type "list", data := .seq us.toArray }, toks := tk } := I2.lnew (t' := tk) rr (by simp at hz; omega)
    have e3 : ((u :: us).toArray.toList.drop 1).toArray = us.toArray := by simp
    rw [e3]
    show wpAny _ _ (assignInOrder [assign (.Name x px) X.env, assign (.Name y py) X.env] [u, .ref h'.objs.size]) _ _ _
    refine assignInOrder_cons (wpAny_assign_Name (store_ok I3 hN hi hx r (fun s4 I4 => ?_) hfx))
    refine assignInOrder_cons (wpAny_assign_Name (store_ok (v := V.ref h'.objs.size) I4 hN hj hy rfl (fun s5 I5 => ?_) hfy))
    exact assignInOrder_nil ⟨_, _, I5, q _ hn⟩
def sStar (i j : Nat) (m : M D) : SMon := fun k ρ => m ρ fun d ρ1 => match d with
  | .tuple (x :: xs) => k.nx ((ρ1.set i (.dat x)).set j (.own false xs))
  | _ => False
theorem sm_star {X : Cx} {i j : Nat} {x y : Str} {e : Expr} {m : M D} {px py sy tpos pos : Pos} {kt : Nat} (hc : X.calm = true) (hN : X.N.Nodup) (hi : X.N[i]? = some x) (hj : X.N[j]? = some y) (hx : Loc X.env.scope x) (hy : Loc X.env.scope y) (he : EM X e m)
    (hfx : X.fn x = true ∨ X.env.scope.names.lookup x = some .local := by first | exact .inl rfl | exact .inr rfl) (hfy : X.fn y = true ∨ X.env.scope.names.lookup y = some .local := by first | exact .inl rfl | exact .inr rfl)
    (hs : swapsWithSole [.Tuple [.Name x px, .Starred (.Name y py) sy] kt tpos] e pos.line X.env = pure false := by rfl) (hw : swappedStores [.Tuple [.Name x px, .Starred (.Name y py) sy] kt tpos] e X.env = pure none := by rfl)
    (h1 : (assignEach [.Tuple [.Name x px, .Starred (.Name y py) sy] kt tpos] X.env).map (·.2) = [assign (.Tuple [.Name x px, .Starred (.Name y py) sy] kt tpos) X.env] := by rfl)
    (h2 : assignEach [.Name x px, .Starred (.Name y py) sy] X.env = [(false, assign (.Name x px) X.env), (true, assign (.Name y py) X.env)] := by rfl) :
    SM X (.Assign [.Tuple [.Name x px, .Starred (.Name y py) sy] kt tpos] e pos) (sStar i j m) := by
  refine ⟨fun k k' ρ l q => he.mono ρ _ _ (fun d ρ1 q1 => by
    cases d <;> first | exact q1.elim | skip
    rename_i ds
    cases ds with
    | nil => exact q1.elim
    | cons a r => exact l.nx _ q1) q, ps_weak (ps_star hc hN hi hj hx hy he.run hfx hfy hs hw h1 h2) ?_⟩
  rintro E σ H ⟨G, loc, ρ, k, R, q, l1, l2, l3, l4⟩
  refine ⟨G, loc, ρ, R, he.mono ρ _ _ (fun d ρ1 q1 v H1 R1 g1 d1 => ?_) q⟩
  cases d <;> first | exact (show False from q1).elim | skip
  rename_i ds
  cases ds with
  | nil => exact (show False from q1).elim
  | cons b r =>
    obtain ⟨a, xs, rfl, e1, da⟩ := d1.sqt
    cases da with
    | cons dv dr =>
      rename_i v vs
      refine ⟨a, v, vs, rfl, e1, fun p hp => ?_⟩
      have R2 := R1.put i dv
      obtain ⟨a1, a2, a3, a4, a5, a6⟩ := new_list R2 (dr.weak fun b z => Fb_put (by intro _ _ z; cases z) b z) hp
      exact l1 _ _ _ _ (a4.putN R.bwS a1 a2 j a3 a6) ((g1.trans put_grow).trans (a5.weak fun b z => Fb_putN b z)) q1
end DL

namespace DL
open PySem PySem.Spec PyProof.Rows L2

/-! ### sum(xs, start=i), max(xs, default=d) -/
theorem args_sum_start (a v : Value) : argsOk "sum" ⟨[a], [(Str.ofString "start", v)]⟩ := by unfold argsOk; kernel_rfl
section
variable {prog : Program} {w : World} {A : Around} {I : Addr} {fp wr : List Addr} {n : Nat} {P : Nat → Value → Prop} {St : Nat → Heap → Prop}
def shP (P : Nat → Value → Prop) : Nat → Value → Prop
  | 0, _ => False
  | i + 1, v => P i v
def shSt (St : Nat → Heap → Prop) : Nat → Heap → Prop
  | 0, _ => False
  | i + 1, h => St i h
def shV (i : Int) (val : Nat → Int) : Nat → Int
  | 0 => i
  | j + 1 => val j
theorem walks_sh (W : Walks prog w A I fp wr n P St) : Walks prog w A I fp wr (n + 1) (shP P) (shSt St) where
  sub := W.sub
  frame := fun i h h' st k => by
    cases i with
    | zero => exact st
    | succ i => exact W.frame i h h' st k
  item := fun i s Q E hi st hQ => by
    cases i with
    | zero => exact (show False from st).elim
    | succ i => exact W.item i s Q E (by omega) st hQ
  done := fun s Q E st hQ => W.done s Q E st hQ
  self := fun i s Q E st hQ => by
    cases i with
    | zero => exact (show False from st).elim
    | succ i => exact W.self i s Q E st hQ
theorem preSum_sh (i : Int) (val : Nat → Int) : ∀ n, preSum (shV i val) (n + 1) = i + preSum val n
  | 0 => by show preSum (shV i val) 0 + shV i val 0 = _; show (0 : Int) + i = i + 0; omega
  | n + 1 => by
    show preSum (shV i val) (n + 1) + shV i val (n + 1) = _
    rw [preSum_sh i val n]
    show i + preSum val n + val n = i + (preSum val n + val n)
    omega
end
section
variable {prog : Program} {w : World} {A : Around} {E : Value → Shared → Prop} {s : Shared}
theorem sum_start_raw {l : Addr} {its : List Value} {ns : List Int} {i : Int} {t0 : Tok} {Q : Value → Shared → Prop} (hh : A.handled = none) (hl : s.heap.IsList l its.toArray) (hi : IntsAre its ns)
    (h : ∀ h' tk t', (∀ b o, s.heap.get? b = some o → h'.get? b = some o) → Q (.int (i + ns.sum) t') { s with heap := h', toks := tk }) :
    wpAny (model prog w) A (call (.builtin "sum") [.ref l] [(Str.ofString "start", .int i t0)]) Q E s := by
  obtain ⟨xs, e⟩ := hi.allInts.items
  have hn : numsOf (intItems xs).toList = ns := by rw [← e]; exact hi.numsOf
  rw [nums_intItems] at hn
  rw [e] at hl
  refine PyProof.Rows.kmk_tree F.kind_sum F.plain_sum F.entry_sum (args_sum_start _ _) ?_
  unfold Builtin.«sum»
  simp only [List.length_cons, List.length_nil]
  rw [if_neg (by decide)]
  refine wpAny_bind (wpAny_of_eq (show Builtin.Builtins.bindParams "sum" ["start"] 0 ⟨[], [(Str.ofString "start", .int i t0)]⟩ = pure [some (.int i t0)] from rfl) ?_)
  refine wpAny_bind (iter_intList hl fun s₂ e2 st hfp hlI => ?_)
  subst e2
  have W := walks_sh (Walks.list (prog := prog) (w := w) (A := A.in1) hh _ l hlI (intItems xs))
  have e1 : preSum (shV i (numAt xs)) 1 = i := by show (0 : Int) + i = i; omega
  have hv : ∀ j v, shP (fun i v => (intItems xs)[i]? = some v) j v → ∃ t, v = .int (shV i (numAt xs) j) t := fun j v hp => by
    cases j with
    | zero => exact (show False from hp).elim
    | succ j => exact intItems_at hp
  have hSf : (s.heap.push { cls := .type "list_iterator", data := .fields #[.ref l, .int 0 0] }).objs.size ∉ [s.heap.objs.size, l] := fun hm => Nat.lt_irrefl _ (hfp _ hm)
  have e4 : preSum (shV i (numAt xs)) ((intItems xs).size + 1) = i + ns.sum := by
    rw [preSum_sh, ← hn, preSum_eq, List.take_of_length_le (by simp [intItems])]
  show wpAny _ _ (if _ then _ else _) _ _ _
  split
  case isTrue =>
    refine wpAny_bind (wpAny_rule (wpAny_bind (wpAny_mkInt (wpAny_bind (wpAny_pure ?_)))))
    simp only [List.forIn_cons, List.forIn_nil]
    refine wpAny_bind (wpAny_bind (wpAny_bind (wpAny_isInstance (T := "int") (b := false) (typeIs_int _ _ _) PySem.sub_int_str ?_)))
    simp only [Bool.false_eq_true, if_false]
    refine wpAny_pure (wpAny_bind (wpAny_bind (wpAny_isInstance (T := "int") (b := false) (typeIs_int _ _ _) PySem.sub_int_bytes ?_)))
    simp only [Bool.false_eq_true, if_false]
    refine wpAny_pure (wpAny_bind (wpAny_bind (wpAny_isInstance (T := "int") (b := false) (typeIs_int _ _ _) PySem.sub_int_bytearray ?_)))
    simp only [Bool.false_eq_true, if_false]
    refine wpAny_pure (wpAny_pure ?_)
    refine wpAny_bind (wpAny_newObj_type ?_)
    refine wpAny_pure ⟨plainId_quiet F.plain_sum_loop _, codeAny_sum_loopG W (shV i (numAt xs)) hv _ hSf (intItems xs).size 1 _ s.toks 0 0 (Or.inl rfl) (by omega) (by omega)
      (W.frame 1 _ _ st fun b _ o e => Heap.get?_push_of_some _ e) (by rw [e1]; exact Heap.get?_push_size _ rfl) fun h' tk t' hk => ?_⟩
    rw [e4]
    exact h h' tk t' (old_kept (l := l) fun b o hb e => hk b o hb (Nat.ne_of_lt (Heap.lt_size e)) (Heap.get?_push_of_some _ e))
  case isFalse =>
    refine wpAny_bind (wpAny_pure ?_)
    simp only [List.forIn_cons, List.forIn_nil]
    refine wpAny_bind (wpAny_bind (wpAny_bind (wpAny_isInstance (T := "int") (b := false) (typeIs_int _ _ _) PySem.sub_int_str ?_)))
    simp only [Bool.false_eq_true, if_false]
    refine wpAny_pure (wpAny_bind (wpAny_bind (wpAny_isInstance (T := "int") (b := false) (typeIs_int _ _ _) PySem.sub_int_bytes ?_)))
    simp only [Bool.false_eq_true, if_false]
    refine wpAny_pure (wpAny_bind (wpAny_bind (wpAny_isInstance (T := "int") (b := false) (typeIs_int _ _ _) PySem.sub_int_bytearray ?_)))
    simp only [Bool.false_eq_true, if_false]
    refine wpAny_pure (wpAny_pure ?_)
    refine wpAny_bind (wpAny_newObj_type ?_)
    refine wpAny_pure ⟨plainId_quiet F.plain_sum_loop _, codeAny_sum_loopG W (shV i (numAt xs)) hv _ hSf (intItems xs).size 1 _ t0 0 2 (Or.inr rfl) (by omega) (by omega)
      (W.frame 1 _ _ st fun b _ o e => Heap.get?_push_of_some _ e) (by rw [e1]; exact Heap.get?_push_size _ rfl) fun h' tk t' hk => ?_⟩
    rw [e4]
    exact h h' tk t' (old_kept (l := l) fun b o hb e => hk b o hb (Nat.ne_of_lt (Heap.lt_size e)) (Heap.get?_push_of_some _ e))
def rSumS (K : PySem.W.Frag) : List V → Hp → VK → Prop := fun vs H Q => ∃ (a : Addr) (ns : List Int) (i : Int), vs = [V.ref a, V.int i] ∧ SqL K H a (ns.map V.int) ∧ Q (.int (i + ns.sum)) H
def CallRK1 (X : Cx) (f : Value) (nm : Str) (r : List V → Hp → VK → Prop) : Prop := CallRK X f [nm] fun xs zs H Q => ∃ x z, xs = [x] ∧ zs = [z] ∧ r [x, z] H Q
theorem crk_sum {X : Cx} (hc : X.calm = true) : CallRK1 X (.builtin "sum") (Str.ofString "start") (rSumS X.K) := by
  intro pins s σ H vs zs us ws Q I r rz h
  obtain ⟨x, z, rfl, rfl, a, ns, i, e, hs, q⟩ := h
  injection e with e1 e2
  injection e2 with e2 _
  subst e1; subst e2
  obtain ⟨its, rv, hl, _⟩ := I.list hs
  rw [Vals.ref1 r]
  obtain ⟨w1, rfl, rw1⟩ := vals1 rz
  obtain ⟨t, rfl⟩ := (show ∃ t, w1 = Value.int i t from rw1)
  exact sum_start_raw (I.ok.hd hc) hl.isList rv.ints fun h' tk t' hk => ⟨.int _, H, I.kept hk, ⟨_, rfl⟩, q⟩
def maxI (d : Int) : List Int → Int
  | [] => d
  | n :: r => r.foldl max n
def rMaxD (K : PySem.W.Frag) : List V → Hp → VK → Prop := fun vs H Q => ∃ (a : Addr) (ns : List Int) (i : Int), vs = [V.ref a, V.int i] ∧ SqL K H a (ns.map V.int) ∧ Q (.int (maxI i ns)) H
theorem ints_reads {h : Heap} : ∀ {its : List Value} {ns : List Int}, IntsAre its ns → ReadsAll h its (ns.map PyData.int) []
  | _, _, .nil => .nil
  | _, _, .cons n t r => .cons (as := []) (bs := []) (.int n t) (ints_reads r)
theorem ints_depth : ∀ ns : List Int, PyData.depthAll (ns.map PyData.int) ≤ 1
  | [] => by simp [PyData.depthAll]
  | n :: r => by
    have := ints_depth r
    simp only [List.map_cons, PyData.depthAll, PyData.depth]
    omega
theorem ints_alike (ns : List Int) : PySem.W.AlikeAll (ns.map PyData.int) := by
  refine ⟨fun x hx y hy => ?_, fun x hx => ?_⟩
  · obtain ⟨a, _, rfl⟩ := List.mem_map.mp hx
    obtain ⟨b, _, rfl⟩ := List.mem_map.mp hy
    rfl
  · obtain ⟨a, _, rfl⟩ := List.mem_map.mp hx
    exact fun z => nomatch z
theorem crk_max {X : Cx} (hc : X.calm = true) (hu : X.A.units + 64 < cLine) : CallRK1 X (.builtin "max") (Str.ofString "default") (rMaxD X.K) := by
  intro pins s σ H vs zs us ws Q I r rz h
  obtain ⟨x, z, rfl, rfl, a, ns, i, e, hs, q⟩ := h
  injection e with e1 e2
  injection e2 with e2 _
  subst e1; subst e2
  obtain ⟨its, rv, hl, _⟩ := I.list hs
  rw [Vals.ref1 r]
  obtain ⟨w1, rfl, rw1⟩ := vals1 rz
  obtain ⟨t, rfl⟩ := (show ∃ t, w1 = Value.int i t from rw1)
  have hd := ints_depth ns
  refine PySem.W.max_list_default (I.ok.hd hc) hl.isList (by simpa using ints_reads rv.ints) (ints_alike ns) (by omega) (fun e0 h' tk hk => ?_) fun y ys j v h' tk bs e0 hv rd hk => ?_
  · have e1 : ns = [] := by simpa using e0
    subst e1
    exact ⟨.int _, H, I.kept hk, ⟨_, rfl⟩, q⟩
  · cases ns with
    | nil => cases e0
    | cons n r =>
      injection e0 with e1 e2
      subst e1; subst e2
      rw [PySem.W.maxD_ints] at rd
      cases rd
      exact ⟨.int _, H, I.kept hk, ⟨_, rfl⟩, q⟩
end

/-! ### by data -/
def intsOf : List D → Option (List Int)
  | [] => some []
  | .int b :: ds => (intsOf ds).map (b :: ·)
  | _ => none
theorem intsOf_eq : ∀ {xs : List D} {bs : List Int}, intsOf xs = some bs → xs = bs.map PyData.int
  | [], bs, h => by cases h; rfl
  | d :: ds, bs, h => by
    cases d <;> first | (cases h; done) | skip
    obtain ⟨cs, h1, rfl⟩ := Option.map_eq_some_iff.mp (show (intsOf ds).map _ = some bs from h)
    rw [intsOf_eq h1]; rfl
theorem intsOf_map : ∀ ns : List Int, intsOf (ns.map PyData.int) = some ns
  | [] => rfl
  | n :: r => by show (intsOf (r.map PyData.int)).map _ = _; rw [intsOf_map r]; rfl
def sumSD : PC1
  | [.list xs, .int i], k => ∃ ns, intsOf xs = some ns ∧ k (.int (i + ns.sum))
  | _, _ => False
def maxSD : PC1
  | [.list xs, .int i], k => ∃ ns, intsOf xs = some ns ∧ k (.int (maxI i ns))
  | _, _ => False
theorem pm_sumS : ∀ ds, Pm1 (sumSD ds) := by
  intro ds k k' w q
  match ds with
  | [] => exact q.elim
  | [d] => cases d <;> exact q.elim
  | [d, e] => cases d <;> cases e <;> first | exact q.elim | exact ⟨_, q.choose_spec.1, w _ q.choose_spec.2⟩
  | d :: e :: f :: r => cases d <;> cases e <;> exact q.elim
theorem pm_maxS : ∀ ds, Pm1 (maxSD ds) := by
  intro ds k k' w q
  match ds with
  | [] => exact q.elim
  | [d] => cases d <;> exact q.elim
  | [d, e] => cases d <;> cases e <;> first | exact q.elim | exact ⟨_, q.choose_spec.1, w _ q.choose_spec.2⟩
  | d :: e :: f :: r => cases d <;> cases e <;> exact q.elim
theorem dx_ints {K : PySem.W.Frag} {H : Hp} {F : AS} : ∀ {ns : List Int} {vs : List V}, DxAll K H F vs (ns.map PyData.int) → vs = ns.map V.int
  | [], _, .nil => rfl
  | n :: r, _, .cons d ds => by cases d; rw [dx_ints ds]; rfl
theorem prim_sumS {K : PySem.W.Frag} : PrimC K (rSumS K) sumSD := by
  intro F H vs ds Q hF hd h
  match ds with
  | [] => exact (show False from h).elim
  | [d] => cases d <;> exact (show False from h).elim
  | d :: e :: f :: r => cases d <;> cases e <;> exact (show False from h).elim
  | [d, e] =>
    obtain ⟨v, u, rfl, dx, dy⟩ := dx_two hd
    cases d <;> cases e <;> first | exact (show False from h).elim | skip
    obtain ⟨ns, hb, q⟩ := h
    rw [intsOf_eq hb] at dx
    obtain ⟨p, xs, rfl, e, _, da⟩ := dx.sql
    rw [dx_ints da] at e
    cases dy
    exact ⟨p, ns, _, rfl, .inl (.inl e), q.now (.int _)⟩
theorem prim_maxS {K : PySem.W.Frag} : PrimC K (rMaxD K) maxSD := by
  intro F H vs ds Q hF hd h
  match ds with
  | [] => exact (show False from h).elim
  | [d] => cases d <;> exact (show False from h).elim
  | d :: e :: f :: r => cases d <;> cases e <;> exact (show False from h).elim
  | [d, e] =>
    obtain ⟨v, u, rfl, dx, dy⟩ := dx_two hd
    cases d <;> cases e <;> first | exact (show False from h).elim | skip
    obtain ⟨ns, hb, q⟩ := h
    rw [intsOf_eq hb] at dx
    obtain ⟨p, xs, rfl, e, _, da⟩ := dx.sql
    rw [dx_ints da] at e
    cases dy
    exact ⟨p, ns, _, rfl, .inl (.inl e), q.now (.int _)⟩
/-- f(a, nm=b), f built in -/
def mKw (q : PC1) (m m' : M D) : M D := fun ρ k => m ρ fun d ρ1 => m' ρ1 fun d' ρ2 => q [d, d'] fun r => k r ρ2
section
variable {X : Cx} {x nm : Str} {p pos kpos : Pos} {e e' : Expr} {m m' : M D} {id : String} {r : List V → Hp → VK → Prop} {q : PC1}
theorem em_kw1 (hc : CallRK1 X (.builtin id) nm r) (hp : PrimC X.K r q) (mp : ∀ ds, Pm1 (q ds)) (hg : Gl X x) (hm : X.mg x = none) (hv : bootBuiltins x = some (.builtin id)) (ha : EM X e m) (hb : EM X e' m') (hn : x ≠ "__name__" := by decide) (hdb : (x == ("__debug__" : Str)) = false := by decide)
    (h1 : starEach [e] X.env = [(false, eval e X.env)] := by rfl) (he : backTo pos (starEach [e] X.env) = (false, eval e X.env) :: backTo pos (starEach [] X.env) := by rfl) (hpl : (backTo pos (starEach [e] X.env)).any (·.1) = false := by rfl)
    (hall : (backToKw pos (keywordEach [⟨some nm, e', kpos⟩] X.env)).all (·.1.isSome) = true := by rfl) (hnone : (backToKw pos (keywordEach [⟨some nm, e', kpos⟩] X.env)).any (·.1.isNone) = false := by rfl) (hks : (backToKw pos (keywordEach [⟨some nm, e', kpos⟩] X.env)).filterMap (·.1) = [nm] := by rfl) :
    EM X (.Call (.Name x p) [e] [⟨some nm, e', kpos⟩] pos) (mKw q m m') := by
  refine ⟨fun ρ k k' w z => ha.mono ρ _ _ (fun d ρ1 z1 => hb.mono ρ1 _ _ (fun d' ρ2 z2 => mp _ _ _ (fun r z3 => w _ _ z3) z2) z1) z, pe_weak (pe_callBK hc hg hm hv (pa_cons ha.run pa_nil h1) (pk_cons hb.run pk_nil) hn hdb he hpl hall hnone hks) ?_⟩
  rintro σ H Q ⟨G, loc, ρ, R, z⟩
  refine ⟨G, loc, ρ, R, ha.mono ρ _ _ (fun d ρ1 z1 v H1 R1 g1 d1 => ?_) z⟩
  refine ⟨G, loc, ρ1, R1, hb.mono ρ1 _ _ (fun d' ρ2 z2 v' H2 R2 g2 d2 => ?_) z1⟩
  refine ⟨v, v', rfl, rfl, hp (Fb G.fb ρ2 loc) H2 _ _ Q R2.fbE (.cons (d1.g g2) (.cons d2 .nil)) (mp _ _ _ (fun r z3 w H3 m3 d3 => z3 w H3 (R2.more m3) ((g1.trans g2).trans (more_grow m3)) d3) z2)⟩
theorem em_sumS (hc : X.calm = true) (hm : X.mg "sum" = none) (ha : EM X e m) (hb : EM X e' m') (hg : Gl X "sum" := by rfl)
    (h1 : starEach [e] X.env = [(false, eval e X.env)] := by rfl) (he : backTo pos (starEach [e] X.env) = (false, eval e X.env) :: backTo pos (starEach [] X.env) := by rfl) (hpl : (backTo pos (starEach [e] X.env)).any (·.1) = false := by rfl)
    (hall : (backToKw pos (keywordEach [⟨some "start", e', kpos⟩] X.env)).all (·.1.isSome) = true := by rfl) (hnone : (backToKw pos (keywordEach [⟨some "start", e', kpos⟩] X.env)).any (·.1.isNone) = false := by rfl) (hks : (backToKw pos (keywordEach [⟨some "start", e', kpos⟩] X.env)).filterMap (·.1) = [("start" : Str)] := by rfl) :
    EM X (.Call (.Name "sum" p) [e] [⟨some "start", e', kpos⟩] pos) (mKw sumSD m m') :=
  em_kw1 (crk_sum hc) prim_sumS pm_sumS hg hm (by decide +kernel) ha hb (by decide) (by decide) h1 he hpl hall hnone hks
theorem em_maxS (hu : X.A.units + 64 < cLine) (hc : X.calm = true) (hm : X.mg "max" = none) (ha : EM X e m) (hb : EM X e' m') (hg : Gl X "max" := by rfl)
    (h1 : starEach [e] X.env = [(false, eval e X.env)] := by rfl) (he : backTo pos (starEach [e] X.env) = (false, eval e X.env) :: backTo pos (starEach [] X.env) := by rfl) (hpl : (backTo pos (starEach [e] X.env)).any (·.1) = false := by rfl)
    (hall : (backToKw pos (keywordEach [⟨some "default", e', kpos⟩] X.env)).all (·.1.isSome) = true := by rfl) (hnone : (backToKw pos (keywordEach [⟨some "default", e', kpos⟩] X.env)).any (·.1.isNone) = false := by rfl) (hks : (backToKw pos (keywordEach [⟨some "default", e', kpos⟩] X.env)).filterMap (·.1) = [("default" : Str)] := by rfl) :
    EM X (.Call (.Name "max" p) [e] [⟨some "default", e', kpos⟩] pos) (mKw maxSD m m') :=
  em_kw1 (crk_max hc hu) prim_maxS pm_maxS hg hm PyProof.Rows.boot_max ha hb (by decide) (by decide) h1 he hpl hall hnone hks
end
end DL

namespace DL
open PySem PySem.Spec PyProof.Rows L2

/-! ### sets of ints and texts, with what walking them gives -/
def kOf : Value → Key
  | .int i _ => .inl i
  | .str x _ => .inr x
  | _ => .inl 0
def eK (e : Int × Value) : Key := kOf e.2
def GoodW (w : World) (e : Int × Value) : Prop := keyIs (eK e) e.2 = true ∧ e.1 = keyH w (eK e)
/-- the set at a has the keys L, each once, in some order -/
def SetW (w : World) (h : Heap) (a : Addr) (L : List Key) : Prop :=
  ∃ o es ep t, h.get? a = some o ∧ o.ExactSet ∧ o.data = .set es ep t ∧ (∀ e ∈ es.toList, GoodW w e) ∧ (es.toList.map eK).Perm L ∧ L.Nodup ∧
    es.size < scanBound ∧ t.fits es.size = true ∧ Ris t.place.toList ∧ (w.params.followText "set-order" = true ∨ t.led = true)
theorem kOf_is {k : Key} {v : Value} (h : keyIs k v = true) : kOf v = k := by
  rcases keyIs_shape h with ⟨i, t, rfl, rfl⟩ | ⟨x, t, rfl, rfl⟩ <;> rfl
theorem is_scan {k : Key} {v : Value} (h : keyIs k v = true) : v.scannable = true := by
  rcases keyIs_shape h with ⟨i, t, rfl, rfl⟩ | ⟨x, t, rfl, rfl⟩ <;> rfl
def hasK (k : Key) (L : List Key) : Bool := L.any fun j => decide (j = k)
theorem hasK_iff {k : Key} {L : List Key} : hasK k L = true ↔ k ∈ L := by
  unfold hasK
  rw [List.any_eq_true]
  constructor
  · rintro ⟨j, hj, e⟩
    exact of_decide_eq_true e ▸ hj
  · exact fun h => ⟨k, h, decide_eq_true rfl⟩
section
variable {P : Program} {w : World} {h h' : Heap} {a : Addr} {L : List Key}
theorem SetW.at (R : SetW w h a L) (k : ∀ o, h.get? a = some o → h'.get? a = some o) : SetW w h' a L := by
  obtain ⟨o, es, ep, t, ho, r⟩ := R
  exact ⟨o, es, ep, t, k o ho, r⟩
theorem SetW.perm {L' : List Key} (R : SetW w h a L) (p : L.Perm L') : SetW w h a L' := by
  obtain ⟨o, es, ep, t, ho, hx, hd, g, pm, nd, r⟩ := R
  exact ⟨o, es, ep, t, ho, hx, hd, g, pm.trans p, p.nodup_iff.mp nd, r⟩
theorem goodW_elems {l : List (Int × Value)} (g : ∀ e ∈ l, GoodW w e) : ElemsOf (mixKind P w) l := fun e he => ⟨⟨eK e, (g e he).1, (g e he).2⟩, is_scan (g e he).1⟩
theorem goodW_mem {l : List (Int × Value)} (g : ∀ e ∈ l, GoodW w e) (k : Key) : k ∈ l.map eK ↔ ∃ e ∈ l, (mixKind P w).is k e.2 = true := by
  rw [List.mem_map]
  constructor
  · rintro ⟨e, he, q⟩
    exact ⟨e, he, q ▸ (g e he).1⟩
  · rintro ⟨e, he, q⟩
    exact ⟨e, he, kOf_is q⟩
theorem SetW.setOf (R : SetW w h a L) : h.SetOf (mixKind P w) a (fun k => hasK k L) L.length := by
  obtain ⟨o, es, ep, t, ho, hx, hd, g, pm, nd, hb, hf, _⟩ := R
  refine ⟨o, es, ep, t, ho, hx, hd, goodW_elems g, fun k => ?_, hb, hf, ?_⟩
  · rw [hasK_iff, ← pm.mem_iff]
    exact goodW_mem g k
  · rw [← pm.length_eq, List.length_map, Array.length_toList]
theorem setW_fresh {h : Heap} (w : World) : SetW w (h.push { cls := .type "set", dict := none, data := .set #[] 0 (.fresh 0 0 (!w.params.followText "set-order")) }) h.objs.size [] := by
  refine ⟨_, #[], 0, _, Heap.get?_push_size _ rfl, ⟨rfl, rfl, rfl⟩, rfl, fun e he => by simp at he, by simp, List.nodup_nil, by decide, rfl, List.Pairwise.nil, ?_⟩
  cases q : w.params.followText "set-order" with
  | true => exact .inl rfl
  | false => exact .inr rfl
end
def insK (k : Key) (L : List Key) : List Key := if hasK k L = true then L else L ++ [k]
section
variable {P : Program} {w : World} {A : Around} {E : Value → Shared → Prop} {s : Shared} {a : Addr} {L : List Key}
/-- behind the laying of one: the table may be laid anew -/
theorem addW_tail {g : Bool → Sem Unit} (hg : ∀ (b : Bool) (s₁ : Shared) (Q' : Unit → Shared → Prop), Q' () s₁ → wpAny (model P w) A (g b) Q' E s₁)
    {o : Obj} {es es1 : Array (Int × Value)} {ep : Nat} {t t2 : SetTable} {wd : Bool} {R : Option Bool → Shared → Prop} (ho : s.heap.get? a = some o) (hex : o.ExactSet) (hd : o.data = .set es ep t)
    (g1 : ∀ e ∈ es1.toList, GoodW w e) (p1 : (es1.toList.map eK).Perm L) (nd : L.Nodup) (hb : es1.size < scanBound) (hf : t2.fits es1.size = true) (hr : Ris t2.place.toList) (hl : w.params.followText "set-order" = true ∨ t2.led = true)
    (hR : ∀ h', Heap.SameBut a s.heap h' → SetW w h' a L → R (some true) { s with heap := h' }) :
    wpAny (model P w) A (do
        storeSet a es1 t2
        if (!wd && t2.tooFull) = true then do
            g (relayAll t2 es1 (SetTable.grown es1.size)).2.2
            storeSet a (relayAll t2 es1 (SetTable.grown es1.size)).1 (relayAll t2 es1 (SetTable.grown es1.size)).2.1
            pure (some true)
          else pure (some true)) R E s := by
  refine wpAny_bind (wpAny_storeSet_of ho hd ?_ (fits_of_scanBound hb))
  have ho1 := store_at (es' := es1) (t' := t2) ho hd
  have sb1 := Heap.SameBut.update s.heap a (Obj.putSet es1 t2)
  by_cases hc : (!wd && t2.tooFull) = true
  · rw [if_pos hc]
    have pm := relayAll_perm t2 es1 (SetTable.grown es1.size)
    have hf3 := relayAll_fits t2 es1 (SetTable.grown es1.size)
    have hr3 := relayAll_ris t2 es1 (SetTable.grown es1.size)
    have hl3 := relayAll_led t2 es1 (SetTable.grown es1.size)
    generalize relayAll t2 es1 (SetTable.grown es1.size) = Z at pm hf3 hr3 hl3 ⊢
    obtain ⟨es2, t3, gv⟩ := Z
    dsimp only at pm hf3 hr3 hl3 ⊢
    have hb2 : es2.size < scanBound := by rw [← Array.length_toList, pm.length_eq, Array.length_toList]; exact hb
    refine wpAny_bind (hg _ _ _ (wpAny_bind (wpAny_storeSet_of ho1 rfl ?_ (fits_of_scanBound hb2))))
    exact wpAny_pure (hR _ (sb1.trans (Heap.SameBut.update _ a _)) ⟨_, es2, _, t3, store_at (es' := es2) (t' := t3) ho1 rfl, hex, rfl, fun e he => g1 e (pm.mem_iff.mp he), (pm.map eK).trans p1, nd, hb2, hf3, hr3, hl.imp id fun z => by rw [hl3]; exact z⟩)
  · rw [if_neg hc]
    exact wpAny_pure (hR _ sb1 ⟨_, es1, _, t2, ho1, hex, rfl, g1, p1, nd, hb, hf, hr, hl⟩)
theorem addW_hashed {k : Key} {v : Value} {Q : Bool → Shared → Prop} (hk : keyIs k v = true) (R : SetW w s.heap a L) (room : L.length + 1 < scanBound)
    (hQ : ∀ b h', Heap.SameBut a s.heap h' → SetW w h' a (insK k L) → Q b { s with heap := h' }) :
    wpAny (model P w) A (setAddHashed a v ((mixKind P w).hash k)) Q E s := by
  obtain ⟨o, es, ep, t, ho, hex, hd, g, pm, nd, hb, hf, hr, hl⟩ := R
  have hsc := is_scan hk
  have hel : ElemsOf (mixKind P w) es.toList := goodW_elems g
  unfold setAddHashed setAddHashedIn
  refine wpAny_holding (wpAny_bind (wpAny_setState_of ho hd hf ?_))
  dsimp only
  rw [byScan_of hsc hb hel]
  simp only [↓reduceIte]
  unfold setAddByScan
  refine wpAny_bind (wpAny_bind (wpAny_rule (wpAny_bind (wpAny_setScan_of (knd := mixKind P w) hk ho hd hf hel ?_))))
  cases hfi : List.findIdx? (fun e => (mixKind P w).is k e.2) es.toList with
  | some j =>
    dsimp only
    obtain ⟨hj, pj, _⟩ := List.findIdx?_eq_some_iff_getElem.mp hfi
    have hm : k ∈ L := pm.mem_iff.mp ((goodW_mem (P := P) g k).2 ⟨es.toList[j], List.getElem_mem hj, pj⟩)
    refine wpAny_pure (wpAny_pure (hQ _ s.heap (Heap.SameBut.refl a s.heap) ?_))
    unfold insK
    rw [if_pos (hasK_iff.mpr hm)]
    exact ⟨o, es, ep, t, ho, hex, hd, g, pm, nd, hb, hf, hr, hl⟩
  | none =>
    dsimp only
    have hm : k ∉ L := fun z => by
      obtain ⟨e, he, q⟩ := (goodW_mem (P := P) g k).1 (pm.mem_iff.mpr z)
      have c := List.findIdx?_eq_none_iff.mp hfi e he
      rw [q] at c
      cases c
    have hgw : ∀ (b : Bool) {s₁ : Shared} {Q' : Unit → Shared → Prop}, Q' () s₁ → wpAny (model P w) A (match b with | true => rule "set.scan.the-table-gave-way" | false => pure ()) Q' E s₁ :=
      fun b s₁ Q' q => by cases b <;> first | exact wpAny_pure q | exact wpAny_rule q
    have q1 := layNew_perm t es ((mixKind P w).hash k) v
    have hf1 := layNew_fits t es ((mixKind P w).hash k) v
    have hr1 := layNew_ris t es ((mixKind P w).hash k) v hr
    have hl1 := layNew_led t es ((mixKind P w).hash k) v
    generalize layNew t es ((mixKind P w).hash k) v = Z at q1 hf1 hr1 hl1 ⊢
    obtain ⟨es1, t1, wd, gv⟩ := Z
    dsimp only at q1 hf1 hr1 hl1 ⊢
    rw [Array.toList_push] at q1
    have pl : (es1.toList.map eK).Perm (insK k L) := by
      unfold insK
      rw [if_neg fun z => hm (hasK_iff.mp z)]
      refine (q1.map eK).trans ?_
      rw [List.map_append]
      have e1 : [((mixKind P w).hash k, v)].map eK = [k] := by show [kOf v] = [k]; rw [kOf_is hk]
      rw [e1]
      exact pm.append_right _
    have nd1 : (insK k L).Nodup := by
      unfold insK
      rw [if_neg fun z => hm (hasK_iff.mp z)]
      exact List.nodup_append.mpr ⟨nd, by simp, fun x hx y hy => by rw [List.mem_singleton.mp hy]; exact fun z => hm (z ▸ hx)⟩
    have g1 : ∀ e ∈ es1.toList, GoodW w e := fun e he => by
      rcases List.mem_append.mp (q1.mem_iff.mp he) with z | z
      · exact g e z
      · rw [List.mem_singleton.mp z]
        exact ⟨by show keyIs (kOf v) v = true; rw [kOf_is hk]; exact hk, by show keyH w k = keyH w (kOf v); rw [kOf_is hk]⟩
    have hb1 : es1.size < scanBound := by
      have e1 := pl.length_eq
      rw [List.length_map, Array.length_toList] at e1
      unfold insK at e1
      rw [if_neg fun z => hm (hasK_iff.mp z), List.length_append] at e1
      simp at e1
      omega
    have hled : w.params.followText "set-order" = true ∨ t1.led = true := hl.imp id fun z => by rw [hl1]; exact z
    refine wpAny_bind (hgw _ ?_)
    split
    · refine wpAny_bind ?_
      rw [hashByValue_scannable 8 hsc]
      refine wpAny_pure (addW_tail ?_ ho hex hd g1 pl nd1 hb1 ?_ ?_ ?_ ?_)
      · intro b s₁ Q' q; cases b <;> first | exact wpAny_pure q | exact wpAny_rule q
      · first | (split <;> first | exact hf1 | exact SetTable.fits_plain_off hf1) | exact hf1
      · first | (split <;> exact hr1) | exact hr1
      · first | (split <;> exact hled) | exact hled
      · intro h' sb r; dsimp only; exact wpAny_pure (hQ _ h' sb r)
    · refine wpAny_bind (wpAny_pure ?_)
      simp only [↓reduceIte]
      refine addW_tail ?_ ho hex hd g1 pl nd1 hb1 hf1 hr1 hled ?_
      · intro b s₁ Q' q; cases b <;> first | exact wpAny_pure q | exact wpAny_rule q
      · intro h' sb r; dsimp only; exact wpAny_pure (hQ _ h' sb r)
/-- found.add(k) -/
theorem addW {k : Key} {v : Value} {Q : Value → Shared → Prop} (hk : keyIs k v = true) (R : SetW w s.heap a L) (room : L.length + 1 < scanBound)
    (hQ : ∀ h', Heap.SameBut a s.heap h' → SetW w h' a (insK k L) → Q .none { s with heap := h', toks := s.toks + 1 }) :
    wpAny (model P w) A (call (.builtin "set.add") [.ref a, v]) Q E s := by
  have hS := R.setOf (P := P)
  refine wpAny_call_entry F.slot_set_add hS.typeIs F.entry_set_add ?_ (F.args_set_add_2 _ _)
  unfold Builtin.«set.add» Builtin.Frozenset.oneOther
  simp only [List.isEmpty_nil, bind_assoc]
  unfold Builtin.Frozenset.addrOf setAdd
  refine wpAny_bind (wpAny_pure ?_)
  try dsimp only
  refine wpAny_bind (wpAny_pure ?_)
  try dsimp only
  refine wpAny_bind (wpAny_holding (wpAny_bind ((mixKind P w).pyHash hk ?_)))
  refine addW_hashed (s := { s with toks := s.toks + 1 }) hk R room fun b h' sb r => ?_
  show wpAny _ _ (ret Value.none) _ _ _
  exact wpAny_pure ⟨_, rfl, hQ h' sb r⟩
end
end DL

namespace DL
open PySem PySem.Spec PyProof.Rows L2

section
variable {P : Program} {w : World} {A : Around} {E : Value → Shared → Prop} {s : Shared} {a : Addr}
/-- sorted of a set of texts -/
theorem sortedW_txt {xs : List Str} {Q : Value → Shared → Prop} (R : SetW w s.heap a (xs.map Sum.inr)) (hh : A.handled = none)
    (hQ : ∀ s' p (out : Array Value) (c : Nat) (ys : List Str), (∀ b o, s.heap.get? b = some o → s'.heap.get? b = some o) → s'.gens = s.gens → s'.os = s.os → s.heap.objs.size ≤ p →
      s'.heap.get? p = some (seqObj "list" out c) → StrsAre out.toList ys → ys.Perm xs → sortedS ys = true → Q (.ref p) s') :
    wpAny (model P w) A (call (.builtin "sorted") [.ref a]) Q E s := by
  obtain ⟨o, es, ep, t, ho, hex, hd, g, pm, nd, hb, hf, hr, hl⟩ := R
  refine Calls.call_function_entry kind_sorted plain_sorted entry_sorted (args_sorted1 _) ?_
  unfold Builtin.«sorted»
  refine wpAny_bind (m := checkCount "sorted" 1 1 _) (wpAny_pure ?_)
  refine wpAny_bind (collect_set (A := A.in1) hh ⟨o, ho, hex.1, hd⟩ hf hb hr hl fun s1 vs k1 hz g1 o1 pv => ?_)
  have hvl : vs.length = es.size := by rw [pv.length_eq, List.length_map, Array.length_toList]
  have hall : ∀ v ∈ vs, ∃ x t, v = Value.str x t := fun v hv => by
    obtain ⟨e, he, q⟩ := List.mem_map.mp (pv.mem_iff.mp hv)
    have m1 : eK e ∈ xs.map Sum.inr := pm.mem_iff.mp (List.mem_map.mpr ⟨e, he, rfl⟩)
    obtain ⟨x, _, ex⟩ := List.mem_map.mp m1
    have g2 := (g e he).1
    rw [← ex] at g2
    rcases keyIs_shape g2 with ⟨i, t, z, _⟩ | ⟨y, t, z, z2⟩
    · cases z
    · exact ⟨y, t, by rw [← q]; exact z2⟩
  have hS := strsAre_map vs hall
  have hL : vs.length ≤ sizeLine := by
    have : scanBound = 4096 := rfl
    rw [hvl, sizeLine_eq]; omega
  refine wpAny_bind (wpAny_newList ?_ hL)
  have hoL : (s1.heap.push (seqObj "list" vs.toArray 0)).get? s1.heap.objs.size = some (seqObj "list" vs.toArray 0) := Heap.get?_push_size _ rfl
  refine wpAny_bind (wpAny_holding (wpAny_call_entry slot_list_sort ⟨_, hoL, rfl⟩ entry_list_sort (list_sort_treeKAny strKind_oneLt hoL hS.keysOf (fun v₁ v₂ rest e => keyKind_strs (by rw [← e]; exact hS)) hL fun st' a1 a2 => ⟨_, rfl, ?_⟩) (args_list_sort _)))
  obtain ⟨ys, y1, y2, y3⟩ := sorted_out_str hS a1 a2
  obtain ⟨c, hc⟩ := sortedHeap_at (vs := vs) (out := (arrOf st').map (·.2)) hoL
  have hk : ∀ v ∈ vs, Sum.inr (strOf v) = kOf v := fun v hv => by
    obtain ⟨x, t, rfl⟩ := hall v hv
    rfl
  have px : (vs.map strOf).Perm xs := by
    have q : ((vs.map strOf).map (Sum.inr (α := Int))).Perm (xs.map Sum.inr) := by
      have e1 : (vs.map strOf).map (Sum.inr (α := Int)) = vs.map kOf := by
        rw [List.map_map]
        exact List.map_congr_left fun v hv => hk v hv
      rw [e1]
      refine ((pv.map kOf).trans ?_)
      rw [List.map_map]
      exact pm
    have q2 := q.map (fun k : Key => match k with | .inr x => x | .inl _ => (⟨#[]⟩ : Str))
    rw [List.map_map, List.map_map] at q2
    simpa [Function.comp_def] using q2
  refine wpAny_pure ⟨_, rfl, hQ _ s1.heap.objs.size _ c ys (fun b u e => ?_) g1 o1 hz hc y1 (y2.trans px) y3⟩
  have q := k1 b u e
  have hlt := Heap.lt_size q
  show (sortedHeap (s1.heap.push (seqObj "list" vs.toArray 0)) s1.heap.objs.size vs _).get? b = some u
  rw [sortedHeap_old (Nat.ne_of_lt hlt) (by rw [size_push']; exact Nat.lt_succ_of_lt hlt)]
  exact Heap.get?_push_of_some _ q
end
/-- the set as a tracked thing -/
def SetWO (w : World) (a : Addr) (L : List Key) : HO := .ext fun h => SetW w h a L
theorem setWO_new {w : World} {P : Program} {H : Hp} {h : Heap} {a : Addr} {L : List Key} (R : SetW w h a L) : ObjOk P w H h a (SetWO w a L) := by
  have ⟨o, _, _, _, ho, _⟩ := R
  exact ⟨R, ⟨o, ho⟩, fun h1 h2 p k => SetW.at p k⟩
def rSortedW (w : World) : List V → Hp → VK → Prop := fun vs H Q => ∃ (a : Addr) (xs : List Str), vs = [V.ref a] ∧ H a = some (SetWO w a (xs.map Sum.inr)) ∧
  ∀ (ys : List Str) (p : Addr), ys.Perm xs → sortedS ys = true → H p = none → Q (.ref p) (upd H p (.lst (ys.map V.str)))
section
variable {X : Cx} {pins : List (Addr × Obj)} {σ : L2.St} {H : Hp} {s : Shared}
theorem setWO_get {a : Addr} {L : List Key} (I : L2.Inv X pins σ H s) (ha : H a = some (SetWO X.w a L)) : SetW X.w s.heap a L := (I.hok a _ ha).1
theorem cr_sortedW (hc : X.calm = true) : CallR X (.builtin "sorted") (rSortedW X.w) := by
  intro pins s σ H vs us Q I r h
  obtain ⟨a, xs, rfl, ha, q⟩ := h
  have R := setWO_get I ha
  rw [Vals.ref1 r]
  have hsz : xs.length < scanBound := by
    obtain ⟨o, es, ep, t, _, _, _, _, pm, _, hb, _⟩ := R
    have e1 := pm.length_eq
    rw [List.length_map, List.length_map, Array.length_toList] at e1
    omega
  refine sortedW_txt R (I.ok.hd hc) fun s' p out c ys k g o hp hg hi pm hs => ?_
  have hlen : (ys.map V.str).length ≤ sizeLine := by
    have : scanBound = 4096 := rfl
    rw [List.length_map, pm.length_eq, sizeLine_eq]; omega
  have hn : H p = none := I.hok.fresh hp
  have J : L2.Inv X pins σ (upd H p (.lst (ys.map V.str))) { s with heap := s'.heap, gens := s'.gens, drawn := s'.drawn, toks := s'.toks } :=
    I.call (ch := []) (Un.laid k hp hn) (I.hok.laid k hp ⟨hlen, out.toList, c, vals_of_strs hi, hg⟩) (by rw [g]; exact I.bare) (fun _ z => nomatch z)
  have e : s' = { s with heap := s'.heap, gens := s'.gens, drawn := s'.drawn, toks := s'.toks } := by
    cases s'
    cases s
    cases o
    rfl
  rw [e]
  exact ⟨.ref p, _, J, rfl, q ys p pm hs hn⟩
/-- set.add by the tracked thing -/
theorem addWO {E : Value → Shared → Prop} {D : Addr} {L : List Key} {k : Key} {v : Value} {Q : Value → Shared → Prop} (I : L2.Inv X pins σ H s) (hD : H D = some (SetWO X.w D L)) (hk : keyIs k v = true) (room : L.length + 1 < scanBound)
    (h : ∀ s', L2.Inv X pins σ (upd H D (SetWO X.w D (insK k L))) s' → Q .none s') : wpAny (model X.prog X.w) X.A (call (.builtin "set.add") [.ref D, v]) Q E s := by
  refine addW hk (setWO_get I hD) room fun h' sb new => ?_
  have he : ∃ u, h'.get? D = some u := by
    have ⟨o, _, _, _, ho, _⟩ := new
    exact ⟨o, ho⟩
  exact h _ (I.write (e := D) (t' := s.toks + 1) (by rw [hD]; trivial) (.inl rfl) (fun b u hb hu => (sb.2 b hb).trans hu) he (setWO_new new))
end
end DL

namespace DL
open PySem PySem.Spec PyProof.Rows L2

/-! ### set comprehensions, whatever the set is tracked as -/
/-- a way to track sets: what a new one is, what adding does -/
structure SetWay (X0 : Program × World) where
  ι : Type
  so : ι → Addr → HO
  ini : ι
  ad : ι → V → ι → Prop
  lay : ∀ (H : Hp) (h : Heap), ObjOk X0.1 X0.2 H (h.push { cls := .type "set", dict := none, data := .set #[] 0 (.fresh 0 0 (!X0.2.params.followText "set-order")) }) h.objs.size (so ini h.objs.size)
  add : ∀ (X : Cx), X.prog = X0.1 → X.w = X0.2 → ∀ (pins : List (Addr × Obj)) (σ : L2.St) (H : Hp) (s : Shared) (D : Addr) (i j : ι) (y : V) (u : Value) (E Q : Value → Shared → Prop), L2.Inv X pins σ H s → H D = some (so i D) → RelV y u → ad i y j →
    (∀ s', L2.Inv X pins σ (upd H D (so j D)) s' → Q .none s') → wpAny (model X.prog X.w) X.A (call (.builtin "set.add") [.ref D, u]) Q E s
def tSetW {X0 : Program × World} (Y : SetWay X0) (wi : TI) (g : TG) (tt : TT) (te : TE) (vs : List Nat) : TE := fun σ H Q => wi σ H fun J H1 => ∀ D, H1 D = none → ∃ W : Nat → Nat → Hp → Prop, (∃ m, W 0 m (upd H1 D (Y.so Y.ini D))) ∧ ∀ i m H, W i m H →
  (J.stop i H ∧ Q (.ref D) H) ∨ (J.go i H ∧ ∃ Nx : Hp → Prop, (∀ H', Nx H' → ∃ m', m' < m ∧ W (i + 1) m' H') ∧ ∀ x H', J.yld i H x H' → g x (wipe σ vs) H' fun σ2 H2 => wipe σ2 vs = wipe σ vs ∧ tt σ2 H2 fun b H3 =>
    if b = true then te σ2 H3 fun y H4 => ∃ c c', H4 D = some (Y.so c D) ∧ Y.ad c y c' ∧ Nx (upd H4 D (Y.so c' D)) else Nx H3)
section
variable {X : Cx}
theorem pe_setW (Y : SetWay (X.prog, X.w)) {elt tg iter : Expr} {ifs : List Expr} {scope : Scope} {own : List (PySem.Str × Nat)} {pos : Pos} {wi : TI} {g : TG} {tt : TT} {te : TE} (hc : X.calm = true) (hN : X.N.Nodup) (hi : PI X tg iter wi) (ok : BlkOk X.N X.env.scope scope own)
    (hg : ∀ (s : Shared) (H : Hp) (C : Addr) (cl : List (PySem.Str × Addr)) (fp : List Addr), PG (X.blk s H scope (compEnvC scope cl C X.env) fp) tg g) (ht : ∀ (s : Shared) (H : Hp) (C : Addr) (cl : List (PySem.Str × Addr)) (fp : List Addr), PTs (X.blk s H scope (compEnvC scope cl C X.env) fp) ifs tt)
    (he : ∀ (s : Shared) (H : Hp) (C : Addr) (cl : List (PySem.Str × Addr)) (fp : List Addr), PE (X.blk s H scope (compEnvC scope cl C X.env) fp) elt te) (hs : ∀ x, foldedSetIterable iter X.env x = pure x := by intro _; rfl) :
    PE X (.SetComp elt [⟨tg, iter, ifs, 0⟩] scope pos) (tSetW Y wi g tt te (own.map (·.2))) := by
  refine ⟨fun pins s σ H Q I h => ?_⟩
  rw [PpSet.eval_SetComp]
  refine wpAny_comprehension_free (use := none) rfl hs (closure_ok fun y hy e => ?_) ok.kind (fun y hy e => by rw [ok.uniq y hy, e]) (thn (hi.run pins s σ H _ I h) fun xv s1 hx => thn hx fun itv s2 h2 => ?_)
  · rcases ok.free y hy e with k | k
    · exact I.ok.has _ (.inl k)
    · exact I.ok.has _ (.inr k)
  obtain ⟨it, fp, tn, J, H2, rfl, I2, T, st2, f2, q⟩ := h2
  refine PpSet.newSet_ok (newEnv_comp ?_)
  obtain ⟨W, ⟨m0, w0⟩, turn⟩ := q s2.heap.objs.size (I2.hok.fresh (Nat.le_refl _))
  -- s3: the set is there
  generalize hs3 : ({ s2 with heap := s2.heap.push { cls := .type "set", dict := none, data := .set #[] 0 (.fresh 0 0 (!X.w.params.followText "set-order")) } } : Shared) = s3
  have h3 : s3.heap = s2.heap.push { cls := .type "set", dict := none, data := .set #[] 0 (.fresh 0 0 (!X.w.params.followText "set-order")) } := by rw [← hs3]
  have I3 : L2.Inv X pins σ (upd H2 s2.heap.objs.size (Y.so Y.ini s2.heap.objs.size)) s3 := by
    rw [← hs3]
    exact I2.laid (t' := s2.toks) (fun b o e => Heap.get?_push_of_some _ e) (Nat.le_refl _) (Y.lay _ _)
  have below : ∀ b ∈ fp, b < s2.heap.objs.size := fun b hb => let ⟨o, e, _⟩ := T.obj _ _ st2 b hb; Heap.lt_size e
  generalize hH3 : upd H2 s2.heap.objs.size (Y.so Y.ini s2.heap.objs.size) = H3 at I3 w0
  generalize hD : s2.heap.objs.size = D at I3 w0 turn below hH3
  have f3 : ∀ b ∈ fp, FpOk X pins H3 b ∧ b < s3.heap.objs.size := fun b hb => by
    have lt := below b hb
    refine ⟨⟨?_, (f2 b hb).2⟩, by rw [h3, Heap.size_push, hD]; exact Nat.lt_succ_of_lt lt⟩
    rw [← hH3, upd_ne (Nat.ne_of_lt lt)]
    exact (f2 b hb).1
  have I4 := block_start I3 ok hN f3
  show codeAny _ _ (.compStart (.SetComp elt [⟨tg, iter, ifs, 0⟩] scope pos) 0 (.ref it) (.ref D) (compEnvC scope (cellsFrom (s3.heap.objs.size + 1) scope.names (cloFrom X.env.cells scope.names [])) s3.heap.objs.size X.env))
    (compPost (model X.prog X.w) X.A X.xe none (EP X pins σ Q) (.ref D) s3.heap.objs.size) { s3 with heap := pushCells (s3.heap.push { cls := .type "dict", data := .dict #[] }) scope.names }
  have pg := hg s3 H3 s3.heap.objs.size (cellsFrom (s3.heap.objs.size + 1) scope.names (cloFrom X.env.cells scope.names [])) fp
  have pt := ht s3 H3 s3.heap.objs.size (cellsFrom (s3.heap.objs.size + 1) scope.names (cloFrom X.env.cells scope.names [])) fp
  have pe := he s3 H3 s3.heap.objs.size (cellsFrom (s3.heap.objs.size + 1) scope.names (cloFrom X.env.cells scope.names [])) fp
  generalize hce : compEnvC scope (cellsFrom (s3.heap.objs.size + 1) scope.names (cloFrom X.env.cells scope.names [])) s3.heap.objs.size X.env = ce at I4 pg pt pe ⊢
  have cL : ce.locals = s3.heap.objs.size := by rw [← hce]; rfl
  generalize hs4 : ({ s3 with heap := pushCells (s3.heap.push { cls := .type "dict", data := .dict #[] }) scope.names } : Shared) = s4 at I4 ⊢
  have st4 : tn 0 s4.heap := T.keep _ _ _ st2 fun b _ o e => by rw [← hs4]; exact pushCells_keeps _ _ _ _ (Heap.get?_push_of_some _ (by rw [h3]; exact Heap.get?_push_of_some _ e))
  have fpB : ∀ {σ' : L2.St} {H' : Hp} {s' : Shared}, L2.Inv (X.blk s3 H3 scope ce fp) [] σ' H' s' → (∀ b ∈ fp, H' b = none) → ∀ b ∈ fp, FpOk (X.blk s3 H3 scope ce fp) [] H' b := fun I' hn b hb =>
    ⟨hn b hb, (I'.ok.exf b hb).1, I'.ok.exfs b hb, .inl hb, fun x c e => (I'.ok.exf b hb).2 x c e, fun p hp => absurd (show p ∈ ([] : List (Addr × Obj)) ++ [] from hp) (by simp)⟩
  have loop : codeAny (model X.prog X.w) X.A (.compLoop (.SetComp elt [⟨tg, iter, ifs, 0⟩] scope pos) 0 (.ref it) (.ref D) ce) (compPost (model X.prog X.w) X.A X.xe none (EP X pins σ Q) (.ref D) s3.heap.objs.size) s4 := by
    refine PpSet.compLoopS_any (fun n s' => ∃ i H', L2.Inv (X.blk s3 H3 scope ce fp) [] (wipe σ (own.map (·.2))) H' s' ∧ tn i s'.heap ∧ (∀ b ∈ fp, H' b = none) ∧ W i n H') ?_ m0 ⟨0, H3, I4, st4, fun b hb => (f3 b hb).1.1, w0⟩
    rintro n s5 ⟨i, H5, I5, st5, n5, w5⟩
    rcases turn i n H5 w5 with ⟨stop, qq⟩ | ⟨go, Nx, hNx, step⟩
    · refine thnF (T.done (X.blk s3 H3 scope ce fp) rfl rfl rfl hc i [] s5 _ H5 (fun _ _ => False) I5 (fpB I5 n5) st5 stop) fun r s6 ⟨hr, I6⟩ => ?_
      subst hr
      have I7 : L2.Inv X pins σ H5 s6 := I3.call' (ch := fp) I6.os I6.base I6.hok I6.bare fun b hb => ⟨(f3 b hb).1.2.2.2.1, (f3 b hb).1.2.1, (f3 b hb).1.2.2.2.2.1, (f3 b hb).1.2.2.2.2.2⟩
      have nC : H5 ce.locals = none := I6.free
      obtain ⟨m, hn, _⟩ := I6.loc
      have hn : s6.heap.Ns ce.locals m := hn
      rw [cL] at hn nC
      obtain ⟨f0, f1, f2', f3', f4, f5⟩ := I3.fpOk (Nat.le_refl _) nC
      exact ⟨m, hn, fun h'' sb => ⟨.ref D, H5, I7.turned (t' := s6.toks) (fun b o hb e => (sb.2 b hb).trans e) f0 f1 f3' f4 f5, rfl, qq⟩⟩
    · refine thnF (T.item (X.blk s3 H3 scope ce fp) rfl rfl rfl hc i [] s5 _ H5 (fun _ _ => False) I5 (fpB I5 n5) st5 go) fun r s6 ⟨u, hr, h6⟩ => ?_
      subst hr
      refine thnF h6 fun _ s7 ⟨x, H7, I7, r7, y7, st7, n7⟩ => ?_
      refine thnF (pg.run _ s7 _ H7 x u _ (I7.pinned (fpB I7 n7) (T.obj _ _ st7)) r7 (step x H7 y7)) fun _ s8 ⟨σ8, H8, I8, hw8, q8⟩ => ?_
      refine thnF (pt.run _ s8 σ8 H8 _ I8 q8) fun b s9 ⟨H9, I9, q9⟩ => ?_
      have next : ∀ {s' : Shared} {H' : Hp}, L2.Inv (X.blk s3 H3 scope ce fp) ([] ++ pinsAt fp s7.heap) σ8 H' s' → Nx H' → ∃ m, m < n ∧ ∃ i H', L2.Inv (X.blk s3 H3 scope ce fp) [] (wipe σ (own.map (·.2))) H' s' ∧ tn i s'.heap ∧ (∀ b ∈ fp, H' b = none) ∧ W i m H' := fun {s' H'} I' nx => by
        obtain ⟨m', hm, w'⟩ := hNx H' nx
        have held : ∀ b ∈ fp, ∀ o, s7.heap.get? b = some o → s'.heap.get? b = some o ∧ H' b = none := fun b hb o e =>
          let z := I'.pin (b, o) (List.mem_append_right _ (List.mem_append_right _ (mem_pinsAt hb e)))
          ⟨z.1, z.2.1⟩
        refine ⟨m', hm, i + 1, H', (I'.unpinned (pins := [])).weak (by rw [← hw8, wipe_length]) (fun j v e => ?_), T.keep _ _ _ st7 fun b hb o e => (held b hb o e).1, fun b hb => ?_, w'⟩
        · rw [← hw8] at e
          exact (wipe_some e).1
        · obtain ⟨o, e, _⟩ := T.obj _ _ st7 b hb
          exact (held b hb o e).2
      cases b with
      | false =>
        rw [if_neg Bool.false_ne_true] at q9 ⊢
        exact next I9 q9
      | true =>
        rw [if_pos rfl] at q9 ⊢
        exact thnF (pe.run _ s9 σ8 H9 _ I9 q9) fun z s10 ⟨yv, H10, I10, r10, c, c', hD10, ha, nx⟩ => Y.add (X.blk s3 H3 scope ce fp) rfl rfl _ _ _ _ D c c' yv z _ _ I10 hD10 r10 ha fun s11 I11 => next I11 nx
  exact PpSet.codeAny_compStart_set loop (T.self X.A 0 _ _ _ st4 loop)
end
/-- sets of ints and texts -/
def wayW (P : Program) (w : World) : SetWay (P, w) where
  ι := List Key
  so := fun L D => SetWO w D L
  ini := []
  ad := fun L y L' => ∃ k, y = kV k ∧ L' = insK k L ∧ L.length + 1 < scanBound
  lay := fun H h => setWO_new (setW_fresh w)
  add := fun X e1 e2 pins σ H s D L L' y u E Q I hD r ⟨k, ey, eL, room⟩ h => by
    subst e1; subst e2; subst ey; subst eL
    exact addWO I hD (kV_is (P := X.prog) (w := X.w) r) room h
end DL

namespace DL
open PySem L2

/-! ### sorted({.. for .. in ..}), texts -/
section
variable {K : PySem.W.Frag} {G : Fr} {ρ : List Slot} {loc : Nat → Addr} {σ : L2.St} {H : Hp}
/-- a new thing that nothing leads to -/
theorem new_any {o : HO} (R : Rep K G ρ loc σ H) {p : Addr} (hp : H p = none) :
    G.H0 p = none ∧ ¬ G.fb p ∧ Rep K (G.plus p) ρ loc σ (upd H p o) ∧ Grow (Fb G.fb ρ loc) (Fb (G.plus p).fb ρ loc) H (upd H p o) := by
  have g : Grow (Fb G.fb ρ loc) (Fb (G.plus p).fb ρ loc) H (upd H p o) := fun b u e n => ⟨upd_more hp b u e, fun z => by
    rcases z with (z | z) | z
    · exact n (.inl z)
    · rw [z, hp] at e; cases e
    · exact n (.inr z)⟩
  refine ⟨R.h0 hp, fun z => R.notFb hp (.inl z), ⟨R.len, fun i d e => ?_, fun i b ds e => ?_, R.apart, R.brw, fun i ds e => ?_, fun b u e n => upd_more hp b u (R.ext b u e n), fun b e => ?_, fun b e => .inl (R.bwS b e), R.raw.plus (upd_more hp) hp g⟩, g⟩
  · obtain ⟨v, h1, h2⟩ := R.dat i d e
    exact ⟨v, h1, h2.g g⟩
  · obtain ⟨h1, vs, h2, h3⟩ := R.own i b ds e
    exact ⟨h1, vs, upd_more hp _ _ h2, h3.g g⟩
  · obtain ⟨h1, h2⟩ := R.new i ds e
    refine ⟨h1, fun z => ?_⟩
    rcases z with z | z
    · exact h2 z
    · obtain ⟨_, vs, q, _⟩ := R.own i false ds e
      rw [z, hp] at q; cases q
  · rcases e with e | e
    · obtain ⟨u, q⟩ := R.fbS b e
      exact ⟨u, upd_more hp _ _ q⟩
    · rw [e]; exact ⟨_, upd_same⟩
end
def hasS (x : Str) (xs : List Str) : Bool := xs.any fun y => decide (y = x)
def insS (x : Str) (xs : List Str) : List Str := if hasS x xs = true then xs else xs ++ [x]
theorem ins_inr (x : Str) (xs : List Str) : insK (.inr x) (xs.map Sum.inr) = (insS x xs).map Sum.inr := by
  have e : hasK (.inr x) (xs.map Sum.inr) = hasS x xs := by
    unfold hasK hasS
    rw [List.any_map]
    congr 1
    funext y
    exact key_rr y x
  unfold insK insS
  rw [e]
  split
  · rfl
  · rw [List.map_append]; rfl
def scLoop (g : GMn) (tt : M Bool) (te : M D) (vs : List Nat) (k : List Str → List Slot → Prop) : List D → List Str → List Slot → Prop
  | [], acc, ρ => k acc (wipeS ρ vs)
  | d :: ds, acc, ρ => g d ρ fun ρ1 => tt ρ1 fun b ρ2 => if b = true then te ρ2 fun e ρ3 => ∃ x, e = .str x ∧ acc.length + 1 < scanBound ∧ scLoop g tt te vs k ds (insS x acc) (wipeS ρ3 vs) else scLoop g tt te vs k ds acc (wipeS ρ2 vs)
def mSs (mi : M (List D)) (g : GMn) (tt : M Bool) (te : M D) (vs : List Nat) : M (List D) := fun ρ k => mi ρ fun ds ρ1 => scLoop g tt te vs (fun acc ρ' => ∀ ys : List Str, ys.Perm acc → PyProof.Rows.sortedS ys = true → k (ys.map PyData.str) ρ') ds [] (wipeS ρ1 vs)
theorem mono_scLoop {g : GMn} {tt : M Bool} {te : M D} {vs : List Nat} (hg : ∀ d ρ (k k' : List Slot → Prop), (∀ ρ', k ρ' → k' ρ') → g d ρ k → g d ρ k') (ht : Mono tt) (he : Mono te) {k k' : List Str → List Slot → Prop} (w : ∀ a ρ, k a ρ → k' a ρ) :
    ∀ (ds : List D) (acc : List Str) (ρ : List Slot), scLoop g tt te vs k ds acc ρ → scLoop g tt te vs k' ds acc ρ
  | [], acc, ρ, q => w _ _ q
  | d :: ds, acc, ρ, q => hg d ρ _ _ (fun ρ1 q1 => ht ρ1 _ _ (fun b ρ2 q2 => by
    cases b with
    | true => rw [if_pos rfl] at q2 ⊢; exact he ρ2 _ _ (fun e ρ3 ⟨x, q3, q4, q5⟩ => ⟨x, q3, q4, mono_scLoop hg ht he w ds _ _ q5⟩) q2
    | false => rw [if_neg Bool.false_ne_true] at q2 ⊢; exact mono_scLoop hg ht he w ds _ _ q2) q1) q
theorem mono_ss {mi : M (List D)} {g : GMn} {tt : M Bool} {te : M D} {vs : List Nat} (hi : Mono mi) (hg : ∀ d ρ (k k' : List Slot → Prop), (∀ ρ', k ρ' → k' ρ') → g d ρ k → g d ρ k') (ht : Mono tt) (he : Mono te) : Mono (mSs mi g tt te vs) :=
  fun ρ k k' w q => hi ρ _ _ (fun ds ρ1 q1 => mono_scLoop hg ht he (fun a ρ q2 ys p1 p2 => w _ _ (q2 ys p1 p2)) ds _ _ q1) q
theorem dx_strs {K : PySem.W.Frag} {H : Hp} {F : AS} : ∀ ys : List Str, DxAll K H F (ys.map V.str) (ys.map PyData.str)
  | [] => .nil
  | _ :: r => .cons (.str _) (dx_strs r)
theorem ss_meets {P : Program} {w : World} {K : PySem.W.Frag} {mi : M (List D)} {g : GMn} {tt : M Bool} {te : M D} {vs : List Nat} (hi : Mono mi) (hg : ∀ d ρ (k k' : List Slot → Prop), (∀ ρ', k ρ' → k' ρ') → g d ρ k → g d ρ k') (ht : Mono tt) (he : Mono te)
    {σ : L2.St} {H : Hp} {Q : VK} (h : TNof K (mSs mi g tt te vs) σ H Q) : tCB (rSortedW w) (tCons (tSetW (wayW P w) (TIof K mi) (TGof K vs g) (TTof K tt) (TEof K te) vs) tNil) σ H Q := by
  obtain ⟨G, loc, ρ, R, q⟩ := h
  refine ⟨G, loc, ρ, R, hi ρ _ _ (fun ds ρ1 q1 J H1 R1 g1 gv D hD => ?_) q⟩
  obtain ⟨h0, np, RD, gD⟩ := new_any (o := SetWO w D []) R1 hD
  have bs := R.bwS
  let KK : List Str → List Slot → Prop := fun acc ρ' => ∀ ys : List Str, ys.Perm acc → PyProof.Rows.sortedS ys = true → ∀ p vs H', G.H0 p = none → ¬ G.fb p → H' p = some (.lst vs) → Rep K (G.plus p) ρ' loc σ H' → Grow (Fb G.fb ρ loc) (Fb (G.plus p).fb ρ' loc) H H' → DxAll K H' (Fb (G.plus p).fb ρ' loc) vs (ys.map PyData.str) → Q (.ref p) H'
  refine ⟨fun i m H2 => ∃ ρ2 acc, m = ds.length - i ∧ Rep K (G.plus D) ρ2 loc (wipe σ vs) H2 ∧ H2 D = some (SetWO w D (acc.map Sum.inr)) ∧ Grow (Fb G.fb ρ1 loc) (Fb (G.plus D).fb ρ2 loc) H1 H2 ∧ scLoop g tt te vs KK (ds.drop i) acc ρ2,
    ⟨_, wipeS ρ1 vs, [], rfl, RD.wipe (wipe_wipe σ vs).symm, upd_same, gD.weak fun b z => Fb_wipe b z, by simpa using q1⟩, ?_⟩
  rintro i m H2 ⟨ρ2, acc, hm, R2, e2, g2, q2⟩
  obtain ⟨gv1, gv2⟩ := gv i _ H2 g2 R2.fbE
  cases hd : ds[i]? with
  | none =>
    have hl : ds.length ≤ i := List.getElem?_eq_none_iff.mp hd
    rw [List.drop_eq_nil_of_le hl] at q2
    have q3 : KK acc (wipeS ρ2 vs) := q2
    refine .inl ⟨gv2 hl, D, acc, rfl, e2, fun ys p pm hs hp => ?_⟩
    obtain ⟨R3, n3⟩ := R2.unplus bs np
    have R4 := R3.wipe (vs := vs) (wipe_wipe σ vs)
    obtain ⟨a1, a2, a3, a4, a5, a6⟩ := new_list R4 (dx_strs (K := K) (H := H2) (F := Fb G.fb (wipeS ρ2 vs) loc) ys) hp
    have g3 : Grow (Fb G.fb ρ1 loc) (Fb G.fb (wipeS ρ2 vs) loc) H1 H2 := g2.weak fun b z => by
      rcases Fb_wipe b z with z' | z'
      · exact .inl (.inl z')
      · exact .inr z'
    exact q3 ys pm hs p _ _ a1 a2 a3 a4 (g1.trans (g3.trans a5)) a6
  | some d =>
    obtain ⟨hl, hd'⟩ := List.getElem?_eq_some_iff.mp hd
    have e : ds.drop i = d :: ds.drop (i + 1) := by rw [← hd']; exact List.drop_eq_getElem_cons hl
    rw [e] at q2
    obtain ⟨go, yl⟩ := gv1 d hd
    refine .inr ⟨go, fun H3 => ∃ ρ3 acc, Rep K (G.plus D) ρ3 loc (wipe σ vs) H3 ∧ H3 D = some (SetWO w D (acc.map Sum.inr)) ∧ Grow (Fb G.fb ρ1 loc) (Fb (G.plus D).fb ρ3 loc) H1 H3 ∧ scLoop g tt te vs KK (ds.drop (i + 1)) acc ρ3,
      fun H3 ⟨ρ3, acc, a1, a2, a4, a5⟩ => ⟨_, by omega, ρ3, acc, rfl, a1, a2, a4, a5⟩, fun x H3 y3 => ?_⟩
    obtain ⟨m3, d3⟩ := yl x H3 y3
    have R3 := (R2.more m3).pin (m3 _ _ e2)
    refine ⟨G.pin D (SetWO w D (acc.map Sum.inr)), loc, ρ2, d, R3, d3, hg _ _ _ _ (fun ρ4 q4 σ4 H4 R4 g4 w4 => ⟨w4.trans (wipe_wipe σ vs), ?_⟩) q2⟩
    refine ⟨G.pin D (SetWO w D (acc.map Sum.inr)), loc, ρ4, R4, ht _ _ _ (fun b ρ5 q5 H5 R5 g5 => ?_) q4⟩
    have w4' : L2.wipe σ4 vs = L2.wipe (L2.wipe σ vs) vs := w4
    have g25 : Grow (Fb (G.plus D).fb ρ2 loc) (Fb (G.plus D).fb ρ5 loc) H2 H5 := (more_grow m3).trans (g4.trans g5)
    cases b with
    | false =>
      rw [if_neg Bool.false_ne_true] at q5
      show if false = true then _ else _
      rw [if_neg Bool.false_ne_true]
      obtain ⟨R6, e6⟩ := R5.unpin h0 fun z => np (bs _ z)
      exact ⟨wipeS ρ5 vs, acc, R6.wipe w4', e6, (g2.trans g25).weak fun b z => Fb_wipe b z, q5⟩
    | true =>
      rw [if_pos rfl] at q5
      show if true = true then _ else _
      rw [if_pos rfl]
      refine ⟨G.pin D (SetWO w D (acc.map Sum.inr)), loc, ρ5, R5, he _ _ _ (fun y ρ6 ⟨z, ey, hz, q6⟩ v H6 R6 g6 d6 => ?_) q5⟩
      have g26 : Grow (Fb (G.plus D).fb ρ2 loc) (Fb (G.plus D).fb ρ6 loc) H2 H6 := g25.trans g6
      obtain ⟨R7, e7⟩ := R6.unpin h0 fun z => np (bs _ z)
      obtain ⟨R8, g8⟩ := R7.wrP (o := SetWO w D ((insS z acc).map Sum.inr)) h0 np bs
      subst ey
      cases d6
      refine ⟨acc.map Sum.inr, (insS z acc).map Sum.inr, e7, ⟨.inr z, rfl, (ins_inr z acc).symm, by rw [List.length_map]; exact hz⟩, wipeS ρ6 vs, insS z acc, R8.wipe w4', upd_same, ((g2.trans g26).trans g8).weak fun b z => Fb_wipe b z, q6⟩
section
variable {X : Cx} {elt tg iter : Expr} {ifs : List Expr} {scope : Scope} {pos cpos p : Pos} {mi : M (List D)} {g : GMn} {tt : M Bool} {te : M D}
theorem nm_sortSc (own : List (Str × Nat)) (hm : X.mg "sorted" = none) (hc : X.calm = true) (hN : X.N.Nodup) (hi : IM X tg iter mi) (ok : blkC X.N X.env.scope scope own = true)
    (hg : ∀ (s : Shared) (H : Hp) (C : Addr) (cl : List (Str × Addr)) (fp : List Addr), GM (X.blk s H scope (compEnvC scope cl C X.env) fp) (own.map (·.2)) tg g)
    (ht : ∀ (s : Shared) (H : Hp) (C : Addr) (cl : List (Str × Addr)) (fp : List Addr), TsM (X.blk s H scope (compEnvC scope cl C X.env) fp) ifs tt)
    (he : ∀ (s : Shared) (H : Hp) (C : Addr) (cl : List (Str × Addr)) (fp : List Addr), EM (X.blk s H scope (compEnvC scope cl C X.env) fp) elt te) (hgl : Gl X "sorted" := by rfl) (hs : ∀ x, foldedSetIterable iter X.env x = pure x := by intro _; rfl)
    (h1 : starEach [.SetComp elt [⟨tg, iter, ifs, 0⟩] scope pos] X.env = [(false, eval (.SetComp elt [⟨tg, iter, ifs, 0⟩] scope pos) X.env)] := by rfl) (hpl : (backTo cpos (starEach [] X.env)).any (·.1) = false := by rfl) :
    NM X (.Call (.Name "sorted" p) [.SetComp elt [⟨tg, iter, ifs, 0⟩] scope pos] [] cpos) (mSs mi g tt te (own.map (·.2))) := by
  have z1 := (hg X.s_0 X.H_0 0 [] []).mono
  have z2 := (ht X.s_0 X.H_0 0 [] []).mono
  have z3 := (he X.s_0 X.H_0 0 [] []).mono
  refine ⟨mono_ss hi.mono z1 z2 z3, pe_weak (pe_callB (cr_sortedW hc) hgl hm (by decide +kernel) (pa_cons (pe_setW (wayW X.prog X.w) (wi := TIof X.K mi) (g := TGof X.K (own.map (·.2)) g) (tt := TTof X.K tt) (te := TEof X.K te) hc hN hi.run (blkOk_by ok) (fun s H C cl fp => (hg s H C cl fp).run) (fun s H C cl fp => (ht s H C cl fp).run) (fun s H C cl fp => (he s H C cl fp).run) hs) pa_nil h1) (by decide) (by decide) h1 hpl) fun σ H Q h => ss_meets hi.mono z1 z2 z3 h⟩
end
end DL

namespace DL
open PySem L2

/-! ### a op b op' c -/
def mChain (p p' : P2) (ma mb mc : M D) : M D := fun ρ k => ma ρ fun x ρ1 => mb ρ1 fun y ρ2 => p x y fun z => match z with
  | .bool true => mc ρ2 fun w ρ3 => p' y w fun r => k r ρ3
  | .bool false => k (.bool false) ρ2
  | _ => False
theorem mono_chain {p p' : P2} {ma mb mc : M D} (mp : ∀ a b, Pm1 (p a b)) (mp' : ∀ a b, Pm1 (p' a b)) (a : Mono ma) (b : Mono mb) (c : Mono mc) : Mono (mChain p p' ma mb mc) := fun ρ k k' w q => a ρ _ _ (fun x ρ1 q1 => b ρ1 _ _ (fun y ρ2 q2 => mp x y _ _ (fun z q3 => by
  cases z <;> first | exact (show False from q3).elim | skip
  rename_i t
  cases t with
  | true => exact c ρ2 _ _ (fun u ρ3 q4 => mp' y u _ _ (fun r q5 => w _ _ q5) q4) q3
  | false => exact w _ _ q3) q2) q1) q
section
variable {K : PySem.W.Frag}
theorem chain_vals {p p' : P2} {r r' : R2} {ma mb mc : M D} (hp : Prim2 K r p) (hp' : Prim2 K r' p') (mp : ∀ a b, Pm1 (p a b)) (mp' : ∀ a b, Pm1 (p' a b)) (a : Mono ma) (b : Mono mb) (c : Mono mc) {σ : L2.St} {H : Hp} {Q : VK}
    (h : TEof K (mChain p p' ma mb mc) σ H Q) : tChain r r' (TEof K ma) (TEof K mb) (TEof K mc) σ H Q := by
  obtain ⟨G, loc, ρ, R, q⟩ := h
  refine ⟨G, loc, ρ, R, a ρ _ _ (fun x ρ1 q1 v H1 R1 g1 d1 => ?_) q⟩
  refine ⟨G, loc, ρ1, R1, b ρ1 _ _ (fun y ρ2 q2 u H2 R2 g2 d2 => ?_) q1⟩
  refine hp (Fb G.fb ρ2 loc) H2 v u x y _ R2.fbE (d1.g g2) d2 (mp x y _ _ (fun z q3 w H3 m3 d3 => ?_) q2)
  have R3 := R2.more m3
  have g3 := (g1.trans g2).trans (more_grow m3)
  cases z <;> first | exact (show False from q3).elim | skip
  rename_i t
  cases d3
  refine ⟨t, rfl, ?_⟩
  cases t with
  | false =>
    rw [if_neg Bool.false_ne_true]
    exact q3 _ H3 R3 g3 (.bl _)
  | true =>
    rw [if_pos rfl]
    refine ⟨G, loc, ρ2, R3, c ρ2 _ _ (fun e ρ3 q4 w' H4 R4 g4 d4 => ?_) q3⟩
    exact hp' (Fb G.fb ρ3 loc) H4 u w' y e _ R4.fbE (d2.g ((more_grow m3).trans g4)) d4 (mp' y e _ _ (fun r q5 w2 H5 m5 d5 => q5 w2 H5 (R4.more m5) ((g3.trans g4).trans (more_grow m5)) d5) q4)
end
section
variable {X : Cx} {a b c : Expr} {ma mb mc : M D} {pos : Pos}
theorem em_chain {op op' : CmpOp} {r r' : R2} {p p' : P2} (ho : OpR X (compareOp op) r) (ho' : OpR X (compareOp op') r') (hp : Prim2 X.K r p) (hp' : Prim2 X.K r' p') (mp : ∀ a b, Pm1 (p a b)) (mp' : ∀ a b, Pm1 (p' a b)) (ha : EM X a ma) (hb : EM X b mb) (hc : EM X c mc)
    (hm : lastMarks [op, op'] [b, c] = false := by with_unfolding_all rfl) : EM X (.Compare a [op, op'] [b, c] pos) (mChain p p' ma mb mc) :=
  ⟨mono_chain mp mp' ha.mono hb.mono hc.mono, pe_weak (pe_chain ho ho' ha.run hb.run hc.run hm) fun _ _ _ h => chain_vals hp hp' mp mp' ha.mono hb.mono hc.mono h⟩
theorem tm_chain {op op' : CmpOp} {r r' : R2} {p p' : P2} (ho : OpR X (compareOp op) r) (ho' : OpR X (compareOp op') r') (hp : Prim2 X.K r p) (hp' : Prim2 X.K r' p') (mp : ∀ a b, Pm1 (p a b)) (mp' : ∀ a b, Pm1 (p' a b)) (ha : EM X a ma) (hb : EM X b mb) (hc : EM X c mc)
    (hm : lastMarks [op, op'] [b, c] = false := by with_unfolding_all rfl) : TM X (.Compare a [op, op'] [b, c] pos) (mTest (mChain p p' ma mb mc)) :=
  ⟨mono_test (mono_chain mp mp' ha.mono hb.mono hc.mono), pt_weak (pt_chain ho ho' ha.run hb.run hc.run hm) fun σ H Q h => chain_vals hp hp' mp mp' ha.mono hb.mono hc.mono (tt_te (mono_chain mp mp' ha.mono hb.mono hc.mono) h)⟩
theorem em_leLt (ha : EM X a ma) (hb : EM X b mb) (hc : EM X c mc) (hm : lastMarks [.LtE, .Lt] [b, c] = false := by with_unfolding_all rfl) : EM X (.Compare a [.LtE, .Lt] [b, c] pos) (mChain leD ltD ma mb mc) := em_chain op_leU op_ltU prim_le prim_lt pm_le pm_lt ha hb hc hm
theorem em_leLe (ha : EM X a ma) (hb : EM X b mb) (hc : EM X c mc) (hm : lastMarks [.LtE, .LtE] [b, c] = false := by with_unfolding_all rfl) : EM X (.Compare a [.LtE, .LtE] [b, c] pos) (mChain leD leD ma mb mc) := em_chain op_leU op_leU prim_le prim_le pm_le pm_le ha hb hc hm
theorem tm_leLt (ha : EM X a ma) (hb : EM X b mb) (hc : EM X c mc) (hm : lastMarks [.LtE, .Lt] [b, c] = false := by with_unfolding_all rfl) : TM X (.Compare a [.LtE, .Lt] [b, c] pos) (mTest (mChain leD ltD ma mb mc)) := tm_chain op_leU op_ltU prim_le prim_lt pm_le pm_lt ha hb hc hm
theorem tm_leLe (ha : EM X a ma) (hb : EM X b mb) (hc : EM X c mc) (hm : lastMarks [.LtE, .LtE] [b, c] = false := by with_unfolding_all rfl) : TM X (.Compare a [.LtE, .LtE] [b, c] pos) (mTest (mChain leD leD ma mb mc)) := tm_chain op_leU op_leU prim_le prim_le pm_le pm_le ha hb hc hm
end
end DL

namespace DL
open PySem L2

/-! ### [e for .. in .. for .. in ..] -/
theorem wipe_sub {σ : L2.St} {vs vs1 : List Nat} (h : ∀ i ∈ vs1, i ∈ vs) : L2.wipe (L2.wipe σ vs1) vs = L2.wipe σ vs := by
  refine List.ext_getElem? fun i => ?_
  by_cases hi : i ∈ vs
  · by_cases hl : i < σ.length
    · rw [wipe_in hi (by rw [wipe_length]; exact hl), wipe_in hi hl]
    · rw [List.getElem?_eq_none (by rw [wipe_length, wipe_length]; omega), List.getElem?_eq_none (by rw [wipe_length]; omega)]
  · rw [wipe_out hi, wipe_out hi, wipe_out fun z => hi (h i z)]
def lcLoop2 (g : GMn) (tt : M Bool) (mi1 : M (List D)) (g1 : GMn) (tt1 : M Bool) (te : M D) (vs vs1 : List Nat) (k : List D → List Slot → Prop) : List D → List D → List Slot → Prop
  | [], acc, ρ => k acc (wipeS ρ vs)
  | d :: ds, acc, ρ => g d ρ fun ρ1 => tt ρ1 fun b ρ2 => if b = true then mi1 ρ2 fun ds1 ρ3 => lcLoop g1 tt1 te vs1 (fun acc' ρ4 => lcLoop2 g tt mi1 g1 tt1 te vs vs1 k ds acc' (wipeS ρ4 vs)) ds1 acc (wipeS ρ3 vs1)
      else lcLoop2 g tt mi1 g1 tt1 te vs vs1 k ds acc (wipeS ρ2 vs)
def mLc2 (mi : M (List D)) (g : GMn) (tt : M Bool) (mi1 : M (List D)) (g1 : GMn) (tt1 : M Bool) (te : M D) (vs vs1 : List Nat) : M (List D) := fun ρ k => mi ρ fun ds ρ1 => lcLoop2 g tt mi1 g1 tt1 te vs vs1 k ds [] (wipeS ρ1 vs)
abbrev MonoG (g : GMn) : Prop := ∀ d ρ (k k' : List Slot → Prop), (∀ ρ', k ρ' → k' ρ') → g d ρ k → g d ρ k'
section
variable {mi mi1 : M (List D)} {g g1 : GMn} {tt tt1 : M Bool} {te : M D} {vs vs1 : List Nat}
theorem mono_lcLoop2 (hg : MonoG g) (ht : Mono tt) (hi1 : Mono mi1) (hg1 : MonoG g1) (ht1 : Mono tt1) (he : Mono te) {k k' : List D → List Slot → Prop} (w : ∀ a ρ, k a ρ → k' a ρ) :
    ∀ (ds acc : List D) (ρ : List Slot), lcLoop2 g tt mi1 g1 tt1 te vs vs1 k ds acc ρ → lcLoop2 g tt mi1 g1 tt1 te vs vs1 k' ds acc ρ
  | [], acc, ρ, q => w _ _ q
  | d :: ds, acc, ρ, q => hg d ρ _ _ (fun ρ1 q1 => ht ρ1 _ _ (fun b ρ2 q2 => by
    cases b with
    | true =>
      rw [if_pos rfl] at q2 ⊢
      exact hi1 ρ2 _ _ (fun ds1 ρ3 q3 => mono_lcLoop hg1 ht1 he (fun a ρ4 q4 => mono_lcLoop2 hg ht hi1 hg1 ht1 he w ds _ _ q4) ds1 _ _ q3) q2
    | false => rw [if_neg Bool.false_ne_true] at q2 ⊢; exact mono_lcLoop2 hg ht hi1 hg1 ht1 he w ds _ _ q2) q1) q
theorem mono_lc2 (hi : Mono mi) (hg : MonoG g) (ht : Mono tt) (hi1 : Mono mi1) (hg1 : MonoG g1) (ht1 : Mono tt1) (he : Mono te) : Mono (mLc2 mi g tt mi1 g1 tt1 te vs vs1) :=
  fun ρ k k' w q => hi ρ _ _ (fun ds ρ1 q1 => mono_lcLoop2 hg ht hi1 hg1 ht1 he w ds _ _ q1) q
theorem lc2_meets {K : PySem.W.Frag} (hi : Mono mi) (hg : MonoG g) (ht : Mono tt) (hi1 : Mono mi1) (hg1 : MonoG g1) (ht1 : Mono tt1) (he : Mono te) (sub : ∀ i ∈ vs1, i ∈ vs)
    {σ : L2.St} {H : Hp} {Q : VK} (h : TNof K (mLc2 mi g tt mi1 g1 tt1 te vs vs1) σ H Q) : tLc2 (TIof K mi) (TGof K vs g) (TTof K tt) (TIof K mi1) (TGof K vs1 g1) (TTof K tt1) (TEof K te) vs vs1 σ H Q := by
  obtain ⟨G, loc, ρ, R, q⟩ := h
  refine ⟨G, loc, ρ, R, hi ρ _ _ (fun ds ρ1 q1 J H1 R1 g1' gv D hD => ?_) q⟩
  obtain ⟨h0, np, RD, gD⟩ := new_any (o := .lst []) R1 hD
  have bs := R.bwS
  let KK : List DL.D → List Slot → Prop := fun ds ρ' => ∀ p vs H', G.H0 p = none → ¬ G.fb p → H' p = some (.lst vs) → Rep K (G.plus p) ρ' loc σ H' → Grow (Fb G.fb ρ loc) (Fb (G.plus p).fb ρ' loc) H H' → DxAll K H' (Fb (G.plus p).fb ρ' loc) vs ds → Q (.ref p) H'
  let Wp : List DL.D → Hp → Prop := fun l H2 => ∃ ρ2 acc ws, Rep K (G.plus D) ρ2 loc (L2.wipe σ vs) H2 ∧ H2 D = some (.lst ws) ∧ DxAll K H2 (Fb (G.plus D).fb ρ2 loc) ws acc ∧ Grow (Fb G.fb ρ1 loc) (Fb (G.plus D).fb ρ2 loc) H1 H2 ∧ lcLoop2 g tt mi1 g1 tt1 te vs vs1 KK l acc ρ2
  refine ⟨fun i m H2 => m = ds.length - i ∧ Wp (ds.drop i) H2, ⟨_, rfl, wipeS ρ1 vs, [], [], RD.wipe (wipe_wipe σ vs).symm, upd_same, .nil, gD.weak fun b z => Fb_wipe b z, by simpa using q1⟩, ?_⟩
  rintro i m H2 ⟨hm, ρ2, acc, ws, R2, e2, d2, g2, q2⟩
  obtain ⟨gv1, gv2⟩ := gv i _ H2 g2 R2.fbE
  cases hd : ds[i]? with
  | none =>
    have hl : ds.length ≤ i := List.getElem?_eq_none_iff.mp hd
    rw [List.drop_eq_nil_of_le hl] at q2
    have q3 : KK acc (wipeS ρ2 vs) := q2
    exact .inl ⟨gv2 hl, q3 D ws H2 h0 np e2 (R2.wipe (wipe_wipe σ vs)) ((g1'.trans g2).weak fun b z => Fb_wipe b z) (d2.weak fun b z => Fb_wipe b z)⟩
  | some d =>
    obtain ⟨hl, hd'⟩ := List.getElem?_eq_some_iff.mp hd
    have e : ds.drop i = d :: ds.drop (i + 1) := by rw [← hd']; exact List.drop_eq_getElem_cons hl
    rw [e] at q2
    obtain ⟨go, yl⟩ := gv1 d hd
    refine .inr ⟨go, fun H3 => Wp (ds.drop (i + 1)) H3, fun H3 z => ⟨_, by omega, rfl, z⟩, fun x H3 y3 => ?_⟩
    obtain ⟨m3, d3⟩ := yl x H3 y3
    have R3 := (R2.more m3).pin (m3 _ _ e2)
    refine ⟨G.pin D (.lst ws), loc, ρ2, d, R3, d3, hg _ _ _ _ (fun ρ4 q4 σ4 H4 R4 g4 w4 => ⟨w4.trans (wipe_wipe σ vs), ?_⟩) q2⟩
    refine ⟨G.pin D (.lst ws), loc, ρ4, R4, ht _ _ _ (fun b ρ5 q5 H5 R5 g5 => ?_) q4⟩
    have w4' : L2.wipe σ4 vs = L2.wipe σ vs := w4.trans (wipe_wipe σ vs)
    have g25 : Grow (Fb (G.plus D).fb ρ2 loc) (Fb (G.plus D).fb ρ5 loc) H2 H5 := (more_grow m3).trans (g4.trans g5)
    cases b with
    | false =>
      rw [if_neg Bool.false_ne_true] at q5
      show if false = true then _ else _
      rw [if_neg Bool.false_ne_true]
      obtain ⟨R6, e6⟩ := R5.unpin h0 fun z => np (bs _ z)
      exact ⟨wipeS ρ5 vs, acc, ws, R6.wipe (w4'.trans (wipe_wipe σ vs).symm), e6, (d2.g g25).weak fun b z => Fb_wipe b z, (g2.trans g25).weak fun b z => Fb_wipe b z, q5⟩
    | true =>
      rw [if_pos rfl] at q5
      show if true = true then _ else _
      rw [if_pos rfl]
      refine ⟨G.pin D (.lst ws), loc, ρ5, R5, hi1 _ _ _ (fun ds1 ρ6 q6 J1 H6 R6 g6 gw => ?_) q5⟩
      obtain ⟨R7, e7⟩ := R6.unpin h0 fun z => np (bs _ z)
      have g26 : Grow (Fb (G.plus D).fb ρ2 loc) (Fb (G.plus D).fb ρ6 loc) H2 H6 := g25.trans g6
      let Vp : List DL.D → Hp → Prop := fun l Ha => ∃ ρa acc ws, Rep K (G.plus D) ρa loc (L2.wipe σ4 vs1) Ha ∧ Ha D = some (.lst ws) ∧ DxAll K Ha (Fb (G.plus D).fb ρa loc) ws acc ∧ Grow (Fb (G.plus D).fb ρ6 loc) (Fb (G.plus D).fb ρa loc) H6 Ha ∧
        lcLoop g1 tt1 te vs1 (fun acc' ρ4 => lcLoop2 g tt mi1 g1 tt1 te vs vs1 KK (ds.drop (i + 1)) acc' (wipeS ρ4 vs)) l acc ρa
      refine ⟨fun j k Ha => k = ds1.length - j ∧ Vp (ds1.drop j) Ha, ⟨_, rfl, wipeS ρ6 vs1, acc, ws, R7.wipe (wipe_wipe σ4 vs1).symm, e7, (d2.g g26).weak fun b z => Fb_wipe b z, Grow.refl.weak fun b z => Fb_wipe b z, by simpa using q6⟩, ?_⟩
      rintro j k Ha ⟨hk, ρa, acc2, ws2, Ra, ea, da, ga, qa⟩
      obtain ⟨gw1, gw2⟩ := gw j _ Ha ga Ra.fbE
      have gall : Grow (Fb G.fb ρ1 loc) (Fb (G.plus D).fb ρa loc) H1 Ha := g2.trans (g26.trans ga)
      cases hd1 : ds1[j]? with
      | none =>
        have hl1 : ds1.length ≤ j := List.getElem?_eq_none_iff.mp hd1
        rw [List.drop_eq_nil_of_le hl1] at qa
        have qb : lcLoop2 g tt mi1 g1 tt1 te vs vs1 KK (ds.drop (i + 1)) acc2 (wipeS (wipeS ρa vs1) vs) := qa
        refine .inl ⟨gw2 hl1, wipeS (wipeS ρa vs1) vs, acc2, ws2, ?_, ea, (da.weak fun b z => Fb_wipe b z).weak fun b z => Fb_wipe b z, (gall.weak fun b z => Fb_wipe b z).weak fun b z => Fb_wipe b z, qb⟩
        exact (Ra.wipe (σ := L2.wipe σ4 vs1) (vs := vs1) rfl).wipe (by rw [wipe_sub sub, w4', wipe_wipe])
      | some d1 =>
        obtain ⟨hl1, hd1'⟩ := List.getElem?_eq_some_iff.mp hd1
        have e1 : ds1.drop j = d1 :: ds1.drop (j + 1) := by rw [← hd1']; exact List.drop_eq_getElem_cons hl1
        rw [e1] at qa
        obtain ⟨go1, yl1⟩ := gw1 d1 hd1
        refine .inr ⟨go1, fun Hb => Vp (ds1.drop (j + 1)) Hb, fun Hb z => ⟨_, by omega, rfl, z⟩, fun x1 Hb y1 => ?_⟩
        obtain ⟨mb, db⟩ := yl1 x1 Hb y1
        have Rb := (Ra.more mb).pin (mb _ _ ea)
        refine ⟨G.pin D (.lst ws2), loc, ρa, d1, Rb, db, hg1 _ _ _ _ (fun ρc qc σc Hc Rc gc wc => ⟨wc.trans (wipe_wipe σ4 vs1), ?_⟩) qa⟩
        refine ⟨G.pin D (.lst ws2), loc, ρc, Rc, ht1 _ _ _ (fun b1 ρd qd Hd Rd gd => ?_) qc⟩
        have gad : Grow (Fb (G.plus D).fb ρa loc) (Fb (G.plus D).fb ρd loc) Ha Hd := (more_grow mb).trans (gc.trans gd)
        cases b1 with
        | false =>
          rw [if_neg Bool.false_ne_true] at qd
          show if false = true then _ else _
          rw [if_neg Bool.false_ne_true]
          obtain ⟨Re, ee⟩ := Rd.unpin h0 fun z => np (bs _ z)
          exact ⟨wipeS ρd vs1, acc2, ws2, Re.wipe wc, ee, (da.g gad).weak fun b z => Fb_wipe b z, (ga.trans gad).weak fun b z => Fb_wipe b z, qd⟩
        | true =>
          rw [if_pos rfl] at qd
          show if true = true then _ else _
          rw [if_pos rfl]
          refine ⟨G.pin D (.lst ws2), loc, ρd, Rd, he _ _ _ (fun y ρe qe v He Re ge de => ?_) qd⟩
          have gae : Grow (Fb (G.plus D).fb ρa loc) (Fb (G.plus D).fb ρe loc) Ha He := gad.trans ge
          obtain ⟨Rf, ef⟩ := Re.unpin h0 fun z => np (bs _ z)
          obtain ⟨Rg, gg⟩ := Rf.wrP (o := .lst (ws2 ++ [v])) h0 np bs
          refine ⟨ws2, ef, by rw [da.length]; exact qe.1, wipeS ρe vs1, acc2 ++ [y], ws2 ++ [v], Rg.wipe wc, upd_same, ?_, ((ga.trans gae).trans gg).weak fun b z => Fb_wipe b z, qe.2⟩
          exact (((da.g gae).append (.cons de .nil)).g gg).weak fun b z => Fb_wipe b z
end
section
variable {X : Cx} {elt tg iter tg1 iter1 : Expr} {ifs ifs1 : List Expr} {scope : Scope} {pos : Pos} {mi mi1 : M (List D)} {g g1 : GMn} {tt tt1 : M Bool} {te : M D} {vs1 : List Nat}
theorem nm_lc2 (own : List (Str × Nat)) (sub : ∀ i ∈ vs1, i ∈ own.map (·.2)) (hc : X.calm = true) (hN : X.N.Nodup) (hi : IM X tg iter mi) (ok : blkC X.N X.env.scope scope own = true)
    (hg : ∀ (s : Shared) (H : Hp) (C : Addr) (cl : List (Str × Addr)) (fp : List Addr), GM (X.blk s H scope (compEnvC scope cl C X.env) fp) (own.map (·.2)) tg g)
    (ht : ∀ (s : Shared) (H : Hp) (C : Addr) (cl : List (Str × Addr)) (fp : List Addr), TsM (X.blk s H scope (compEnvC scope cl C X.env) fp) ifs tt)
    (hi1 : ∀ (s : Shared) (H : Hp) (C : Addr) (cl : List (Str × Addr)) (fp : List Addr), IM (X.blk s H scope (compEnvC scope cl C X.env) fp) tg1 iter1 mi1)
    (hg1 : ∀ (s : Shared) (H : Hp) (C : Addr) (cl : List (Str × Addr)) (fp : List Addr), GM (X.blk s H scope (compEnvC scope cl C X.env) fp) vs1 tg1 g1)
    (ht1 : ∀ (s : Shared) (H : Hp) (C : Addr) (cl : List (Str × Addr)) (fp : List Addr), TsM (X.blk s H scope (compEnvC scope cl C X.env) fp) ifs1 tt1)
    (he : ∀ (s : Shared) (H : Hp) (C : Addr) (cl : List (Str × Addr)) (fp : List Addr), EM (X.blk s H scope (compEnvC scope cl C X.env) fp) elt te) (hs : ∀ x, foldedSetIterable iter X.env x = pure x := by intro _; rfl) (hs1 : ∀ env x, foldedSetIterable iter1 env x = pure x := by intro _ _; rfl) :
    NM X (.ListComp elt [⟨tg, iter, ifs, 0⟩, ⟨tg1, iter1, ifs1, 0⟩] scope pos) (mLc2 mi g tt mi1 g1 tt1 te (own.map (·.2)) vs1) := by
  have z1 := (hg X.s_0 X.H_0 0 [] []).mono
  have z2 := (ht X.s_0 X.H_0 0 [] []).mono
  have z3 := (hi1 X.s_0 X.H_0 0 [] []).mono
  have z4 := (hg1 X.s_0 X.H_0 0 [] []).mono
  have z5 := (ht1 X.s_0 X.H_0 0 [] []).mono
  have z6 := (he X.s_0 X.H_0 0 [] []).mono
  exact ⟨mono_lc2 hi.mono z1 z2 z3 z4 z5 z6, pe_weak (pe_lc2 (wi := TIof X.K mi) (g := TGof X.K (own.map (·.2)) g) (tt := TTof X.K tt) (wi1 := TIof X.K mi1) (g1 := TGof X.K vs1 g1) (tt1 := TTof X.K tt1) (te := TEof X.K te) hc hN hi.run (blkOk_by ok) sub
    (fun s H C cl fp => (hg s H C cl fp).run) (fun s H C cl fp => (ht s H C cl fp).run) (fun s H C cl fp => (hi1 s H C cl fp).run) (fun s H C cl fp => (hg1 s H C cl fp).run) (fun s H C cl fp => (ht1 s H C cl fp).run) (fun s H C cl fp => (he s H C cl fp).run) hs hs1) fun σ H Q h => lc2_meets hi.mono z1 z2 z3 z4 z5 z6 sub h⟩
end
end DL

namespace DL
open PySem PySem.Spec PyProof.Rows L2

/-! ### defs as values -/
section
variable {X : Cx} {x : Str} {p pos : Pos}
/-- a def's name as a value -/
theorem em_glF {y : Str} {f : Addr} (hm : X.mg x = some (.ref f)) (ha : FnAt X.K y f) (hg : Gl X x := by rfl) (hd : (x == ("__debug__" : Str)) = false := by decide) : EM X (.Name x p) (mPure (.dict (fnD y))) :=
  em_gl (v := .ref f) hm rfl (fun _ _ => .fnr y rfl ha) hg hd
end
def txLook {α : Type} : List (Str × α) → Str → Option α
  | [], _ => none
  | (x, a) :: r, z => if x = z then some a else txLook r z
/-- the entries of a dict from texts to defs -/
def TabEs (K : PySem.W.Frag) : List DictEntry → List (Str × Str) → Prop
  | [], [] => True
  | e :: es, (x, y) :: r => (∃ t, e.key = .str x t) ∧ (∃ f, e.val = .ref f ∧ FnAt K y f) ∧ TabEs K es r
  | _, _ => False
/-- a dict of the module from texts to defs -/
def TabF (K : PySem.W.Frag) (w : World) (a : Addr) (tbl : List (Str × Str)) : Prop :=
  (a == sysModules) = false ∧ ∃ es n, K.lookup a = some ⟨.type "dict", none, .dict es n, #[]⟩ ∧ PySem.W.KeysLit w.params es.toList ∧ TabEs K es.toList tbl
theorem tabEs_find {K : PySem.W.Frag} (z : Str) : ∀ {es : List DictEntry} {tbl : List (Str × Str)}, TabEs K es tbl →
    (match txLook tbl z with | some y => ∃ f, (es.find? fun e => Value.isStrOf z e.key).map (·.val) = some (.ref f) ∧ FnAt K y f | none => (es.find? fun e => Value.isStrOf z e.key).map (·.val) = none)
  | [], [], _ => rfl
  | e :: es, (x, y) :: r, ⟨⟨t, h1⟩, ⟨f, h2, h3⟩, h4⟩ => by
    unfold txLook
    by_cases hz : x = z
    · subst hz
      rw [if_pos rfl]
      refine ⟨f, ?_, h3⟩
      have e1 : Value.isStrOf x e.key = true := by rw [h1]; exact keyIs_str x t
      rw [List.find?_cons_of_pos (by simpa using e1)]
      simp [h2]
    · rw [if_neg hz]
      have e1 : Value.isStrOf z e.key = false := by
        cases q : Value.isStrOf z e.key with
        | false => rfl
        | true =>
          obtain ⟨u, hu⟩ := Value.isStrOf_shape q
          rw [h1] at hu
          exact absurd (Value.str.inj hu).1 hz
      rw [List.find?_cons_of_neg (by simp [e1])]
      exact tabEs_find z h4
def rFix (K : PySem.W.Frag) (w : World) (tbl : List (Str × Str)) : R2 := fun x y H Q => ∃ a z y', x = .ref a ∧ y = .str z ∧ TabF K w a tbl ∧ txLook tbl z = some y' ∧ ∀ f, FnAt K y' f → Q (.ref f) H
def rNinF (K : PySem.W.Frag) (w : World) (tbl : List (Str × Str)) : R2 := fun x y H Q => ∃ a z, x = .str z ∧ y = .ref a ∧ TabF K w a tbl ∧ Q (.bl (!(txLook tbl z).isSome)) H
section
variable {X : Cx} {tbl : List (Str × Str)}
theorem ix_fix : IxR X (rFix X.K X.w tbl) := by
  intro value slice pins s σ H x y v u Q I rx ry h hs
  obtain ⟨p, z, y', rfl, rfl, ⟨_, es, n, hl, hk, ht⟩, e, q⟩ := h
  obtain rfl : v = Value.ref p := rx
  obtain ⟨t, rfl⟩ := ry
  have hm := PySem.W.mapOf_K (prog := X.prog) (w := X.w) I.kIn hl hk
  have hf := tabEs_find z ht
  rw [e] at hf
  obtain ⟨f, h1, h2⟩ := hf
  have h3 : findBy Value.isStrOf es z = some (.ref f) := by
    obtain ⟨l⟩ := es
    unfold findBy
    rw [List.find?_toArray]
    exact h1
  exact tail_any hm.typeIs slot_dict_getitem.lookup (wpAny_getItem_of (strKind_is X.prog X.w z t) hm h3 ⟨.ref f, H, I.tok _, rfl, q f h2⟩) hs
theorem op_ninF : OpR X (compareOp .NotIn) (rNinF X.K X.w tbl) := by
  intro pins s σ H x y v u Q I rx ry h
  obtain ⟨p, z, rfl, rfl, ⟨hsm, es, n, hl, hk, ht⟩, q⟩ := h
  obtain rfl : u = Value.ref p := ry
  obtain ⟨t, rfl⟩ := rx
  have hm := PySem.W.mapOf_K (prog := X.prog) (w := X.w) I.kIn hl hk
  have h3 : (findBy Value.isStrOf es z).isSome = (txLook tbl z).isSome := by
    have hf := tabEs_find z ht
    obtain ⟨l⟩ := es
    unfold findBy
    rw [List.find?_toArray]
    cases e : txLook tbl z with
    | none => rw [e] at hf; rw [show (l.find? fun e => Value.isStrOf z e.key).map (·.val) = none from hf]; rfl
    | some y => rw [e] at hf; obtain ⟨f, h1, _⟩ := hf; rw [show (l.find? fun e => Value.isStrOf z e.key).map (·.val) = some (.ref f) from h1]; rfl
  refine wpAny_notIn_of (strKind_is X.prog X.w z t) hsm hm ?_
  rw [h3]
  exact ⟨.bl _, H, I.tok _, rfl, q⟩
end
def mFix (tbl : List (Str × Str)) (m : M D) : M D := fun ρ k => m ρ fun d ρ1 => match d with
  | .str x => ∃ y, txLook tbl x = some y ∧ k (.dict (fnD y)) ρ1
  | _ => False
def mNinF (tbl : List (Str × Str)) (m : M D) : M D := fun ρ k => m ρ fun d ρ1 => match d with
  | .str x => k (.bool (!(txLook tbl x).isSome)) ρ1
  | _ => False
section
variable {X : Cx} {x : Str} {p pos : Pos} {i : Expr} {m : M D} {a : Addr} {tbl : List (Str × Str)}
theorem em_fix (ht : TabF X.K X.w a tbl) (hm : X.mg x = some (.ref a)) (hi : EM X i m) (hs : PlainIx i) (hg : Gl X x := by rfl) (hd : (x == ("__debug__" : Str)) = false := by decide) : EM X (.Subscript (.Name x p) i pos) (mFix tbl m) := by
  refine ⟨fun ρ k k' w q => hi.mono ρ _ _ (fun d ρ1 q1 => by
    cases d <;> first | exact (show False from q1).elim | skip
    exact ⟨q1.choose, q1.choose_spec.1, w _ _ q1.choose_spec.2⟩) q, pe_weak (pe_ix (ix_fix (tbl := tbl)) (pe_glob (v := .ref a) hg hm rfl hd) hi.run hs) ?_⟩
  rintro σ H Q ⟨G, loc, ρ, R, q⟩
  refine ⟨G, loc, ρ, R, hi.mono ρ _ _ (fun d ρ1 q1 v H1 R1 g1 d1 => ?_) q⟩
  cases d <;> first | exact (show False from q1).elim | skip
  cases d1
  obtain ⟨y, e, q2⟩ := q1
  exact ⟨a, _, y, rfl, rfl, ht, e, fun f hf => q2 _ H1 R1 g1 (.fnr y rfl hf)⟩
theorem em_ninF (ht : TabF X.K X.w a tbl) (hm : X.mg x = some (.ref a)) (hi : EM X i m) (hb : behindInMarks .NotIn (.Name x p) = false := by rfl) (hg : Gl X x := by rfl) (hd : (x == ("__debug__" : Str)) = false := by decide) : EM X (.Compare i [.NotIn] [.Name x p] pos) (mNinF tbl m) := by
  refine ⟨fun ρ k k' w q => hi.mono ρ _ _ (fun d ρ1 q1 => by
    cases d <;> first | exact (show False from q1).elim | skip
    exact w _ _ q1) q, pe_weak (pe_cmpR (op_ninF (tbl := tbl)) hi.run (pe_glob (v := .ref a) hg hm rfl hd) hb) ?_⟩
  rintro σ H Q ⟨G, loc, ρ, R, q⟩
  refine ⟨G, loc, ρ, R, hi.mono ρ _ _ (fun d ρ1 q1 v H1 R1 g1 d1 => ?_) q⟩
  cases d <;> first | exact (show False from q1).elim | skip
  cases d1
  exact ⟨a, _, rfl, rfl, ht, q1 _ H1 R1 g1 (.bl _)⟩
end
section
variable {X : Cx} {x : Str} {p pos : Pos} {i : Expr} {m : M D} {a : Addr} {tbl : List (Str × Str)}
theorem tm_ninF (ht : TabF X.K X.w a tbl) (hm : X.mg x = some (.ref a)) (hi : EM X i m) (hb : behindInMarks .NotIn (.Name x p) = false := by rfl) (hg : Gl X x := by rfl) (hd : (x == ("__debug__" : Str)) = false := by decide) : TM X (.Compare i [.NotIn] [.Name x p] pos) (mTest (mNinF tbl m)) := by
  have mm : Mono (mNinF tbl m) := fun ρ k k' w q => hi.mono ρ _ _ (fun d ρ1 q1 => by
    cases d <;> first | exact (show False from q1).elim | skip
    exact w _ _ q1) q
  refine ⟨mono_test mm, pt_weak (pt_cmpR (op_ninF (tbl := tbl)) hi.run (pe_glob (v := .ref a) hg hm rfl hd) hb) fun σ H Q h => ?_⟩
  obtain ⟨G, loc, ρ, R, q⟩ := tt_te mm h
  refine ⟨G, loc, ρ, R, hi.mono ρ _ _ (fun d ρ1 q1 v H1 R1 g1 d1 => ?_) q⟩
  cases d <;> first | exact (show False from q1).elim | skip
  cases d1
  exact ⟨a, _, rfl, rfl, ht, q1 _ H1 R1 g1 (.bl _)⟩
end
/-- a call of a local name that holds one of the defs tab -/
def mFnV (i : Nat) (tab : List (Str × Nat × FS)) (m : M (List D)) : M D := fun ρ k => ∃ y n F, ρ[i]? = some (.dat (.dict (fnD y))) ∧ txLook tab y = some (n, F) ∧ m ρ fun ds ρ1 => ds.length = n ∧ F ds fun _ d => k d ρ1
structure HeldAll (P : Program) (w : World) (K : PySem.W.Frag) (mg : Str → Option Value) (base : Heap) (k : Nat) (tab : List (Str × Nat × FS)) : Prop where
  ok : ∀ y n F, txLook tab y = some (n, F) → PmS F ∧ ∀ f, FnAt K y f → HeldG P w K mg base k f (sp0 K n F)
section
variable {P : Program} {w : World} {K : PySem.W.Frag} {mg : Str → Option Value} {base : Heap} {k j n : Nat} {f : Addr} {fd : FuncData} {ps : List Str} {F : FS} {y : Str} {tab : List (Str × Nat × FS)}
theorem heldAll_nil : HeldAll P w K mg base k [] := ⟨fun _ _ _ h => nomatch h⟩
theorem heldAll_cons (ok : OkS P w K mg base j f fd ps n F) (hj : j ≤ k) (e : FnAt K y f) (hk : PySem.W.keepIn K (.ref f) = true) (hb : Binds K fd ps []) (r : HeldAll P w K mg base k tab) : HeldAll P w K mg base k ((y, n, F) :: tab) := by
  refine ⟨fun z m F' h => ?_⟩
  unfold txLook at h
  by_cases hz : y = z
  · rw [if_pos hz] at h
    cases h
    subst hz
    refine ⟨ok.pm, fun f' h' => ?_⟩
    have e2 := e.symm.trans h'
    cases e2
    exact ⟨fd, ps, ok.ok.mono hj, hk, hb⟩
  · rw [if_neg hz] at h
    exact r.ok z m F' h
end
section
variable {X : Cx} {k i : Nat} {x : Str} {p pos : Pos} {e : Expr} {es : List Expr} {m : M (List D)} {tab : List (Str × Nat × FS)}
theorem em_fnV (hh : HeldAll X.prog X.w X.K X.mg X.base k tab) (hr : Rm k X.A) (hN : X.N[i]? = some x) (hv : Vis X.env.scope x) (ha : AM X (e :: es) m)
    (hdb : (x == ("__debug__" : Str)) = false := by decide) (hcd : (x == ("__classdict__" : Str)) = false := by decide)
    (he : starEach (e :: es) X.env = (false, eval e X.env) :: starEach es X.env := by rfl) (hpl : (backTo pos (starEach es X.env)).any (·.1) = false := by rfl) : EM X (.Call (.Name x p) (e :: es) [] pos) (mFnV i tab m) := by
  refine ⟨fun ρ k k' w ⟨y, n, F, h1, h2, q⟩ => ⟨y, n, F, h1, h2, ha.mono ρ _ _ (fun ds ρ1 q1 => ⟨q1.1, (hh.ok y n F h2).1 ds _ _ (fun b d q2 => w _ _ q2) q1.2⟩) q⟩, ⟨fun pins s σ H Q I h => ?_⟩⟩
  obtain ⟨G, loc, ρ, R, y, n, F, hs, hl, q⟩ := h
  obtain ⟨v, h1, h2⟩ := R.dat i _ hs
  obtain ⟨f, rfl, hf⟩ := h2.fnA
  obtain ⟨mF, held⟩ := hh.ok y n F hl
  obtain ⟨fd, ps, FO, hk, hb⟩ := (held f hf).ex
  refine (pe_callLG (i := i) (f := f) (sp := sp0 X.K n F) (dvs := []) (E := fun _ _ _ => False) FO hr hN hv hk hb .nil (fun _ _ _ _ _ _ _ z => z.elim) ha.run hdb hcd he hpl).run pins s σ H Q I ⟨h1, ?_⟩
  refine ⟨G, loc, ρ, R, ha.mono ρ _ _ (fun ds ρ1 q1 vs H1 R1 g1 d1 => ?_) q⟩
  exact ⟨Fb G.fb ρ1 loc, ds, R1.fbE, by rw [List.append_nil]; exact d1, q1.1, mF ds _ _ (fun b d q2 v H2 m2 d2 _ => q2 v H2 (R1.more m2) (g1.trans (more_grow m2)) d2) q1.2⟩
end
end DL

namespace DL
open PySem L2

/-! ### i += n; four names at once -/
def addWD : P2
  | .int i, .int j, k => k (.int (i + j))
  | _, _, _ => False
theorem pm_addW (a b : D) : Pm1 (addWD a b) := fun k k' w q => by
  unfold addWD at q ⊢
  split at q
  · exact w _ q
  · exact q.elim
theorem prim_addW {K : PySem.W.Frag} : Prim2 K (ipI fun i j => i + j) addWD := by
  intro F H x y a b Q hF hx hy h
  unfold addWD at h
  split at h
  · cases hx; cases hy
    exact ⟨_, _, rfl, rfl, Kd.now (d := .int _) h (.int _)⟩
  · exact h.elim
theorem four_of {vs : List V} (h : vs.length = 4) : ∃ a b c d, vs = [a, b, c, d] := by
  match vs, h with
  | [a, b, c, d], _ => exact ⟨a, b, c, d, rfl⟩
theorem putAll4 {i j l o : Nat} (hij : i ≠ j) (hil : i ≠ l) (hio : i ≠ o) (hjl : j ≠ l) (hjo : j ≠ o) (hlo : l ≠ o) {v w u t : V} {σ : L2.St} : (((σ.set i (some v)).set j (some w)).set l (some u)).set o (some t) = putAll [i, j, l, o] [v, w, u, t] σ := by
  show _ = ((((σ.set o (some t)).set l (some u)).set j (some w)).set i (some v))
  rw [List.set_comm _ _ hij, List.set_comm _ _ hil, List.set_comm _ _ hio, List.set_comm _ _ hjl, List.set_comm _ _ hjo, List.set_comm _ _ hlo]
section
variable {X : Cx} {ms : M (List Put)} {pos : Pos}
theorem sm_parT4 {i j l o : Nat} {x y z u : Str} {a b c d : Expr} {px py pz pu pt : Pos} {kt k2 : Nat} {p2 : Pos} (hc : X.calm = true) (hN : X.N.Nodup) (hi : X.N[i]? = some x) (hj : X.N[j]? = some y) (hl : X.N[l]? = some z) (ho : X.N[o]? = some u)
    (hij : i ≠ j) (hil : i ≠ l) (hio : i ≠ o) (hjl : j ≠ l) (hjo : j ≠ o) (hlo : l ≠ o) (hx : Loc X.env.scope x) (hy : Loc X.env.scope y) (hz : Loc X.env.scope z) (hu : Loc X.env.scope u) (ha : APM X [a, b, c, d] ms)
    (hfx : X.fn x = true ∨ X.env.scope.names.lookup x = some .local := by first | exact .inl rfl | exact .inr rfl) (hfy : X.fn y = true ∨ X.env.scope.names.lookup y = some .local := by first | exact .inl rfl | exact .inr rfl) (hfz : X.fn z = true ∨ X.env.scope.names.lookup z = some .local := by first | exact .inl rfl | exact .inr rfl) (hfu : X.fn u = true ∨ X.env.scope.names.lookup u = some .local := by first | exact .inl rfl | exact .inr rfl)
    (hs : swapsWithSole [.Tuple [.Name x px, .Name y py, .Name z pz, .Name u pu] kt pt] (.Tuple [a, b, c, d] k2 p2) pos.line X.env = pure false := by rfl) (hw : swappedStores [.Tuple [.Name x px, .Name y py, .Name z pz, .Name u pu] kt pt] (.Tuple [a, b, c, d] k2 p2) X.env = pure none := by rfl) :
    SM X (.Assign [.Tuple [.Name x px, .Name y py, .Name z pz, .Name u pu] kt pt] (.Tuple [a, b, c, d] k2 p2) pos) (sPar [i, j, l, o] ms) := by
  refine sm_parT_of ha (pg_tup (n := 4) hc (pgs_cons (pg_name (i := i) hN hi hx hfx) (pgs_cons (pg_name (i := j) hN hj hy hfy) (pgs_cons (pg_name (i := l) hN hl hz hfz) (pgs_cons (pg_name (i := o) hN ho hu hfu) pgs_nil))))) hs hw rfl (by show 4 ≤ sizeLine; decide) fun q vs σ H Q e l' h => ?_
  obtain ⟨v, w, u', t, rfl⟩ := four_of l'
  exact ⟨q, _, rfl, .inl (.inl e), rfl, v, [w, u', t], rfl, w, [u', t], rfl, u', [t], rfl, t, [], rfl, rfl, by rw [putAll4 hij hil hio hjl hjo hlo]; exact h⟩
end
end DL

namespace DL
open PySem L2
/-! ### for x in a name that holds a list or a tuple -/
def mItU (i : Nat) : M (List D) := fun ρ k => match ρ[i]? with
  | some (.dat (.tuple _)) => mItT (mVar i) ρ k
  | _ => mItL (mVar i) ρ k
theorem im_U {X : Cx} {tg e : Expr} {i : Nat} (hL : IM X tg e (mItL (mVar i))) (hT : IM X tg e (mItT (mVar i))) : IM X tg e (mItU i) := by
  refine ⟨fun ρ k k' w q => ?_, ⟨fun pins s σ H Q I h => ?_⟩⟩
  · unfold mItU at q ⊢
    split at q
    · exact hT.mono ρ k k' w q
    · exact hL.mono ρ k k' w q
  · obtain ⟨G, loc, ρ, R, q⟩ := h
    unfold mItU at q
    split at q
    · exact hT.run.run pins s σ H Q I ⟨G, loc, ρ, R, q⟩
    · exact hL.run.run pins s σ H Q I ⟨G, loc, ρ, R, q⟩
end DL

/-! The law's call, by a promise narrowed to where nothing is being shown. -/
namespace DL
open PySem PySem.Spec PyProof.Rows L2
section
variable {P : Program} {w : World} {K : PySem.W.Frag} {mg mb : Str → Option Value} {CX : CXT} {k : Nat} {fa a : Addr} {fd : FuncData} {x : Str} {sp : Sp} {s : Shared} {vs : List Value} {ns : List Int}
/-- .. from a heap H that tracks the script at most -/
theorem law_coreG (inK : K.In s.heap) (hns : s.heap.Ns mainGlobals mg) (hb : s.heap.Ns builtinsNs mb) (hbb : ∀ x : Str, x ≠ "__name__" → mb x = bootBuiltins x) (lim : s.heap.NoLimit) (hg : s.gens = #[])
    (ha : s.heap.get? a = some { cls := .type "list", data := .seq vs.toArray }) (room : Rm k callerA)
    (F : ∀ base : Heap, K.In base → base.Ns mainGlobals mg → FnG P w K mg base CX k fa fd [x] sp) (bt : ∀ (s : Shared) (u : Value), BindsTo s fd ⟨[u], []⟩ [(x, u)])
    (hsp : ∀ H : Hp, Only H → SqL K H a (ns.map V.int) → sp [.ref a] H (fun v _ => v = .bl true) fun _ _ _ => False) (noX : ∀ H e s', CX [] H s (fun _ _ _ => False) e s' → False)
    (H : Hp) (only : Only H) (hS : SqL K H a (ns.map V.int)) (ok : HOk P w H s.heap) (one : ∀ b, H b ≠ none → b = a) (notK : H a ≠ none → K.lookup a = none) :
    codeAny (model P w) callerA (.call (.ref fa) ⟨[.ref a], []⟩) (fun r s' => r = .ok (.ret (.bool true)) ∧ OldK s.heap s'.heap ∧ s'.os = s.os ∧ AllBare s'.gens) s := by
  have hid : ∀ {b : Addr} {o : Obj}, s.heap.get? b = some o → H b = none → (hidT s.heap H).get? b = some o := fun e n => hidT_get e n
  have free : ∀ {b : Addr} {o : Obj} {es : Array DictEntry} {n : Nat}, s.heap.get? b = some o → o.data = .dict es n → H b = none := by
    intro b o es n e d
    cases q : H b with
    | none => rfl
    | some u =>
      obtain rfl : b = a := one b (by rw [q]; exact fun z => nomatch z)
      rw [ha] at e
      cases e
      cases (show Data.seq vs.toArray _ = Data.dict es n from d)
  have ns' : ∀ {b : Addr} {m : Str → Option Value}, s.heap.Ns b m → (hidT s.heap H).Ns b m := by
    rintro b m ⟨o, es, n, e, d, r⟩
    exact ⟨o, es, n, hid e (free e d), d, r⟩
  have inB : K.In (hidT s.heap H) := by
    intro b o e
    refine hid (inK b o e) ?_
    cases q : H b with
    | none => rfl
    | some u =>
      obtain rfl : b = a := one b (by rw [q]; exact fun z => nomatch z)
      rw [notK (by rw [q]; exact fun z => nomatch z)] at e
      cases e
  have md : Mod K mg (hidT s.heap H) := by
    obtain ⟨mc, h1, h2⟩ := lim
    exact ⟨inB, ns' hns, ⟨mb, ns' hb, hbb⟩, ⟨mc, ns' h1, h2⟩⟩
  have env : Env0 P w K mg (hidT s.heap H) callerA [] s H :=
    ⟨rfl, md, fun b o e => of_hidT e, Nat.le_of_eq (hidT_size _ _), trivial, fun b z => (nomatch (show b ∈ ([] : List Addr) from z)), ok, .of_eq hg⟩
  refine codeAny_mono ((F _ inB (ns' hns)).run callerA [] s H ⟨[.ref a], []⟩ [.ref a] [.ref a] _ _ room env (bt s (.ref a)) (.cons rfl .nil) (hsp H only hS)) ?_
  intro out s' got
  cases out with
  | error e => exact (noX H e s' got).elim
  | ok fl =>
    cases fl with
    | next => exact got.elim
    | brk => exact got.elim
    | cont => exact got.elim
    | ret u =>
      obtain ⟨v, H', os, bare, un, ok', rel, ev⟩ := got
      obtain rfl : v = .bl true := ev
      obtain rfl : u = Value.bool true := rel
      refine ⟨rfl, OldK.of_keep ?_, os, bare⟩
      intro b o e
      cases q : H b with
      | none => exact un.keep b o e q (fun z => nomatch (show b ∈ ([] : List Addr) from z)) (by simp)
      | some u =>
        rcases only b with z | ⟨ob, xs, z⟩
        · rw [q] at z
          cases z
        · obtain ⟨e1, _⟩ := ok b _ z
          obtain ⟨e2, _⟩ := ok' b _ (un.frzs b ob _ z)
          rw [e] at e1
          cases e1
          exact e2
theorem law_callG (inK : K.In s.heap) (hns : s.heap.Ns mainGlobals mg) (hb : s.heap.Ns builtinsNs mb) (hbb : ∀ x : Str, x ≠ "__name__" → mb x = bootBuiltins x) (lim : s.heap.NoLimit) (hg : s.gens = #[])
    (ha : s.heap.get? a = some { cls := .type "list", data := .seq vs.toArray }) (hi : IntsAre vs ns) (hl : ns.length ≤ sizeLine) (room : Rm k callerA)
    (F : ∀ base : Heap, K.In base → base.Ns mainGlobals mg → FnG P w K mg base CX k fa fd [x] sp) (bt : ∀ (s : Shared) (u : Value), BindsTo s fd ⟨[u], []⟩ [(x, u)])
    (hsp : ∀ H : Hp, Only H → SqL K H a (ns.map V.int) → sp [.ref a] H (fun v _ => v = .bl true) fun _ _ _ => False) (noX : ∀ H e s', CX [] H s (fun _ _ _ => False) e s' → False) :
    codeAny (model P w) callerA (.call (.ref fa) ⟨[.ref a], []⟩) (fun r s' => r = .ok (.ret (.bool true)) ∧ OldK s.heap s'.heap ∧ s'.os = s.os ∧ AllBare s'.gens) s := by
  have rel := vals_ints hi
  have many := hi.length
  have core := law_coreG inK hns hb hbb lim hg ha room F bt hsp noX
  cases q : K.lookup a with
  | some o =>
    have e := inK a o q
    rw [ha] at e
    cases e
    refine core (fun _ => none) (fun _ => Or.inl rfl) (Or.inr ⟨_, vs.toArray, _, q, rfl, rfl, rfl, ?_, by simpa using rel⟩) ?_ (fun b z => (z rfl).elim) (fun z => (z rfl).elim)
    · rw [List.size_toArray, many]
      exact hl
    · intro b u z
      cases (show (none : Option HO) = some u from z)
  | none =>
    have self : ∀ b : Addr, b = a → (if b = a then some (HO.frz { cls := .type "list", data := .seq vs.toArray } (.lst (ns.map V.int))) else none) = some (HO.frz { cls := .type "list", data := .seq vs.toArray } (.lst (ns.map V.int))) := fun b e => if_pos e
    refine core (fun b => if b = a then some (.frz { cls := .type "list", data := .seq vs.toArray } (.lst (ns.map V.int))) else none) ?_ (Or.inl (Or.inr ⟨_, self a rfl⟩)) ?_ ?_ (fun _ => q)
    · intro b
      by_cases e : b = a
      · exact Or.inr ⟨_, _, self b e⟩
      · exact Or.inl (if_neg e)
    · intro b u z
      by_cases e : b = a
      · have z' := (self b e).symm.trans z
        cases z'
        subst e
        exact ⟨ha, by rw [List.length_map]; exact hl, vs, _, rel, ha⟩
      · cases (if_neg e).symm.trans z
    · intro b z
      by_cases e : b = a
      · exact e
      · exact (z (if_neg e)).elim
end
theorem walk_ofG {l : PySem.W.OpenLaw} {n k : Nat} {q : Program} {loose : List Str} {XP : (Str → Option Value) → Heap → Prop} {YP : World → Heap → Prop} {d : DefRec} {K : Params → PySem.W.Frag} {CX : World → CXT} {sp : World → Sp} {x : Str}
    (hn : l.most = some n) (hn2 : n ≤ sizeLine) (hdf : d.params.defaults = []) (room : Room k callerA) (hY : ∀ (w : World) (h : Heap), YP w h → (K w.params).In h)
    (F : ∀ (w : World) (mg : Str → Option Value) (fa : Addr) (h : Heap), (K w.params).In h → h.Ns mainGlobals mg → mg d.name = some (.ref fa) →
      ∃ fd : FuncData, (∀ (s : Shared) (u : Value), BindsTo s fd ⟨[u], []⟩ [(x, u)]) ∧ ∀ base : Heap, (K w.params).In base → base.Ns mainGlobals mg → FnG l.prog w (K w.params) mg base (CX w) k fa fd [x] (sp w))
    (hsp : ∀ (w : World) (H : Hp) (a : Addr) (ns : List Int), ns.length ≤ n → Only H → SqL (K w.params) H a (ns.map V.int) → sp w [.ref a] H (fun v _ => v = .bl true) fun _ _ _ => False)
    (noX : ∀ (w : World) (H : Hp) (s : Shared) (e : Value) (s' : Shared), CX w [] H s (fun _ _ _ => False) e s' → False) : PySem.W.WalkO q loose XP YP l.row.toRowW d [] (fun f vs => PySem.call f vs) := by
  refine Att.attach_call hn hdf ?_
  intro w s₀ s mg mb fa o pm cd doc a vs ns G Y ho hd hcd at_ obj hints len gens
  have inK := hY w _ Y
  obtain ⟨fd, bt, each⟩ := F w mg fa _ inK G.T.g at_
  exact law_callG inK G.T.g G.T.b G.T.builtins G.T.nolimit gens obj hints (Nat.le_trans len hn2) ⟨room, rfl⟩ each bt (fun H only hS => hsp w H a ns len only hS) (fun H e s' => noX w H s e s')
end DL

namespace DL
open PySem L2
/-! ### a table of defs, entry by entry -/
theorem tabEs_nil {K : PySem.W.Frag} : TabEs K [] [] := trivial
theorem tabEs_cons {K : PySem.W.Frag} {e : DictEntry} {es : List DictEntry} {x y : Str} {r : List (Str × Str)} {t : Tok} {f : Addr} (h1 : e.key = .str x t) (h2 : e.val = .ref f) (h3 : PySem.W.nsIn K mainGlobals y = some (some (.ref f))) (h4 : TabEs K es r) : TabEs K (e :: es) ((x, y) :: r) :=
  ⟨⟨t, h1⟩, ⟨f, h2, h3⟩, h4⟩
end DL

namespace DL
open PySem PySem.Spec PyProof.Rows L2

/-! ### set(xs), xs a list of ints and texts -/
/-- the keys met, each once -/
def dedK (ks : List Key) : List Key := ks.foldl (fun a k => insK k a) []
theorem insK_len (k : Key) (L : List Key) : (insK k L).length ≤ L.length + 1 := by
  unfold insK
  split
  · omega
  · simp
theorem dedK_len (ks : List Key) : ∀ a : List Key, (ks.foldl (fun a k => insK k a) a).length ≤ a.length + ks.length := by
  induction ks with
  | nil => intro a; simp
  | cons k ks ih => intro a; rw [List.foldl_cons, List.length_cons]; have := ih (insK k a); have := insK_len k a; omega
theorem dedK_take {ks : List Key} {i : Nat} {k : Key} (h : ks[i]? = some k) : dedK (ks.take (i + 1)) = insK k (dedK (ks.take i)) := by
  obtain ⟨hi, e⟩ := List.getElem?_eq_some_iff.mp h
  unfold dedK
  rw [List.take_succ, h, List.foldl_append]; rfl
section
variable {P : Program} {w : World} {A : Around} {E : Value → Shared → Prop} {s : Shared}
theorem updateW {I : Addr} {fp wr : List Addr} {G : Array GenState → Array GenState → Prop} {n : Nat} {Pv : Nat → Value → Prop} {St : Nat → Shared → Prop} {R : Result → Shared → Prop}
    (W : WalksS P w A.in1 I fp wr G n Pv St) (S : Addr) (out : S ∉ fp) (ks : List Key) (hn : n = ks.length) (few : ks.length + 1 < scanBound) (hval : ∀ i v, Pv i v → ∃ k, ks[i]? = some k ∧ keyIs k v = true)
    (h0 : Heap) (fresh : h0.get? S = none) (freeW : ∀ b ∈ wr, h0.get? b = none) : ∀ (k i : Nat) (s : Shared), n - i = k → i ≤ n → St i s → (∀ b o, h0.get? b = some o → s.heap.get? b = some o) → SetW w s.heap S (dedK (ks.take i)) →
      (∀ s', Moved (S :: wr) G s s' → SetW w s'.heap S (dedK ks) → (∀ b o, h0.get? b = some o → s'.heap.get? b = some o) → R (.ok (.ret .none)) s') → codeAny (model P w) A (.builtin "set.update.loop" ⟨[.ref S, .ref I], []⟩) R s := by
  have notW : S ∉ wr := fun z => out (W.sub _ z)
  have up : ∀ b ∈ wr, b ∈ S :: wr := fun b z => List.mem_cons_of_mem _ z
  have kept : ∀ {s s' : Shared}, Moved wr G s s' → (∀ b o, h0.get? b = some o → s.heap.get? b = some o) → ∀ b o, h0.get? b = some o → s'.heap.get? b = some o := by
    intro s s' mv kp b o e
    exact mv.heap b o (fun z => by rw [freeW b z] at e; cases e) (kp b o e)
  intro k
  induction k with
  | zero =>
    intro i s ek le st kp hS fin
    obtain rfl : i = n := by omega
    refine codeAny_builtin F.entry_set_update_loop ?_
    rw [Around.under_plainId F.plain_set_update_loop _]
    show wpAny _ A.in1 (pyNext (.ref I) >>= _) _ _ s
    refine wpAny_bind (W.done s _ _ st ?_)
    intro s' mv
    show wpAny _ A.in1 (ret Value.none) _ _ s'
    have all : ks.take i = ks := by rw [hn, List.take_length]
    rw [all] at hS
    exact wpAny_pure (fin s' (mv.mono up) (hS.at fun o e => mv.heap S o notW e) (kept mv kp))
  | succ k ih =>
    intro i s ek le st kp hS fin
    have lt : i < n := by omega
    refine codeAny_builtin F.entry_set_update_loop ?_
    rw [Around.under_plainId F.plain_set_update_loop _]
    show wpAny _ A.in1 (pyNext (.ref I) >>= _) _ _ s
    refine wpAny_bind (W.item i s _ _ lt st ?_)
    intro v s' pv st' mv
    obtain ⟨key, hk, is⟩ := hval i v pv
    have kp' := kept mv kp
    have hS' : SetW w s'.heap S (dedK (ks.take i)) := hS.at fun o e => mv.heap S o notW e
    have room : (dedK (ks.take i)).length + 1 < scanBound := by
      have a1 := dedK_len (ks.take i) []
      have a2 : (dedK (ks.take i)).length ≤ ([] : List Key).length + (ks.take i).length := a1
      rw [List.length_take] at a2
      simp at a2
      omega
    show wpAny _ A.in1 (holding [v] (setAdd S v) >>= _) _ _ s'
    refine wpAny_bind (wpAny_holding ?_)
    unfold setAdd
    refine wpAny_holding (wpAny_bind ((mixKind P w).pyHash is ?_))
    refine addW_hashed is hS' room ?_
    intro b h' sb new
    rw [← dedK_take hk] at new
    have kp2 : ∀ b o, h0.get? b = some o → h'.get? b = some o := by
      intro b o e
      exact (sb.2 b (fun z => by rw [z, fresh] at e; cases e)).trans (kp' b o e)
    refine wpAny_pure ⟨plainId_quiet F.plain_set_update_loop _, ih (i + 1) _ (by omega) lt (W.frame _ s' _ _ st' (Nat.le_succ _) ?_) kp2 new ?_⟩
    · intro b z o e
      rw [sb.2 b (fun q : b = S => out (q ▸ z))]
      exact e
    · intro s2 mv2 hS2 kp3
      refine fin s2 (Moved.trans W.gtrans ((mv.mono up).then_heap (Nat.le_succ _) ?_) mv2) hS2 kp3
      intro b o z e
      rw [sb.2 b (fun q : b = S => z (q ▸ List.mem_cons_self))]
      exact e
end
/-- an empty set's object -/
def set0 (w : World) : Obj := { cls := .type "set", dict := none, data := .set #[] 0 (.fresh 0 0 (!w.params.followText "set-order")) }
section
variable {P : Program} {w : World} {A : Around} {E : Value → Shared → Prop} {s : Shared}
theorem setW_at {h : Heap} {a : Addr} (e : h.get? a = some (set0 w)) : SetW w h a [] := by
  obtain ⟨o, es, ep, t, h1, r⟩ := setW_fresh (h := h) w
  have e1 : (h.push (set0 w)).get? h.objs.size = some (set0 w) := Heap.get?_push_size _ rfl
  have e2 : some o = some (set0 w) := h1.symm.trans e1
  cases e2
  exact ⟨_, es, ep, t, e, r⟩
theorem callW {l : Addr} {items : Array Value} (ks : List Key) {Q : Value → Shared → Prop} (hh : A.handled = none) (hl : s.heap.IsList l items) (size : items.size = ks.length) (hval : ∀ (i : Nat) (v : Value), items[i]? = some v → ∃ k, ks[i]? = some k ∧ keyIs k v = true)
    (few : ks.length + 1 < scanBound) (fin : ∀ (h' : Heap) (tk : Nat), SetW w h' s.heap.objs.size (dedK ks) → (∀ b o, s.heap.get? b = some o → h'.get? b = some o) → Q (.ref s.heap.objs.size) { s with heap := h', toks := tk }) :
    wpAny (model P w) A (call (.type "set") [.ref l]) Q E s := by
  obtain ⟨c, tl, hmro⟩ := F.called_set.mro
  have g1 := F.called_set.made
  have g2 := F.called_set.sub
  refine wpAny_call (codeAny_of_tree ?_)
  show wpAny _ _ (callAny (.type "set") _) _ _ _
  refine wpAny_pure ⟨Code.quiet_builtin _ (by decide +kernel), codeAny_builtin F.entry_type_call ?_⟩
  rw [Around.under_plain (weight_type_call_type "set" [.ref l] []) rfl]
  have g3 := F.called_set.notType
  have g4 := F.called_set.canCreate
  have g5 := F.typeCall_set_1 (.ref l)
  repeat (any_goals (first | assumption | wp_step))
  refine codeAny_mono (code_set_led1 (.ref l) (E := E) (Q₁ := fun obj s₁ => obj = .ref s.heap.objs.size ∧ s₁ = { s with heap := s.heap.push (set0 w) }) ⟨rfl, rfl⟩) ?_
  intro r s₁ hr
  cases r with
  | error e => exact hr
  | ok fl =>
    cases fl with
    | next => exact hr.elim
    | brk => exact hr.elim
    | cont => exact hr.elim
    | ret obj =>
      obtain ⟨rfl, rfl⟩ := hr
      have hS : (s.heap.push (set0 w)).get? s.heap.objs.size = some (set0 w) := Heap.get?_push_size _ rfl
      have hT : Shared.TypeIs { s with heap := s.heap.push (set0 w) } (.ref s.heap.objs.size) "set" := ⟨_, hS, rfl⟩
      have g6 := F.called_set.init.lookup
      have g7 := F.called_set.init.bind (.ref s.heap.objs.size)
      repeat (any_goals (first | assumption | wp_step))
      refine codeAny_mono (codeAny_call_builtin (R := wants (fun r s₂ => r = .none ∧ ∃ h' tk, s₂ = { s with heap := h', toks := tk } ∧ SetW w h' s.heap.objs.size (dedK ks) ∧ (∀ b o, s.heap.get? b = some o → h'.get? b = some o)) E)
        F.called_set.init.plain F.entry_set_init (check_set_init_1 hT ?_)) ?_
      · obtain ⟨ol, hol, hcl, nl, hdl⟩ := hl
        obtain ⟨ocls, odict, odata, oslots⟩ := ol
        simp only at hcl hdl
        subst hcl
        subst hdl
        have hol' : (s.heap.push (set0 w)).get? l = some { cls := .type "list", dict := odict, data := .seq items nl, slots := oslots } := Heap.get?_push_of_some _ hol
        have g8 := F.sub_list_set
        have g9 := F.sub_list_frozenset
        have ne : (Value.type "list" == Value.type "dict") = false := by decide
        have isL : (s.heap.push (set0 w)).IsList l items := ⟨_, hol', rfl, nl, rfl⟩
        unfold Builtin.«set.__init__» noKeywords Builtin.Frozenset.updateFrom
        generalize hPI : pyIter = PI
        wp_walk
        subst hPI
        refine wpAny_pyIter_list isL ?_
        refine wpAny_bind (wpAny_runValue ?_)
        have lS : l < s.heap.objs.size := Heap.lt_size hol
        have hh3 : A.in1.in1.in1.handled = none := by simp [hh]
        have neI : l ≠ (s.heap.push (set0 w)).objs.size := by
          rw [Heap.size_push]
          exact Nat.ne_of_lt (Nat.lt_succ_of_lt lS)
        have out : s.heap.objs.size ∉ [(s.heap.push (set0 w)).objs.size, l] := by
          rw [Heap.size_push]
          simp only [List.mem_cons, List.mem_singleton, List.not_mem_nil, or_false, not_or]
          exact ⟨Nat.ne_of_lt (Nat.lt_succ_self _), Nat.ne_of_gt lS⟩
        have past : ∀ b, s.heap.objs.size ≤ b → s.heap.get? b = none := fun b hb => by
          cases q : s.heap.get? b with
          | none => rfl
          | some o => exact absurd (Nat.lt_of_lt_of_le (Heap.lt_size q) hb) (Nat.lt_irrefl _)
        refine updateW ((Walks.list hh3 _ l neI items).toS) s.heap.objs.size out ks size few hval s.heap (past _ (Nat.le_refl _)) (fun b hb => past b (by
            rw [List.mem_singleton.mp hb, Heap.size_push]
            exact Nat.le_succ _)) (items.size - 0) 0 _ (by omega) (Nat.zero_le _) ⟨⟨_, Heap.get?_push_size _ rfl, rfl, rfl⟩, (isL.push _)⟩ (fun b o e => Heap.get?_push_of_some _ (Heap.get?_push_of_some _ e)) ?_ ?_
        · exact setW_at (Heap.get?_push_of_some _ hS)
        · intro s' mv hS' kp
          obtain ⟨h', g', d', tk', os'⟩ := s'
          have eg : g' = s.gens := mv.gens
          have ed : d' = s.drawn := mv.drawn
          have eo : os' = s.os := mv.os
          subst eg
          subst ed
          subst eo
          show wpAny _ _ _ _ _ _
          refine wpAny_pure ?_
          show wpAny _ _ (ret Value.none) _ _ _
          exact wpAny_pure ⟨rfl, h', tk', rfl, hS', kp⟩
      · intro r₂ s₂ hr₂
        cases r₂ with
        | error e => exact hr₂
        | ok fl₂ =>
          cases fl₂ with
          | next => exact hr₂.elim
          | brk => exact hr₂.elim
          | cont => exact hr₂.elim
          | ret r =>
            obtain ⟨rfl, h', tk, rfl, hS', kp⟩ := hr₂
            repeat (any_goals (first | assumption | wp_step))
            exact fin _ _ hS' kp
end
def keyV : V → Option Key
  | .int i => some (.inl i)
  | .str x => some (.inr x)
  | _ => none
def rSetW (K : PySem.W.Frag) (w : World) : List V → Hp → VK → Prop := fun vs H Q => ∃ (l : Addr) (xs : List V) (ks : List Key), vs = [V.ref l] ∧ SqL K H l xs ∧ xs.map keyV = ks.map some ∧ ks.length + 1 < scanBound ∧
  ∀ a, H a = none → Q (.ref a) (upd H a (SetWO w a (dedK ks)))
section
variable {X : Cx}
theorem keyV_is {v : V} {u : Value} {k : Key} (r : RelV v u) (e : keyV v = some k) : keyIs k u = true := by
  cases v with
  | int i =>
    cases e
    obtain ⟨t, rfl⟩ := r
    exact keyIs_int i t
  | str x =>
    cases e
    obtain ⟨t, rfl⟩ := r
    exact keyIs_str x t
  | _ => cases e
theorem cr_setW (hc : X.calm = true) : CallR X (.type "set") (rSetW X.K X.w) := by
  intro pins s σ H vs us Q I r h
  obtain ⟨l, xs, ks, rfl, hl, hk, few, q⟩ := h
  rw [Vals.ref1 r]
  obtain ⟨its, rv, pl, hz⟩ := I.list hl
  have hn : H s.heap.objs.size = none := I.hok.fresh (Nat.le_refl _)
  have lk : xs.length = ks.length := by have := congrArg List.length hk; simpa using this
  refine callW ks (I.ok.hd hc) pl.isList (by rw [List.size_toArray, ← rv.length, lk]) (fun i v hv => ?_) few fun h' tk hS kp => ?_
  · have hv' : its[i]? = some v := by simpa using hv
    have hi : i < xs.length := by rw [rv.length]; exact (List.getElem?_eq_some_iff.mp hv').1
    obtain ⟨u, hu, ru⟩ := rv.get (List.getElem?_eq_getElem hi)
    rw [hv'] at hu
    cases hu
    have hki : i < ks.length := by omega
    refine ⟨ks[i], List.getElem?_eq_getElem hki, keyV_is ru ?_⟩
    have := congrArg (fun z => z[i]?) hk
    simp only [List.getElem?_map, List.getElem?_eq_getElem hi, List.getElem?_eq_getElem hki, Option.map_some, Option.some.injEq] at this
    exact this
  · exact ⟨.ref s.heap.objs.size, upd H s.heap.objs.size (SetWO X.w s.heap.objs.size (dedK ks)), I.laid (t' := tk) kp (Nat.le_refl _) (setWO_new hS), rfl, q _ hn⟩
end
end DL

namespace DL
open PySem L2

/-! ### sum, max of a list; sorted(set(xs)) -/
def sumD : PC1
  | [.list xs], k => ∃ ns, intsOf xs = some ns ∧ k (.int ns.sum)
  | _, _ => False
def maxLD : PC1
  | [.list xs], k => ∃ ns, intsOf xs = some ns ∧ 0 < ns.length ∧ ∀ m, m ∈ ns → (∀ y, y ∈ ns → y ≤ m) → k (.int m)
  | _, _ => False
theorem pm_sum1 : ∀ ds, Pm1 (sumD ds) := by
  intro ds k k' w q
  match ds with
  | [] => exact q.elim
  | [d] => cases d <;> first | exact q.elim | exact ⟨_, q.choose_spec.1, w _ q.choose_spec.2⟩
  | d :: e :: r => cases d <;> exact q.elim
theorem pm_maxL : ∀ ds, Pm1 (maxLD ds) := by
  intro ds k k' w q
  match ds with
  | [] => exact q.elim
  | [d] => cases d <;> first | exact q.elim | exact ⟨_, q.choose_spec.1, q.choose_spec.2.1, fun m h1 h2 => w _ (q.choose_spec.2.2 m h1 h2)⟩
  | d :: e :: r => cases d <;> exact q.elim
theorem dx_one1 {K : PySem.W.Frag} {H : Hp} {F : AS} {d : D} {vs : List V} (h : DxAll K H F vs [d]) : ∃ v, vs = [v] ∧ Dx K H F v d := by
  cases h with
  | cons a b => cases b; exact ⟨_, rfl, a⟩
theorem prim_sum1 {K : PySem.W.Frag} : PrimC K (rSum K) sumD := by
  intro F H vs ds Q hF hd h
  match ds with
  | [] => exact (show False from h).elim
  | d :: e :: r => cases d <;> exact (show False from h).elim
  | [d] =>
    obtain ⟨v, rfl, dx⟩ := dx_one1 hd
    cases d <;> first | exact (show False from h).elim | skip
    obtain ⟨ns, hb, q⟩ := h
    rw [intsOf_eq hb] at dx
    obtain ⟨p, xs, rfl, e, _, da⟩ := dx.sql
    rw [dx_ints da] at e
    exact ⟨p, ns, rfl, .inl (.inl e), q.now (.int _)⟩
theorem prim_maxL {K : PySem.W.Frag} : PrimC K (rMax K) maxLD := by
  intro F H vs ds Q hF hd h
  match ds with
  | [] => exact (show False from h).elim
  | d :: e :: r => cases d <;> exact (show False from h).elim
  | [d] =>
    obtain ⟨v, rfl, dx⟩ := dx_one1 hd
    cases d <;> first | exact (show False from h).elim | skip
    obtain ⟨ns, hb, h0, q⟩ := h
    rw [intsOf_eq hb] at dx
    obtain ⟨p, xs, rfl, e, _, da⟩ := dx.sql
    rw [dx_ints da] at e
    exact ⟨p, ns, rfl, .inl (.inl e), h0, fun m h1 h2 => (q m h1 h2).now (.int _)⟩
def dedS (xs : List Str) : List Str := xs.foldl (fun a x => insS x a) []
theorem dedK_inr (xs : List Str) : dedK (xs.map Sum.inr) = (dedS xs).map Sum.inr := by
  unfold dedK dedS
  suffices ∀ a : List Str, (xs.map (Sum.inr (α := Int))).foldl (fun a k => insK k a) (a.map Sum.inr) = (xs.foldl (fun a x => insS x a) a).map Sum.inr from this []
  induction xs with
  | nil => exact fun a => rfl
  | cons x xs ih => intro a; rw [List.map_cons, List.foldl_cons, List.foldl_cons, ins_inr, ih]
def mSortSet (m : M D) : M (List D) := fun ρ k => m ρ fun d ρ1 => match d with
  | .list xs => ∃ zs, strsOf xs = some zs ∧ zs.length ≤ 4000 ∧ ∀ ys : List Str, ys.Perm (dedS zs) → PyProof.Rows.sortedS ys = true → k (ys.map PyData.str) ρ1
  | _ => False
section
variable {X : Cx} {x : Str} {p pos p2 pos2 : Pos} {e : Expr} {m : M D} {ms : M (List D)} {es : List Expr}
theorem em_sum1 (hc : X.calm = true) (hm : X.mg "sum" = none) (ha : AM X (e :: es) ms) (hg : Gl X "sum" := by rfl) (he : starEach (e :: es) X.env = (false, eval e X.env) :: starEach es X.env := by rfl) (hpl : (backTo pos (starEach es X.env)).any (·.1) = false := by rfl) :
    EM X (.Call (.Name "sum" p) (e :: es) [] pos) (mCall sumD ms) := em_callB (cr_sum hc) prim_sum1 pm_sum1 hg hm (by decide +kernel) ha (he := he) (hpl := hpl)
theorem em_maxL (hc : X.calm = true) (hm : X.mg "max" = none) (ha : AM X (e :: es) ms) (hg : Gl X "max" := by rfl) (he : starEach (e :: es) X.env = (false, eval e X.env) :: starEach es X.env := by rfl) (hpl : (backTo pos (starEach es X.env)).any (·.1) = false := by rfl) :
    EM X (.Call (.Name "max" p) (e :: es) [] pos) (mCall maxLD ms) := em_callB (cr_max hc) prim_maxL pm_maxL hg hm (by decide +kernel) ha (he := he) (hpl := hpl)
theorem nm_sortSet (hc : X.calm = true) (hm : X.mg "sorted" = none) (hm2 : X.mg "set" = none) (ha : EM X e m) (hg : Gl X "sorted" := by rfl) (hg2 : Gl X "set" := by rfl)
    (he : starEach [.Call (.Name "set" p2) [e] [] pos2] X.env = (false, eval (.Call (.Name "set" p2) [e] [] pos2) X.env) :: starEach [] X.env := by rfl) (he2 : starEach [e] X.env = (false, eval e X.env) :: starEach [] X.env := by rfl)
    (hpl : (backTo pos (starEach [] X.env)).any (·.1) = false := by rfl) (hpl2 : (backTo pos2 (starEach [] X.env)).any (·.1) = false := by rfl) :
    NM X (.Call (.Name "sorted" p) [.Call (.Name "set" p2) [e] [] pos2] [] pos) (mSortSet m) := by
  have mono : Mono (mSortSet m) := fun ρ k k' w q => ha.mono ρ _ _ (fun d ρ1 q1 => by
    cases d <;> first | exact q1.elim | skip
    obtain ⟨zs, h1, h2, h3⟩ := q1
    exact ⟨zs, h1, h2, fun ys a b => w _ _ (h3 ys a b)⟩) q
  refine ⟨mono, pe_weak (pe_callB (cr_sortedW hc) hg hm (by decide +kernel) (pa_cons (pe_callTy (cr_setW hc) hg2 hm2 (by decide +kernel) (pa_cons ha.run pa_nil he2) (by decide) (by decide) he2 hpl2) pa_nil he) (by decide) (by decide) he hpl) ?_⟩
  rintro σ H Q ⟨G, loc, ρ, R, q⟩
  refine ⟨G, loc, ρ, R, ha.mono ρ _ _ (fun d ρ1 q1 v H1 R1 g1 d1 => ?_) q⟩
  cases d <;> first | exact (show False from q1).elim | skip
  obtain ⟨zs, hz, few, q2⟩ := q1
  rw [strsOf_eq hz] at d1
  obtain ⟨l, vs, rfl, e1, n1, dd⟩ := d1.sql
  rw [DxAll.strs dd] at e1
  refine ⟨l, zs.map V.str, zs.map Sum.inr, rfl, .inl (.inl e1), by rw [List.map_map, List.map_map]; rfl, by rw [List.length_map]; show zs.length + 1 < 4096; omega, fun a hD => ?_⟩
  obtain ⟨h0, np, RD, gD⟩ := new_any (o := SetWO X.w a (dedK (zs.map Sum.inr))) R1 hD
  have bs := R.bwS
  refine ⟨a, dedS zs, rfl, by rw [upd_same, dedK_inr], fun ys p pm hs hp => ?_⟩
  obtain ⟨R3, n3⟩ := RD.unplus bs np
  obtain ⟨a1, a2, a3, a4, a5, a6⟩ := new_list R3 (dx_strs (K := X.K) (H := upd H1 a (SetWO X.w a (dedK (zs.map Sum.inr)))) (F := Fb G.fb ρ1 loc) ys) hp
  have g3 : Grow (Fb G.fb ρ1 loc) (Fb G.fb ρ1 loc) H1 (upd H1 a (SetWO X.w a (dedK (zs.map Sum.inr)))) := gD.weak fun b z => by
    rcases z with z | z
    · exact .inl (.inl z)
    · exact .inr z
  exact q2 ys pm hs p _ _ a1 a2 a3 a4 (g1.trans (g3.trans a5)) a6
end
end DL

namespace DL
open PySem L2

/-! ### names that own a list, or did -/
def mIxU (i : Nat) (m : M D) : M D := fun ρ k => match ρ[i]? with
  | some (.own _ _) => mIxO i m ρ k
  | _ => mBin ixD (mVar i) m ρ k
def mLenU (i : Nat) : M D := fun ρ k => match ρ[i]? with
  | some (.own _ _) => mLenOwn i ρ k
  | _ => mCall lenD (mCons (mVar i) mNil) ρ k
def isOwnS (ρ : List Slot) (i : Nat) : Prop := ∃ b ds, ρ[i]? = some (.own b ds)
theorem em_eitherU {X : Cx} {e : Expr} {i : Nat} {m m' mm : M D} (h : EM X e m) (h' : EM X e m') (a : ∀ ρ, isOwnS ρ i → mm ρ = m ρ) (b : ∀ ρ, ¬ isOwnS ρ i → mm ρ = m' ρ) : EM X e mm := by
  refine ⟨fun ρ k k' w q => ?_, ⟨fun pins s σ H Q I z => ?_⟩⟩
  · by_cases c : isOwnS ρ i
    · rw [a ρ c] at q ⊢
      exact h.mono ρ k k' w q
    · rw [b ρ c] at q ⊢
      exact h'.mono ρ k k' w q
  · obtain ⟨G, loc, ρ, R, q⟩ := z
    by_cases c : isOwnS ρ i
    · rw [a ρ c] at q
      exact h.run.run pins s σ H Q I ⟨G, loc, ρ, R, q⟩
    · rw [b ρ c] at q
      exact h'.run.run pins s σ H Q I ⟨G, loc, ρ, R, q⟩
theorem em_ixU {X : Cx} {e : Expr} {i : Nat} {m : M D} (h : EM X e (mIxO i m)) (h' : EM X e (mBin ixD (mVar i) m)) : EM X e (mIxU i m) := em_eitherU (i := i) h h' (fun ρ ⟨b, ds, c⟩ => by funext k; unfold mIxU; rw [c]) (fun ρ c => by
  funext k
  unfold mIxU
  split
  · rename_i b ds e; exact absurd ⟨b, ds, e⟩ c
  · rfl)
theorem em_lenU {X : Cx} {e : Expr} {i : Nat} (h : EM X e (mLenOwn i)) (h' : EM X e (mCall lenD (mCons (mVar i) mNil))) : EM X e (mLenU i) := em_eitherU (i := i) h h' (fun ρ ⟨b, ds, c⟩ => by funext k; unfold mLenU; rw [c]) (fun ρ c => by
  funext k
  unfold mLenU
  split
  · rename_i b ds e; exact absurd ⟨b, ds, e⟩ c
  · rfl)
end DL

/-! repr of a list or a tuple of data. -/
namespace DL
open PySem L2

structure Shows (d : D) : Prop where
  lay : d.canLay0 = true
  dep : d.depth ≤ 60
  shw : d.showable = true
  short : d.shown.length ≤ sizeLine
def reprD : PC1
  | [.list xs], k => Shows (.list xs) ∧ k (.str (PyData.list xs).shown)
  | [.tuple xs], k => Shows (.tuple xs) ∧ k (.str (PyData.tuple xs).shown)
  | _, _ => False
theorem pm_repr : ∀ ds, Pm1 (reprD ds) := by
  intro ds k k' w q
  match ds with
  | [] => exact q
  | d :: e :: r => cases d <;> exact q
  | [d] =>
    cases d <;> first | exact (show False from q).elim | skip
    · exact ⟨q.1, w _ q.2⟩
    · exact ⟨q.1, w _ q.2⟩
theorem call_repr {X : Cx} (gd : X.A.guards = some []) (un : X.A.units + 64 < PySem.cLine) :
    CallR X (.builtin "repr") (fun xs H Q => ∃ a d, xs = [V.ref a] ∧ Dp X.K H (.ref a) d ∧ Shows d ∧ Q (.str d.shown) H) := by
  intro pins s σ H xs us Q I r h
  obtain ⟨a, d, rfl, hd, hs, q⟩ := h
  obtain ⟨u, rfl, r1⟩ := vals1 r
  cases r1
  obtain ⟨as, hr⟩ := Dp.reads I d _ _ hd rfl
  have := hs.dep
  exact repr_of_reads' hr hs.shw (PyData.noDict_hsm (PyData.hasDict_of_canLay d hs.lay)) gd (by omega) (fun _ _ e => e) (fun h' u tk hk => ⟨.str d.shown, H, I.kept hk, ⟨_, rfl⟩, q⟩) hs.short
theorem prim_repr {K : PySem.W.Frag} : PrimC K (fun xs H Q => ∃ a d, xs = [V.ref a] ∧ Dp K H (.ref a) d ∧ Shows d ∧ Q (.str d.shown) H) reprD := by
  intro F H vs ds Q hF hd h
  match ds with
  | [] => exact (show False from h).elim
  | d :: e :: r => cases d <;> exact (show False from h).elim
  | [d] =>
    obtain ⟨v, rfl, dx⟩ := dx_one hd
    cases d <;> first | exact (show False from h).elim | skip
    · obtain ⟨p, xs, rfl, e, _, da⟩ := dx.sql
      exact ⟨_, _, rfl, Dx.dp _ _ h.1.lay dx, h.1, h.2.now (.str _)⟩
    · obtain ⟨p, xs, rfl, e, da⟩ := dx.sqt
      exact ⟨_, _, rfl, Dx.dp _ _ h.1.lay dx, h.1, h.2.now (.str _)⟩
section
variable {X : Cx} {p pos : Pos} {e : Expr} {m : M (List D)} {k : Nat}
theorem em_repr (hr : Rm k X.A) (hm : X.mg "repr" = none) (ha : AM X [e] m) (hg : Gl X "repr" := by rfl) (he : starEach [e] X.env = (false, eval e X.env) :: starEach [] X.env := by rfl) (hpl : (backTo pos (starEach [] X.env)).any (·.1) = false := by rfl) :
    EM X (.Call (.Name "repr" p) [e] [] pos) (mCall reprD m) :=
  em_callB (call_repr hr.gd hr.units) prim_repr pm_repr hg hm (by decide +kernel) ha (he := he) (hpl := hpl)
end
end DL

/-! told = [new list, new list]; ..; if not f(told, e): return ..; for some in told: (statements that change some) -/
namespace DL
open PySem L2

section
variable {K : PySem.W.Frag} {H H' : Hp} {F : AS} {G G' : Fr} {vs : List V} {us : List Put} {ρ : List Slot} {loc : Nat → Addr} {σ : L2.St} {p q t : Addr} {o u : HO}
theorem Fr.swap (h : p ≠ q) : (G.pin p o).pin q u = (G.pin q u).pin p o := by
  unfold Fr.pin
  simp only [Fr.mk.injEq, and_true]
  refine ⟨funext fun a => ?_, funext fun a => propext ⟨fun z => ?_, fun z => ?_⟩⟩
  · by_cases ha : a = p
    · subst ha
      rw [upd_ne h, upd_same, upd_same]
    · by_cases hb : a = q
      · subst hb
        rw [upd_same, upd_ne ha, upd_same]
      · rw [upd_ne hb, upd_ne ha, upd_ne ha, upd_ne hb]
  · rcases z with (z | z) | z
    · exact .inl (.inl z)
    · exact .inr z
    · exact .inl (.inr z)
  · rcases z with (z | z) | z
    · exact .inl (.inl z)
    · exact .inr z
    · exact .inl (.inr z)
theorem PutsOk.off (h : PutsOk K H F G G' vs us) (hb : ∀ b, G.bw b → G.fb b) (R : Rep K G' ρ loc σ H') : Rep K G ρ loc σ H' ∧ ∀ b, Fb G.fb ρ loc b → Fb G'.fb ρ loc b := by
  induction h with
  | nil => exact ⟨R, fun _ z => z⟩
  | d _ _ ih => exact ih hb R
  | n h0 np hp dx r ih =>
    obtain ⟨R1, s1⟩ := ih (fun b z => .inl (hb b z)) R
    obtain ⟨R2, _⟩ := R1.unpin h0 fun z => np (hb _ z)
    obtain ⟨R3, _⟩ := R2.unplus hb np
    exact ⟨R3, fun b z => s1 b (Fb.plus_sub b z)⟩
theorem PutsOk.read (h : PutsOk K H F G G' vs us) : ∀ (xss : List (List D)), us = xss.map Put.n → (∀ b, G.bw b → G.fb b) → Rep K G' ρ loc σ H' → Grow F (Fb G'.fb ρ loc) H H' → DxAll K H' (Fb G.fb ρ loc) vs (xss.map PyData.list) := by
  induction h with
  | nil =>
    intro xss e hb R g
    cases xss with
    | nil => exact .nil
    | cons _ _ => cases e
  | d _ _ ih =>
    intro xss e hb R g
    cases xss with
    | nil => cases e
    | cons _ _ => cases e
  | n h0 np hp dx r ih =>
    intro xss e hb R g
    cases xss with
    | nil => cases e
    | cons xs xss =>
      cases e
      obtain ⟨R1, s1⟩ := r.off (fun b z => .inl (hb b z)) R
      obtain ⟨R2, e2⟩ := R1.unpin h0 fun z => np (hb _ z)
      obtain ⟨R3, n3⟩ := R2.unplus hb np
      exact .cons (.lst n3 e2 ((dx.g g).weak fun b z => s1 b (Fb.plus_sub b z))) ((ih xss rfl (fun b z => .inl (hb b z)) R g).weak Fb.plus_sub)
theorem PutsOk.pinT (h : PutsOk K H F G G' vs us) (h0 : G'.H0 t = none) (nf : ¬ G'.fb t) : PutsOk K H F (G.pin t o) (G'.pin t o) vs us := by
  induction h with
  | nil => exact .nil
  | d dx _ ih => exact .d dx (ih h0 nf)
  | @n G G' p ws vs xs us hp0 np hp dx r ih =>
    have ne : p ≠ t := fun z => by
      have := r.same.1 p _ upd_same
      rw [z, h0] at this; cases this
    refine .n ?_ ?_ hp dx ?_
    · show upd G.H0 t o p = none
      rw [upd_ne ne]; exact hp0
    · rintro (z | z)
      · exact np z
      · exact ne z
    · rw [Fr.swap (Ne.symm ne)]; exact ih h0 nf
theorem PutsOk.first (h : PutsOk K H F (G.pin p o) G' vs us) (h0 : G.H0 p = none) (np : ¬ G.fb p) : ∃ G2 : Fr, G' = G2.pin p o ∧ PutsOk K H F G G2 vs us ∧ G2.H0 p = none ∧ ¬ G2.fb p := by
  generalize e : G.pin p o = Gp at h
  induction h generalizing G with
  | nil => exact ⟨G, e.symm, .nil, h0, np⟩
  | d dx _ ih =>
    obtain ⟨G2, a, b, c⟩ := ih h0 np e
    exact ⟨G2, a, .d dx b, c⟩
  | @n G1 G' q ws vs xs us hq0 nq hq dx r ih =>
    subst e
    have ne : q ≠ p := fun z => nq (.inr z)
    have hq1 : upd G.H0 p o q = none := hq0
    rw [upd_ne ne] at hq1
    obtain ⟨G2, a, b, c⟩ := ih (G := G.pin q (.lst ws)) (show upd G.H0 q _ p = none by rw [upd_ne (Ne.symm ne)]; exact h0) (by rintro (z | z); exact np z; exact ne z.symm) (Fr.swap ne)
    exact ⟨G2, a, .n hq1 (fun z => nq (.inl z)) hq dx b, c⟩
end
/-- the loop over the lists that told leads to: each is some's own for its turn -/
def nestLoop (j : Nat) (mb : SMon) (k : List Slot → Prop) : List (List D) → List Slot → Prop
  | [], ρ => k ρ
  | xs :: xss, ρ => mb ⟨nestLoop j mb k xss, fun _ _ _ => False, fun _ => False, nestLoop j mb k xss⟩ (ρ.set j (.own false xs))
def sNest (i j : Nat) (ms : M (List Put)) (m1 : SMon) (ma : M (List D)) (F : FS) (mr mb mR : SMon) : SMon := fun k ρ => ms ρ fun us ρ1 => us.length ≤ sizeLine ∧ ∃ xss : List (List D), us = xss.map Put.n ∧ ∀ t : Addr,
  m1 ⟨fun ρ2 => ma ρ2 fun ds ρ3 => ∃ due, ds = [.dict (adrD t), due] ∧ ρ3[i]? = some (.dat (.dict (adrD t))) ∧ F [.list (xss.map PyData.list), due] fun _ d => ∃ b, d = .bool b ∧
      if b = true then nestLoop j mb (mR k) xss ρ3 else mr ⟨fun _ => False, k.rt, fun _ => False, fun _ => False⟩ ρ3, k.rt, fun _ => False, fun _ => False⟩ (ρ1.set i (.dat (.dict (adrD t))))
theorem mono_nestLoop {j : Nat} {mb : SMon} (hb : SMono mb) {k k' : List Slot → Prop} (l : ∀ ρ, k ρ → k' ρ) : ∀ (xss : List (List D)) (ρ : List Slot), nestLoop j mb k xss ρ → nestLoop j mb k' xss ρ
  | [], ρ, q => l ρ q
  | xs :: xss, ρ, q => by
    refine hb _ _ _ ?_ q
    exact ⟨fun ρ q => mono_nestLoop hb l xss ρ q, fun _ _ _ q => q, fun _ q => q, fun ρ q => mono_nestLoop hb l xss ρ q⟩
section
variable {X : Cx} {i j k n : Nat} {x y g : Str} {es : List Expr} {e2 : Expr} {S1 : Stmt} {body2 body rest : List Stmt} {ms : M (List Put)} {m1 mr mb mR : SMon} {ma : M (List D)} {F : FS} {f : Addr} {fd : FuncData} {ps : List Str}
  {p1 p2 p3 p4 p5 p6 p7 p8 p9 pa pb : Pos}
theorem bm_nest (hp : PassesOwn (model X.prog X.w) X.A X.env X.xe) (hc : X.calm = true) (hN : X.N.Nodup) (hi : X.N[i]? = some x) (hx : Loc X.env.scope x) (hj : X.N[j]? = some y) (hy : Loc X.env.scope y) (hv : Vis X.env.scope x)
    (hA : APM X es ms) (h1 : SM X S1 m1) (ha : AM X [.Name x p4, e2] ma) (hr : Rm k X.A)
    (Gf : FnG X.prog X.w X.K X.mg X.base CX0 k f fd ps (sp0 X.K 2 F)) (mF : PmS F) (hg : Gl X g) (hm : X.mg g = some (.ref f)) (hk : PySem.W.keepIn X.K (.ref f) = true) (hb : Binds X.K fd ps [])
    (h2 : BM X body2 mr) (h3 : BM X body mb) (h4 : BM X rest mR)
    (hs : swapsWith (.List es p1) (some (.Name x p2)) p3.line X.env = pure false := by rfl) (hf : X.fn x = true ∨ X.env.scope.names.lookup x = some .local := by first | exact .inl rfl | exact .inr rfl | assumption)
    (hfy : X.fn y = true ∨ X.env.scope.names.lookup y = some .local := by first | exact .inl rfl | exact .inr rfl | assumption)
    (hdb : (g == ("__debug__" : Str)) = false := by decide) (he : starEach [.Name x p4, e2] X.env = (false, eval (.Name x p4) X.env) :: starEach [e2] X.env := by rfl) (hpl : (backTo p6 (starEach [e2] X.env)).any (·.1) = false := by rfl)
    (hd1 : (x == ("__debug__" : Str)) = false := by decide) (hd2 : (x == ("__classdict__" : Str)) = false := by decide)
    (hfo : ∀ z, foldedSetIterable (.Name x p9) X.env z = pure z := by intro _; rfl) :
    BM X (.Assign [.Name x p2] (.List es p1) p3 :: S1 :: .If (.UnaryOp .Not (.Call (.Name g p5) [.Name x p4, e2] [] p6) p7) body2 [] p8 :: .For (.Name y pa) (.Name x p9) body [] pb :: rest)
      (sNest i j ms m1 ma F mr mb mR) := by
  refine ⟨?_, pss_weak (pss_cons (ps_set hN hi hx (pe_lst hA.run) hs hf) (pss_cons h1.run (pss_cons (ps_if (pt_not (pt_val (pe_callG Gf hr hg hm hk hb .nil pass0 ha.run hdb he hpl))) h2.run pss_nil)
    (pss_cons (ps_for hp hc (pi_list (pe_var hi hv hd1 hd2)) (pg_name hN hj hy hfy) h3.run hfo) h4.run)))) ?_⟩
  · intro kk kk' ρ l q
    refine hA.mono ρ _ _ (fun us ρ1 ⟨z, xss, e, q1⟩ => ⟨z, xss, e, fun t => ?_⟩) q
    refine h1.mono _ _ _ ?_ (q1 t)
    refine ⟨fun ρ2 q2 => ?_, l.rt, fun _ z => z, fun _ z => z⟩
    refine ha.mono ρ2 _ _ (fun ds ρ3 ⟨due, e1, e3, q3⟩ => ⟨due, e1, e3, mF _ _ _ (fun _ d ⟨b, e4, q4⟩ => ⟨b, e4, ?_⟩) q3⟩) q2
    cases b with
    | true =>
      rw [if_pos rfl] at q4 ⊢
      exact mono_nestLoop h3.mono (fun ρ q => h4.mono _ _ _ l q) _ _ q4
    | false =>
      rw [if_neg Bool.false_ne_true] at q4 ⊢
      refine h2.mono _ _ _ ?_ q4
      exact ⟨fun _ z => z, l.rt, fun _ z => z, fun _ z => z⟩
  · rintro E σ H ⟨G, loc, ρ, kk, R, q, l1, l2, l3, l4⟩
    refine ⟨G, loc, ρ, R, hA.mono ρ _ _ (fun us ρ1 q1 vs H1 G1 R1 g1 pk => ?_) q⟩
    obtain ⟨hl, xss, rfl, q1⟩ := q1
    refine ⟨by rw [pk.len]; exact hl, fun t ht => ?_⟩
    obtain ⟨t1, t2, RT, gT⟩ := R1.plusNew (o := .lst vs) ht
    have Rp := (RT.pin upd_same).put i (Dx.adr t rfl : Dx X.K (upd H1 t (.lst vs)) _ (.ref t) (.dict (adrD t)))
    have bw1 : ∀ b, G1.bw b → G.bw b := fun b z => by rw [pk.same.2] at z; exact z
    have gbt : ¬ G.bw t := fun z => t2 (R1.bwS t (by rw [pk.same.2]; exact z))
    have pt := pk.pinT (o := .lst vs) t1 t2
    have g0t : G.H0 t = none := by
      cases z : G.H0 t with
      | none => rfl
      | some o => rw [pk.same.1 t o z] at t1; cases t1
    have gft : ¬ G.fb t := fun z => by
      obtain ⟨o, z⟩ := R.fbS t z
      by_cases hFb : Fb G.fb ρ loc t
      · have hn := R1.notFb ht
        obtain ⟨_, s⟩ := pk.off R.bwS R1
        exact hn (s t (.inl (by assumption)))
      · exact hFb (.inl (by assumption))
    have hbT : ∀ b, (G.pin t (.lst vs)).bw b → (G.pin t (.lst vs)).fb b := fun b z => .inl (R.bwS b z)
    -- back to the frame
    have back : ∀ {ρ' : List Slot} {loc' : Nat → Addr} {σ' : L2.St} {H' : Hp}, Rep X.K (G.pin t (.lst vs)) ρ' loc' σ' H' → Rep X.K G ρ' loc' σ' H' ∧ ¬ Fb G.fb ρ' loc' t ∧ H' t = some (.lst vs) := fun {ρ' loc' σ' H'} R' => by
      obtain ⟨R2, e2⟩ := R'.unpin g0t gbt
      obtain ⟨R3, n3⟩ := R2.unplus R.bwS gft
      exact ⟨R3, n3, e2⟩
    have offA : ∀ {ρ' : List Slot} {loc' : Nat → Addr} {σ' : L2.St} {H' : Hp}, Rep X.K (G1.pin t (.lst vs)) ρ' loc' σ' H' → Rep X.K G ρ' loc' σ' H' ∧ (∀ b, Fb G.fb ρ' loc' b → Fb (G1.pin t (.lst vs)).fb ρ' loc' b) ∧ ¬ Fb G.fb ρ' loc' t ∧ H' t = some (.lst vs) := fun {ρ' loc' σ' H'} R' => by
      obtain ⟨R2, s2⟩ := pt.off hbT R'
      obtain ⟨R3, n3, e3⟩ := back R2
      exact ⟨R3, fun b z => s2 b (Fb.plus_sub b z), n3, e3⟩
    have gA : Grow (Fb G.fb ρ loc) (Fb (G1.pin t (.lst vs)).fb (ρ1.set i (.dat (.dict (adrD t)))) loc) H (upd H1 t (.lst vs)) := (g1.trans gT).trans put_grow
    have gB : Grow (Fb G1.fb ρ1 loc) (Fb (G1.pin t (.lst vs)).fb (ρ1.set i (.dat (.dict (adrD t)))) loc) H1 (upd H1 t (.lst vs)) := gT.trans put_grow
    have lr : ∀ {ρa : List Slot} {loca : Nat → Addr} {Ha : Hp}, Grow (Fb G.fb ρ loc) (Fb (G1.pin t (.lst vs)).fb ρa loca) H Ha → LandsR X.K (G1.pin t (.lst vs)) loca ρa Ha kk.rt E.rt := fun {ρa loca Ha} ga b d ρ' loc' σ' v H' R' g' dx nw q => by
      obtain ⟨R2, s2, _⟩ := offA R'
      refine l2 b d ρ' loc' σ' v H' R2 ((ga.trans g').weak s2) (dx.weak s2) (fun hb => ?_) q
      obtain ⟨pp, ws, xs, a1, a2, a3, a4, a5⟩ := (nw hb).weak s2
      refine ⟨pp, ws, xs, a1, a2, ?_, a4, a5⟩
      cases z : G.H0 pp with
      | none => rfl
      | some o =>
        have : upd G1.H0 t (.lst vs) pp = some o := upd_more t1 pp o (pk.same.1 pp o z)
        rw [show upd G1.H0 t (.lst vs) pp = none from a3] at this; cases this
    refine ⟨G1.pin t (.lst vs), loc, _, _, Rp, q1 t, fun ρ2 loc2 σ2 H2 R2 g2 q2 => ?_, lr gA, fun _ _ _ _ _ _ z => z.elim, fun _ _ _ _ _ _ z => z.elim⟩
    refine ⟨G1.pin t (.lst vs), loc2, ρ2, R2, ha.mono ρ2 _ _ (fun ds ρ3 q3 ws H3 R3 g3 d3 => ?_) q2⟩
    obtain ⟨due, rfl, hi3, q3⟩ := q3
    obtain ⟨v1, v2, rfl, dx1, dx2⟩ := dx_two d3
    have := dx1.adrA
    subst this
    obtain ⟨Ro, so, nt, et⟩ := offA R3
    have rd := (pt.read xss rfl hbT R3 ((gB.trans g2).trans g3)).weak (F' := Fb G.fb ρ3 loc2) Fb.plus_sub
    refine ⟨Fb G.fb ρ3 loc2, [.list (xss.map PyData.list), due], Ro.fbE, .cons (.lst nt et rd) (.cons (dx2.weak so) .nil), rfl, mF _ _ _ (fun b d q4 v H4 m4 d4 _ => ?_) q3⟩
    obtain ⟨b, rfl, q4⟩ := q4
    cases d4
    refine ⟨b, rfl, ?_⟩
    have R4 := R3.more m4
    have gF4 := ((gB.trans g2).trans g3).trans (more_grow m4)
    have gG4 := ((gA.trans g2).trans g3).trans (more_grow m4)
    cases b with
    | false =>
      rw [if_neg Bool.false_ne_true] at q4
      exact ⟨_, loc2, ρ3, _, R4, q4, fun _ _ _ _ _ _ z => z.elim, lr gG4, fun _ _ _ _ _ _ z => z.elim, fun _ _ _ _ _ _ z => z.elim⟩
    | true =>
      rw [if_pos rfl] at q4
      obtain ⟨vt, ht1, ht2⟩ := R4.dat i _ hi3
      have := ht2.adrA
      subst this
      obtain ⟨_, _, _, et4⟩ := offA R4
      refine ⟨.ref t, ht1, t, rfl, ⟨vs, .inl (.inl et4)⟩, fun idx m σ' H' => ∃ (loc' : Nat → Addr) (ρ' : List Slot) (Gk : Fr), m = vs.length - idx ∧ Rep X.K Gk ρ' loc' σ' H' ∧
        PutsOk X.K H1 (Fb G1.fb ρ1 loc) (G.pin t (.lst vs)) Gk (vs.drop idx) ((xss.drop idx).map Put.n) ∧ Grow (Fb G1.fb ρ1 loc) (Fb Gk.fb ρ' loc') H1 H' ∧ Grow (Fb G.fb ρ loc) (Fb Gk.fb ρ' loc') H H' ∧ nestLoop j mb (mR kk) (xss.drop idx) ρ',
        ⟨_, loc2, ρ3, _, rfl, R4, pt, gF4, gG4, q4⟩, ?_⟩
      rintro idx m σ5 H5 ⟨loc5, ρ5, Gk, hm5, R5, p5, gF5, gG5, q5⟩
      obtain ⟨Rt5, st5⟩ := p5.off hbT R5
      obtain ⟨Rb5, nb5, et5⟩ := back Rt5
      have lenE : vs.length = xss.length := by have := pk.len; simpa using this
      cases hv5 : vs[idx]? with
      | none =>
        have hl5 : vs.length ≤ idx := List.getElem?_eq_none_iff.mp hv5
        rw [List.drop_eq_nil_of_le (by omega)] at q5
        have gE := gG5.weak fun b z => st5 b (Fb.plus_sub b z)
        exact .inl ⟨⟨vs, .inl (.inl et5), hl5⟩, G, loc5, ρ5, kk, Rb5, q5, l1.on gE, l2.on gE, l3.on gE, l4.on gE⟩
      | some v =>
        obtain ⟨hl5, hv5'⟩ := List.getElem?_eq_some_iff.mp hv5
        have ev : vs.drop idx = v :: vs.drop (idx + 1) := by rw [← hv5']; exact List.drop_eq_getElem_cons hl5
        have ex : xss.drop idx = xss[idx]'(by omega) :: xss.drop (idx + 1) := List.drop_eq_getElem_cons (by omega)
        rw [ev, ex, List.map_cons] at p5
        rw [ex] at q5
        generalize xss[idx]'(by omega) = xs at p5 q5
        cases p5 with
        | @n _ _ pp ws _ _ _ hq0 nq hq dx r =>
          obtain ⟨G2, rfl, r2, h20, n2⟩ := r.first hq0 nq
          have bw2 : ∀ b, G2.bw b → G2.fb b := fun b z => by
            rcases R5.bwS b z with z' | z'
            · exact z'
            · have e1 : G2.bw = (G.pin t (.lst vs)).bw := r2.same.2
              rw [e1, z'] at z
              exact (nq (hbT pp z)).elim
          obtain ⟨R6, e6⟩ := R5.unpin h20 fun z => n2 (bw2 _ z)
          have R7 := R6.putN bw2 h20 n2 j e6 (dx.g gF5)
          refine .inr ⟨⟨vs, _, .inl (.inl et5), hv5⟩, fun σ' H' => ∃ (loc' : Nat → Addr) (ρ' : List Slot), Rep X.K G2 ρ' loc' σ' H' ∧ Grow (Fb G1.fb ρ1 loc) (Fb G2.fb ρ' loc') H1 H' ∧ Grow (Fb G.fb ρ loc) (Fb G2.fb ρ' loc') H H' ∧ nestLoop j mb (mR kk) (xss.drop (idx + 1)) ρ',
            fun σ' H' ⟨loc', ρ', a1, a2, a3, a4⟩ => ⟨_, by omega, loc', ρ', G2, rfl, a1, r2, a2, a3, a4⟩, fun z H6 hz => ?_⟩
          obtain ⟨rfl, hz⟩ := hz
          have := hz vs (.inl (.inl et5))
          rw [hv5] at this
          cases this
          have gF6 := gF5.weak fun b z => Fb_putN (ds := xs) (i := j) b z
          have gG6 := gG5.weak fun b z => Fb_putN (ds := xs) (i := j) b z
          have ln : Lands X.K G2 (lset loc5 j pp) (ρ5.set j (.own false xs)) H6 (nestLoop j mb (mR kk) (xss.drop (idx + 1))) (fun σ' H' => ∃ (loc' : Nat → Addr) (ρ' : List Slot), Rep X.K G2 ρ' loc' σ' H' ∧ Grow (Fb G1.fb ρ1 loc) (Fb G2.fb ρ' loc') H1 H' ∧ Grow (Fb G.fb ρ loc) (Fb G2.fb ρ' loc') H H' ∧ nestLoop j mb (mR kk) (xss.drop (idx + 1)) ρ') :=
            fun ρ8 loc8 σ8 H8 R8 g8 q8 => ⟨loc8, ρ8, R8, gF6.trans g8, gG6.trans g8, q8⟩
          exact ⟨G2, _, _, _, R7, q5, ln, fun _ _ _ _ _ _ _ _ _ _ _ z => z.elim, fun _ _ _ _ _ _ z => z.elim, ln⟩
end
end DL

/-! a + b of lists, as a new list -/
namespace DL
open PySem L2
def addN : D → D → (List D → Prop) → Prop
  | .list xs, .list ys, k => xs.length + ys.length ≤ sizeLine ∧ k (xs ++ ys)
  | _, _, _ => False
theorem addN_ll {xs ys : List D} {k : List D → Prop} : addN (.list xs) (.list ys) k = (xs.length + ys.length ≤ sizeLine ∧ k (xs ++ ys)) := rfl
theorem reprD_t {xs : List D} {k : D → Prop} : reprD [.tuple xs] k = (Shows (.tuple xs) ∧ k (.str (PyData.tuple xs).shown)) := rfl
theorem reprD_l {xs : List D} {k : D → Prop} : reprD [.list xs] k = (Shows (.list xs) ∧ k (.str (PyData.list xs).shown)) := rfl
theorem mulD_li {xs : List D} {j : Int} {k : D → Prop} : mulD (.list xs) (.int j) k = ((-(2 ^ 63) ≤ j ∧ j < 2 ^ 63 ∧ xs.length * j.toNat ≤ sizeLine) ∧ k (.list (List.replicate j.toNat xs).flatten)) := rfl
def mAddN (ma mb : M D) : M (List D) := fun ρ k => ma ρ fun a ρ1 => mb ρ1 fun b ρ2 => addN a b fun ds => k ds ρ2
section
variable {X : Cx} {a b : Expr} {ma mb : M D} {pos : Pos}
theorem nm_add (ha : EM X a ma) (hb : EM X b mb) : NM X (.BinOp a .Add b pos) (mAddN ma mb) := by
  refine ⟨fun ρ k k' w q => ha.mono ρ _ _ (fun d ρ1 q1 => hb.mono ρ1 _ _ (fun e ρ2 q2 => ?_) q1) q, pe_weak (pe_op op_cat ha.run hb.run) ?_⟩
  · cases d <;> cases e <;> first | exact q2.elim | exact ⟨q2.1, w _ _ q2.2⟩
  · rintro σ H Q ⟨G, loc, ρ, R, q⟩
    refine ⟨G, loc, ρ, R, ha.mono ρ _ _ (fun d ρ1 q1 v H1 R1 g1 d1 => ?_) q⟩
    refine ⟨G, loc, ρ1, R1, hb.mono ρ1 _ _ (fun e ρ2 q2 u H2 R2 g2 d2 => ?_) q1⟩
    cases d <;> cases e <;> first | exact (show False from q2).elim | skip
    obtain ⟨p, xs, rfl, e1, n1, dx⟩ := (d1.g g2).sql
    obtain ⟨p2, ys, rfl, e2, n2, dy⟩ := d2.sql
    refine ⟨p, p2, xs, ys, rfl, rfl, e1, e2, by rw [dx.length, dy.length]; exact q2.1, fun pp hp => ?_⟩
    obtain ⟨a1, a2, a3, a4, a5, a6⟩ := new_list R2 (dx.append dy) hp
    exact q2.2 pp _ _ a1 a2 a3 a4 ((g1.trans g2).trans a5) a6
theorem mReverse_own {i : Nat} {b : Bool} {bs : List D} {ρ : List Slot} {k : D → List Slot → Prop} (h : ρ[i]? = some (.own b bs)) : mReverse i ρ k = k .none (ρ.set i (.own b bs.reverse)) := by
  unfold mReverse withOwn; rw [h]
end
section
variable {X : Cx} {i : Nat} {x : Str} {p apos cpos : Pos}
theorem em_reverse (hv : PE X (.Name x p) (tVar i))
    (hbase : attributeBase (.Name x p) "reverse" X.env (eval (.Name x p) X.env) = eval (.Name x p) X.env := by rfl) (hline : (apos.endLine == cpos.line) = true := by rfl) :
    EM X (.Call (.Attribute (.Name x p) "reverse" apos) [] [] cpos) (mReverse i) := by
  refine ⟨fun ρ k k' w q => q.mono fun b bs q => w _ _ q, pe_weak (pe_bm0 PySem.F.plainAttrs_list PySem.F.slot_list_reverse PySem.F.type_list_reverse mt_reverse hv hbase hline) ?_⟩
  rintro σ H Q ⟨G, loc, ρ, R, q⟩
  obtain ⟨b, bs, e0, q⟩ := q.get
  obtain ⟨h1, ws, h2, h3⟩ := R.own i b bs e0
  obtain ⟨R2, g2⟩ := R.wr e0 h3.rev
  exact ⟨_, h1, .inl ⟨rfl, ws, .inl (.inl h2)⟩, loc i, ws, rfl, rfl, h2, q _ _ R2 g2 .non⟩
end
end DL

/-! what is shown is a text of good signs -/
namespace DL
open PySem L2 PyData
theorem okC {x : Str} : strOk x = true ↔ ∀ c ∈ x.cps.toList, c < 0x110000 := by
  unfold strOk
  rw [← Array.all_toList, List.all_eq_true]
  exact ⟨fun h c hc => of_decide_eq_true (h c hc), fun h c hc => decide_eq_true (h c hc)⟩
theorem ok_ofString (s : String) : strOk (Str.ofString s) = true := by
  rw [okC, Str.ofString_eq_toList]
  intro c hc
  obtain ⟨ch, _, rfl⟩ := List.mem_map.mp hc
  have := ch.valid
  simp only [UInt32.isValidChar, Nat.isValidChar] at this
  show ch.val.toNat < 0x110000
  omega
theorem ok_app {x y : Str} (a : strOk x = true) (b : strOk y = true) : strOk (x ++ y) = true := by
  rw [okC] at *
  intro c hc
  have e : (x ++ y).cps.toList = x.cps.toList ++ y.cps.toList := by
    show (x.cps ++ y.cps).toList = _
    simp
  rw [e, List.mem_append] at hc
  exact hc.elim (a c) (b c)
theorem ok_join {sep : Str} (hs : strOk sep = true) : ∀ {ts : List Str}, (∀ t ∈ ts, strOk t = true) → strOk (Str.join sep ts) = true
  | [], _ => (show strOk Str.empty = true by decide +kernel)
  | [x], h => h x (by simp)
  | x :: y :: r, h => by
    show strOk (x ++ sep ++ Str.join sep (y :: r)) = true
    exact ok_app (ok_app (h x (by simp)) hs) (ok_join hs fun t ht => h t (by simp [List.mem_cons.mp ht]))
theorem ok_reprChar {q c : Nat} (h : c < 0x110000) : ∀ d ∈ Builtin.Str.reprChar q c, d < 0x110000 := by
  have hex : ∀ w : Nat, ∀ d ∈ (List.replicate (w - ((Nat.toDigits 16 c).map Char.toNat).length) 48 ++ (Nat.toDigits 16 c).map Char.toNat), d < 0x110000 := by
    intro w d hd
    rcases List.mem_append.mp hd with hd | hd
    · rw [List.eq_of_mem_replicate hd]; decide
    · obtain ⟨ch, _, rfl⟩ := List.mem_map.mp hd
      have := ch.valid
      simp only [UInt32.isValidChar, Nat.isValidChar] at this
      show ch.val.toNat < 0x110000
      omega
  have two : ∀ a b : Nat, a < 0x110000 → b < 0x110000 → ∀ d ∈ [a, b], d < 0x110000 := by
    intro a b ha hb d hd
    rcases List.mem_cons.mp hd with rfl | hd
    · exact ha
    · rw [List.mem_singleton.mp hd]; exact hb
  unfold Builtin.Str.reprChar
  dsimp only
  intro d hd
  split at hd
  · exact two _ _ (by decide) h d hd
  split at hd
  · exact two _ _ (by decide) (by decide) d hd
  split at hd
  · exact two _ _ (by decide) (by decide) d hd
  split at hd
  · exact two _ _ (by decide) (by decide) d hd
  split at hd
  · rw [List.mem_singleton.mp hd]; exact h
  split at hd
  · exact (List.mem_append.mp hd).elim (two _ _ (by decide) (by decide) d) (hex _ d)
  split at hd
  · exact (List.mem_append.mp hd).elim (two _ _ (by decide) (by decide) d) (hex _ d)
  · exact (List.mem_append.mp hd).elim (two _ _ (by decide) (by decide) d) (hex _ d)
theorem ok_repr {x : Str} (h : strOk x = true) : strOk (reprText x) = true := by
  have hq : reprQuote x < 0x110000 := by unfold reprQuote; split <;> decide
  rw [okC] at h ⊢
  have fold : ∀ (l : List Nat) (acc : Array Nat), (∀ c ∈ l, c < 0x110000) → (∀ c ∈ acc.toList, c < 0x110000) → ∀ c ∈ (l.foldl (fun out c => out ++ (Builtin.Str.reprChar (reprQuote x) c).toArray) acc).toList, c < 0x110000 := by
    intro l
    induction l with
    | nil => exact fun acc _ ha => ha
    | cons a l ih =>
      intro acc hl ha
      rw [List.foldl_cons]
      refine ih _ (fun c hc => hl c (by simp [hc])) fun c hc => ?_
      rw [Array.toList_append, List.mem_append] at hc
      exact hc.elim (ha c) (ok_reprChar (hl a (by simp)) c)
  intro c hc
  unfold reprText at hc
  rw [Array.toList_push, List.mem_append] at hc
  rcases hc with hc | hc
  · rw [← Array.foldl_toList] at hc
    exact fold _ _ h (fun c hc => by rw [show c = reprQuote x by simpa using hc]; exact hq) c hc
  · rw [List.mem_singleton.mp hc]; exact hq
mutual
theorem ok_shown : ∀ d : PyData, d.canLay0 = true → strOk d.shown = true
  | .none, _ => by rw [shown_none]; exact ok_ofString _
  | .bool b, _ => by rw [shown_bool]; cases b <;> exact ok_ofString _
  | .int i, _ => by rw [shown_int]; exact ok_ofString _
  | .str x, h => by rw [shown_str]; exact ok_repr (by simpa [canLay0] using h)
  | .list xs, h => by
    rw [shown_list]
    exact ok_app (ok_app (ok_ofString _) (ok_join (ok_ofString _) (ok_shownAll xs (by simpa [canLay0] using h)))) (ok_ofString _)
  | .tuple xs, h => by
    rw [shown_tuple]
    exact ok_app (ok_app (ok_ofString _) (ok_join (ok_ofString _) (ok_shownAll xs (by simpa [canLay0] using h)))) (ok_ofString _)
  | .dict _, h => by simp [canLay0] at h
theorem ok_shownAll : ∀ xs : List PyData, canLayAll0 xs = true → ∀ t ∈ shownAll xs, strOk t = true
  | [], _ => by simp [shownAll]
  | x :: xs, h => by
    have h' : x.canLay0 = true ∧ canLayAll0 xs = true := by simpa [canLayAll0] using h
    intro t ht
    rw [shownAll_cons] at ht
    rcases List.mem_cons.mp ht with rfl | ht
    · exact ok_shown x h'.1
    · exact ok_shownAll xs h'.2 t ht
end
end DL

/-! A caught exception that a name holds behind the suite. -/
namespace DL
open PySem PySem.Spec PyProof.Rows L2
theorem exK_ok {P : Program} {w : World} {H : Hp} {h : Heap} {a : Addr} {cls : Value} {d : Option Addr} {oe : Obj} {vs : Array Value} (e : h.get? a = some oe) (z : Zc cls d oe) (q : oe.data = .fields vs) : ObjOk P w H h a (exK cls d a) :=
  ⟨⟨oe, vs, e, z, q⟩, ⟨oe, e⟩, fun _ _ ⟨o, v, x, y⟩ k => ⟨o, v, k o x, y⟩⟩
section
variable {X : Cx} {pins : List (Addr × Obj)} {σ : L2.St} {H : Hp} {s : Shared} {a : Addr} {φ : Heap → Prop}
/-- an object that was not tracked is, from here on -/
theorem adopt (J : Inv X pins σ H s) (na : H a = none) (n0 : X.s_0.heap.get? a = none) (nL : a ≠ X.env.locals) (nP : ∀ p ∈ X.pn ++ pins, p.1 ≠ a) (nC : ∀ x c, X.env.cells.lookup x = some c → c ≠ a)
    (ob : ObjOk X.prog X.w (upd H a (.ext φ)) s.heap a (.ext φ)) : Inv X pins σ (upd H a (.ext φ)) s := by
  have nb : ∀ {b : Addr} {u : Obj}, X.s_0.heap.get? b = some u → b ≠ a := fun {b u} e z => by
    rw [z, n0] at e
    cases e
  have nh : ∀ {b : Addr} {u : HO}, H b = some u → b ≠ a := fun {b u} e => ne_of_none e na
  have base : Un X.fs X.ex X.H_0 (upd H a (.ext φ)) X.s_0.heap s.heap := by
    refine ⟨J.base.keep, J.base.slot, ?_, J.base.there, ?_, ?_, ?_⟩
    · intro b u e q r
      rw [upd_ne (nb e)]
      exact J.base.free b u e q r
    · intro b xs e
      have q := J.base.tups b xs e
      rw [upd_ne (nh q)]
      exact q
    · intro b u xs e
      have q := J.base.frzs b u xs e
      rw [upd_ne (nh q)]
      exact q
    · intro b ps e
      obtain ⟨m, q⟩ := J.base.tbls b ps e
      refine ⟨m, ?_⟩
      rw [upd_ne (nh q)]
      exact q
  have hok : HOk X.prog X.w (upd H a (.ext φ)) s.heap := by
    intro b u e
    by_cases hb : b = a
    · subst hb
      rw [upd_same] at e
      cases e
      exact ob
    · rw [upd_ne hb] at e
      refine (J.hok b u e).stay (fun _ _ _ q => q) (fun c q => ?_) fun c xs q => ?_
      · rw [upd_ne (nh q)]
        exact q
      · rw [upd_ne (nh q)]
        exact q
  refine ⟨J.ok, J.os, J.bare, base, J.loc, J.cell, ?_, ?_, ?_, hok, J.len⟩
  · rw [upd_ne (Ne.symm nL)]
    exact J.free
  · intro x c e
    rw [upd_ne (nC x c e)]
    exact J.freeC x c e
  · intro p hp
    obtain ⟨z1, z2, z3⟩ := J.pin p hp
    refine ⟨z1, ?_, z3⟩
    rw [upd_ne (nP p hp)]
    exact z2
end
/-- what 'except C as n' wishes, its suite ending with the exception held on -/
def wKeep (K : PySem.W.Frag) (c : Value) (i : Nat) (ts : Addr → Value → Option Addr → TS) (D : Ends) : WX := fun cls d σ H => PySem.W.exmOne K cls c = some true ∧ ∀ a, H a = none →
  ts a cls d { nx := fun σ' H' => D.nx (σ'.set i none) (upd H' a (exK cls d a)), rt := fun _ _ => False, bk := fun _ _ => False, ct := fun _ _ => False } (σ.set i (some (.ref a))) H
section
variable {X : Cx} {x n : Str} {c : Value} {i : Nat} {body suite : List Stmt} {b₀ : Stmt} {np pos pos' : Pos} {tb : WX → TS} {ts : Addr → Value → Option Addr → TS}
theorem ps_try_keep (hx : X.ex = []) (hs : X.stack = X.env :: X.outer) (hf : X.env.frame = some X.env.locals) (hN : X.N.Nodup) (hi : X.N[i]? = some n) (hln : X.env.kindOf n = some .local) (hc : Names X x c)
    (hb : ∀ (W : WX) (pn : List (Addr × Obj)) (xe : Value → Shared → Prop), Takes (X.tr pn xe) W → PassesOwn (model X.prog X.w) X.A X.env xe → PSs (X.tr pn xe) body (tb W))
    (hsu : ∀ (a : Addr) (oe : Obj) (cls : Value) (d : Option Addr) (pn : List (Addr × Obj)), Zc cls d oe → (∃ vs, oe.data = .fields vs) → PSs (X.suite a ((a, oe) :: pn)) (b₀ :: suite) (ts a cls d)) :
    PS X (.Try body [.ExceptHandler (some (.Name x np)) (some n) (b₀ :: suite) pos'] [] [] pos) (fun D σ H => tb (wKeep X.K c i ts D) D σ H) := by
  constructor
  intro pins s σ H D I h
  have ok := I.ok
  have frames : X.A.frames = some (X.env :: X.outer) := ok.frames.trans (congrArg some hs)
  have isLoc : Loc X.env.scope n := .inl hln
  have run := (hb (wKeep X.K c i ts D) (X.pn ++ pins)
    (fun e t1 => wpAny (model X.prog X.w) X.A (noteFrame e X.env)
      (fun _ t2 => wpAny (model X.prog X.w) X.A (setFlight e none)
        (fun _ t3 => wpAny (model X.prog X.w) X.A
          (handleBy e X.env [.ExceptHandler (some (.Name x np)) (some n) (b₀ :: suite) pos'])
          (SP X pins D) X.xe t3) X.xe t2) X.xe t1) ?_ PassesOwn.looking).run [] s σ H D (I.toTry _) h
  · refine wpAny_Try_except (wpAny_mono run (fun f t hsp => ?_) fun _ _ z => z)
    match f, hsp with
    | .next, ⟨σ1, H1, J1, q⟩ => exact wpAny_execs_nil ⟨σ1, H1, J1.ofTry ok, q⟩
    | .brk, ⟨σ1, H1, J1, q⟩ => exact ⟨σ1, H1, J1.ofTry ok, q⟩
    | .cont, ⟨σ1, H1, J1, q⟩ => exact ⟨σ1, H1, J1.ofTry ok, q⟩
    | .ret u, ⟨v, σ1, H1, J1, r, q⟩ => exact ⟨v, σ1, H1, J1.ofTry ok, r, q⟩
  · rintro u t ⟨a, B, sI, pins1, σ1, H1, cls, d, rfl, J0, nb, up, sky, na, os, ag, yes, go⟩
    have J := J0.ofTry (pins := pins) ok
    rw [hs] at sky
    show wpAny (model X.prog X.w) X.A (noteFrame (.ref a) X.env) _ _ _
    refine Sky.land Zc.steady frames hf sky fun ha fa ua => ?_
    have Ja : Inv X pins σ1 H1 { t with heap := ha } := J.landed nb fa.1 (up.trans ua) os ag
    obtain ⟨oa, va, ea, za, da⟩ := fa.there
    have Bn : B.get? a = none := fa.2.1
    -- not among the frames
    have notin : a ∉ frs (X.env :: X.outer) := fun hm => by
      obtain ⟨_, o1, e1, nf⟩ := fa.2.2.1.mem hm
      rw [ea] at e1
      cases e1
      exact nf _ da
    have nL : a ≠ X.env.locals := fun z => notin (List.mem_filterMap.mpr ⟨X.env, by simp, by rw [hf, z]⟩)
    have nF : a ∉ X.fs := fun hm => by
      obtain ⟨e, he, q⟩ := List.mem_filterMap.mp hm
      exact notin (List.mem_filterMap.mpr ⟨e, by simp [he], q⟩)
    have nI : sI.heap.get? a = none := by
      cases z : sI.heap.get? a with
      | none => rfl
      | some o =>
        have := nb a o z (by rw [hs]; exact notin)
        rw [Bn] at this
        cases this
    have n0 : X.s_0.heap.get? a = none := by
      cases z : X.s_0.heap.get? a with
      | none => rfl
      | some o =>
        obtain ⟨o1, z1⟩ := J.base.there a o z (by rw [hx]; exact fun z => nomatch z)
        rw [nI] at z1
        cases z1
    have nP : ∀ p ∈ X.pn ++ pins, p.1 ≠ a := fun p hp z => by
      have z1 := (J.pin p hp).1
      rw [z, nI] at z1
      cases z1
    have nC : ∀ y k, X.env.cells.lookup y = some k → k ≠ a := fun y k e z => by
      obtain ⟨v, o, z1, _⟩ := J.cell y k e
      rw [z, nI] at z1
      cases z1
    have Sa := Ja.suite ea da na nL nF
    refine wpAny_handleBy_cons (codeAny_handlers_test ?_) fun q => nomatch q
    have types : PySem.W.Looks (model X.prog X.w) ha (typeOf (.ref a)) cls := fun A Q E s k q => by
      refine wpAny_typeOf_ref (k _ _ ea) ?_
      rw [za.1]
      exact q
    have match1 := PySem.W.exm_one (M := model X.prog X.w) Ja.kIn types yes
    have cName : ∀ {Q : Value → Shared → Prop} {E : Value → Shared → Prop}, Q c { t with heap := ha } → wpAny (model X.prog X.w) (X.A.mark (some (.ref a))) (eval (.Name x np) X.env) Q E { t with heap := ha } := by
      intro Q E q
      obtain ⟨hg, hd, gl | ⟨gl, bt, ne⟩⟩ := hc
      · exact ld_glob (X := X.suite a ((a, oa) :: (X.pn ++ pins))) Sa hg gl q hd
      · exact ld_blt (X := X.suite a ((a, oa) :: (X.pn ++ pins))) Sa hg gl bt q ne hd
    refine cName (match1.here (codeAny_handlers_suite_as (HandSPX.lands_againZ fa fun hb fb ub => ?_)))
    have Jb : Inv X pins σ1 H1 { t with heap := hb } := J.landed nb fb.1 ((up.trans ua).trans ub) os ag
    obtain ⟨ob, vb, eb, zb, db⟩ := fb.there
    have Sb := Jb.suite eb db na nL nF
    refine store_ok (X := X.suite a ((a, ob) :: (X.pn ++ pins))) (v := .ref a) Sb hN hi isLoc rfl (fun s5 S5 => ?_) (.inr hln)
    have R := (hsu a ob cls d (X.pn ++ pins) zb ⟨_, db⟩).run [] s5 _ H1 _ S5 (go a na)
    refine wpAny_mono R (fun f s6 hsp => ?_) fun _ _ z => z.elim
    match f, hsp with
    | .next, ⟨σ6, H6, S6, q6⟩ =>
      obtain ⟨e6, m6, _⟩ := S6.pin (a, ob) (by simp)
      have A6 := adopt (S6.unsuite ok) m6 n0 nL nP nC (exK_ok (cls := cls) (d := d) e6 zb db)
      exact gone_ok A6 hN hi hln fun s7 J7 => ⟨_, _, J7, q6⟩
    | .brk, ⟨_, _, _, z⟩ => exact z.elim
    | .cont, ⟨_, _, _, z⟩ => exact z.elim
    | .ret _, ⟨_, _, _, _, _, z⟩ => exact z.elim
end
end DL

/-! An own exception class whose __init__ calls ValueError's and keeps what it is given. -/
namespace DL
open PySem PySem.Spec PyProof.Rows L2
/-- what is written of it -/
structure XCls (K : PySem.W.Frag) (mg : Str → Option Value) (x qual : Str) (C fI : Addr) (fd : FuncData) (st : Stmt) : Prop where
  at_ : FnAt K x C
  gC : mg x = some (.ref C)
  oex : OexC K C
  iC : PySem.W.findIn K (.ref C) "__init__" = some (some (.ref fI))
  tI : PySem.W.typeIn K (.ref fI) = some (.type "function")
  no : PySem.W.findIn K (.ref C) "what" = some none
  xf : XfC K C
  ex : PySem.W.exmOne K (.ref C) (.ref C) = some true
  fn : Fun K "__init__" qual st fI fd
  bi : Binds K fd ["self", "what"] []
  nV : mg "ValueError" = none
  vV : PySem.W.findCls K (.type "ValueError") (.type "type") "__init__" = some (.val (.builtin "ValueError.__init__"))
def spInit (K : PySem.W.Frag) : Sp := fun vs H Q _ => ∃ (a C : Addr) (v : V), vs = [.ref a, v] ∧ OexC K C ∧ PySem.W.findIn K (.ref C) "what" = some none ∧ H a = some (exo a C none) ∧
  ∀ dx, H dx = none → dx ≠ a → Q .non (upd (upd H dx (exd dx [("what", v)])) a (exo a C (some dx)))
section
variable {P : Program} {w : World} {K : PySem.W.Frag} {mg : Str → Option Value} {base : Heap} {x qual msg : Str} {C fI : Addr} {fd : FuncData} {st : Stmt} {k : Nat}
def tInit (K : PySem.W.Frag) (msg : Str) : TS := tSeq (tDrop (tVeI K (tCons (tVar 0) (tCons (tC (.str msg)) tNil)))) (tOst K "what" (tVar 0) (tVar 1))
theorem init_ok (F : Fun K "__init__" qual st fI fd) (S : FnScope ["self", "what"] ["self", "what"] (defScope st))
    (hb : ∀ (cdv : Value) (A : Around) (outer : List Env) (s : Shared) (H : Hp) (E : XK), PSs (cxOf CX0 P w K mg base ["self", "what"] qual (defScope st) fI cdv A outer s H E).nox (defBody st) (tInit K msg)) :
    FnOk P w K mg base CX0 (k + 1) fI fd ["self", "what"] (spInit K) := by
  refine F.ok S (fun vs H Q E h => ?_) (fun cdv A outer s H vs Q E hr h => ⟨_, hb cdv A outer s H E, ?_⟩)
  · obtain ⟨a, C, v, rfl, _⟩ := h
    rfl
  · obtain ⟨a, C', v, rfl, oex, no, ha, q⟩ := h
    refine ⟨.ref a, rfl, a, C', [.str msg], rfl, by simp, oex, ha, ?_⟩
    exact ⟨v, rfl, .ref a, rfl, a, C', rfl, oex, no, .inl ⟨ha, fun dx hd ne => q dx hd ne⟩⟩
end
/-- an exception's data: plain -/
def flatW : D → Prop
  | .none => True
  | .bool _ => True
  | .int _ => True
  | .str _ => True
  | _ => False
theorem flV_of {K : PySem.W.Frag} {H : Hp} {F : AS} {v : V} {w : D} (f : flatW w) (h : Dx K H F v w) : FlV v w := by
  cases w <;> first | exact f.elim | skip
  · cases h; exact .non
  · cases h; exact .bl _
  · cases h; exact .int _
  · cases h; exact .str _
/-- C(e), made -/
def tMkD (K : PySem.W.Frag) (C : Addr) (m : M (List D)) : L2.St → Hp → XK → Prop := fun σ H Q => ∃ G loc ρ, Rep K G ρ loc σ H ∧ m ρ fun ds ρ1 => ∃ w, ds = [w] ∧ flatW w ∧
  ∀ v dd H1 H3, Rep K G ρ1 loc σ H1 → Grow (Fb G.fb ρ loc) (Fb G.fb ρ1 loc) H H1 → FlV v w → H1 dd = none → H3 dd = some (.xd [("what", v)]) → (∀ c o, H1 c = some o → H3 c = some o) → Q (.ref C) (some dd) H3
section
variable {X : Cx} {x qual : Str} {C fI : Addr} {fd : FuncData} {st : Stmt} {k : Nat} {e : Expr} {ma : M (List D)} {p pos : Pos}
theorem pmk_exc (T : XCls X.K X.mg x qual C fI fd st) (F1 : FnOk X.prog X.w X.K X.mg X.base CX0 k fI fd ["self", "what"] (spInit X.K)) (hr : Room (k + 1) X.A) (hg : Gl X x) (ha : AM X [e] ma)
    (hdb : (x == ("__debug__" : Str)) = false := by decide) (he : starEach (e :: []) X.env = (false, eval e X.env) :: starEach [] X.env := by rfl) (hpl : (backTo pos (starEach [] X.env)).any (·.1) = false := by rfl) :
    PMk X (.Call (.Name x p) [e] [] pos) (tMkD X.K C ma) := by
  have base := pmk_oex (p := p) (pos := pos) (dvs := []) (ds := []) T.oex T.iC T.tI F1 hr T.bi .nil pass0 hg T.gC ha.run hdb he hpl
  intro pins s σ H Q I h
  refine base pins s σ H Q I ?_
  obtain ⟨G, loc, ρ, R, q⟩ := h
  refine ⟨G, loc, ρ, R, ha.mono ρ _ _ (fun ds ρ1 q1 vs H1 R1 g1 d1 => ?_) q⟩
  obtain ⟨w, rfl, fw, q2⟩ := q1
  obtain ⟨v, rfl, dv⟩ := dx_one d1
  refine ⟨by simp, fun a na => ⟨a, C, v, rfl, T.oex, T.no, upd_same, fun dx hd ne => ⟨rfl, dx, [("what", v)], upd_same, ?_, ?_, ?_⟩⟩⟩
  · rw [upd_ne ne, upd_same]
  · rw [upd_ne ne] at hd
    exact hd
  · rw [upd_ne ne] at hd
    refine q2 v dx H1 _ R1 g1 (flV_of fw dv) hd upd_same fun c o e1 => ?_
    have n1 : c ≠ dx := ne_of_none e1 hd
    have n2 : c ≠ a := ne_of_none e1 na
    rw [upd_ne n1, del_ne n2, upd_ne n2, upd_ne n1, upd_ne n2]
    exact e1
end
end DL

/-! Defs that raise at their end; try: f(..) / except C as e: y = e. -/
namespace DL
open PySem PySem.Spec PyProof.Rows L2
section
variable {K : PySem.W.Frag} {G : Fr} {ρ : List Slot} {loc : Nat → Addr} {σ : L2.St} {H : Hp}
/-- a slot of which nothing is known any more -/
theorem Rep.lose (R : Rep K G ρ loc σ H) (i : Nat) (v : Option V) : Rep K G (ρ.set i .non) loc (σ.set i v) H ∧ Grow (Fb G.fb ρ loc) (Fb G.fb (ρ.set i .non) loc) H H := by
  have sub : ∀ a, Fb G.fb (ρ.set i .non) loc a → Fb G.fb ρ loc a := fun a => Fb_put (by intro _ _ z; cases z) a
  have at_ : ∀ {j : Nat} {u : Slot}, (ρ.set i .non)[j]? = some u → u ≠ .non → j ≠ i ∧ ρ[j]? = some u := fun {j u} e h => by
    rcases set_get e with ⟨_, z, _⟩ | z
    · exact absurd z h
    · exact z
  refine ⟨⟨by rw [List.length_set, List.length_set]; exact R.len, fun j d e => ?_, fun j b es e => ?_, fun j l b c es fs e e' z => ?_, fun j es e => ?_, fun j es e => ?_, R.ext, R.fbS, R.bwS, R.raw.put (by intro _ _ z; cases z) (fun b o e n => ⟨e, fun z => n (sub b z)⟩) fun _ _ _ e => e⟩, fun b o e n => ⟨e, fun z => n (sub b z)⟩⟩
  · obtain ⟨hj, e⟩ := at_ e (fun z => nomatch z)
    obtain ⟨u, x, y⟩ := R.dat j d e
    exact ⟨u, by rw [List.getElem?_set_ne (Ne.symm hj)]; exact x, y.weak sub⟩
  · obtain ⟨hj, e⟩ := at_ e (fun z => nomatch z)
    obtain ⟨x, ws, y, z⟩ := R.own j b es e
    exact ⟨by rw [List.getElem?_set_ne (Ne.symm hj)]; exact x, ws, y, z.weak sub⟩
  · exact R.apart j l b c es fs (at_ e fun z => nomatch z).2 (at_ e' fun z => nomatch z).2 z
  · exact R.brw j es (at_ e fun z => nomatch z).2
  · exact R.new j es (at_ e fun z => nomatch z).2
end
/-! ### what a def that may raise means -/
abbrev FX := List D → (Bool → D → Prop) → (D → Prop) → Prop
def KxB (C : Addr) (H : Hp) (E : XK) : D → Prop := fun w => ∀ v dd H', (∀ c o, H c = some o → H' c = some o) → FlV v w → H dd = none → H' dd = some (.xd [("what", v)]) → E (.ref C) (some dd) H'
def spX (K : PySem.W.Frag) (n : Nat) (C : Addr) (F : FX) : Sp := fun vs H Q E => ∃ (fb : AS) (ds : List D), (∀ b, fb b → ∃ o, H b = some o) ∧ DxAll K H fb vs ds ∧ ds.length = n ∧ F ds (KdB K fb H Q) (KxB C H E)
def PmX (F : FX) : Prop := ∀ ds (k k' : Bool → D → Prop) (x x' : D → Prop), (∀ b d, k b d → k' b d) → (∀ w, x w → x' w) → F ds k x → F ds k' x'
/-- S1; if t: raise C(w); S2 -/
def fxS (m1 : SMon) (mt : M Bool) (mw : M (List D)) (m2 : SMon) (extra : Nat) : FX := fun ds k kx => m1 ⟨fun ρ => mt ρ fun b ρ1 => if b = true then mw ρ1 fun ws _ => ∃ w, ws = [w] ∧ flatW w ∧ kx w
  else m2 ⟨fun _ => k false .none, fun b d _ => k b d, fun _ => False, fun _ => False⟩ ρ1, fun b d _ => k b d, fun _ => False, fun _ => False⟩ (ds.map Slot.dat ++ List.replicate extra Slot.non)
theorem pm_fxS {m1 m2 : SMon} {mt : M Bool} {mw : M (List D)} (h1 : SMono m1) (ht : Mono mt) (hw : Mono mw) (h2 : SMono m2) (n : Nat) : PmX (fxS m1 mt mw m2 n) := by
  intro ds k k' x x' hk hx q
  refine h1 _ _ _ ?_ q
  refine ⟨fun ρ q => ht _ _ _ (fun b ρ1 q1 => ?_) q, fun _ _ _ q => hk _ _ q, fun _ z => z, fun _ z => z⟩
  cases b with
  | true =>
    rw [if_pos rfl] at q1 ⊢
    exact hw _ _ _ (fun ws _ ⟨w, e, f, q⟩ => ⟨w, e, f, hx w q⟩) q1
  | false =>
    rw [if_neg Bool.false_ne_true] at q1 ⊢
    refine h2 _ _ _ ?_ q1
    exact ⟨fun _ q => hk _ _ q, fun _ _ _ q => hk _ _ q, fun _ z => z, fun _ z => z⟩
section
variable {P : Program} {w : World} {K : PySem.W.Frag} {mg : Str → Option Value} {base : Heap} {x qual : Str} {st : Stmt} {f C : Addr} {fd : FuncData} {N ps : List Str} {k : Nat} {m1 m2 : SMon} {mt : M Bool} {mw : M (List D)} {S1 S2 : Stmt} {t e : Expr} {pr pi : Pos}
theorem fnX (F : Fun K x qual st f fd) (S : FnScope N ps (defScope st)) (hd : defBody st = [S1, .If t [.Raise (some e) none pr] [] pi, S2])
    (h1 : ∀ (cdv : Value) (A : Around) (outer : List Env) (s : Shared) (H : Hp) (E : XK), Rm k (A.deeper (envOfC qual (defScope st) s.heap.objs.size f cdv)) → SM (cxOf (L2.CX P w) P w K mg base N qual (defScope st) f cdv A outer s H E) S1 m1)
    (ht : ∀ (cdv : Value) (A : Around) (outer : List Env) (s : Shared) (H : Hp) (E : XK), Rm k (A.deeper (envOfC qual (defScope st) s.heap.objs.size f cdv)) → TM (cxOf (L2.CX P w) P w K mg base N qual (defScope st) f cdv A outer s H E) t mt)
    (hw : ∀ (cdv : Value) (A : Around) (outer : List Env) (s : Shared) (H : Hp) (E : XK), Rm k (A.deeper (envOfC qual (defScope st) s.heap.objs.size f cdv)) → PMk (cxOf (L2.CX P w) P w K mg base N qual (defScope st) f cdv A outer s H E) e (tMkD K C mw)) (mwm : Mono mw)
    (h2 : ∀ (cdv : Value) (A : Around) (outer : List Env) (s : Shared) (H : Hp) (E : XK), Rm k (A.deeper (envOfC qual (defScope st) s.heap.objs.size f cdv)) → SM (cxOf (L2.CX P w) P w K mg base N qual (defScope st) f cdv A outer s H E) S2 m2) :
    FnG P w K mg base (L2.CX P w) (k + 1) f fd ps (spX K ps.length C (fxS m1 mt mw m2 (N.length - ps.length))) := by
  obtain ⟨oc, od, kV, doc, pm, an, cdv, ct, osl, rfl, look, code⟩ := F.ex
  refine fng_of look code S (fun vs H Q E h => ?_) (fun A outer s H vs Q E hr h => ?_)
  · obtain ⟨fb, ds, _, hd, e, _⟩ := h
    exact hd.len_sp e
  · obtain ⟨fb, ds, hf, dxs, el, q⟩ := h
    have R := rep_start0 (N := N) hf dxs
    rw [el] at R
    have tk : Takes (cxOf (L2.CX P w) P w K mg base N qual (defScope st) f cdv A outer s H E) (fun cls d _ H => E cls d H) := takes_of rfl rfl rfl rfl
    have T := ht cdv A outer s H E hr
    have B2 := h2 cdv A outer s H E hr
    rw [hd]
    refine ⟨_, pss_cons (h1 cdv A outer s H E hr).run (pss_cons (ps_if T.run (pss_one (ps_raise rfl tk (hw cdv A outer s H E hr))) pss_nil) (pss_one B2.run)), ?_⟩
    have old : ∀ {ρ' : List Slot} {loc' : Nat → Addr} {σ' : L2.St} {H' : Hp}, Rep K ⟨H, fb, fun _ => False, fun _ => 0⟩ ρ' loc' σ' H' → ∀ c o, H c = some o → H' c = some o := fun R' c o e => R'.ext c o e fun z => z
    refine ⟨_, _, _, _, R, q, fun ρ1 loc1 σ1 H1 R1 g1 q1 => ?_, ?_, fun _ _ _ _ _ _ z => z, fun _ _ _ _ _ _ z => z⟩
    · refine ⟨_, loc1, ρ1, R1, T.mono _ _ _ (fun b ρ2 q2 H2 R2 g2 => ?_) q1⟩
      cases b with
      | true =>
        rw [if_pos rfl] at q2 ⊢
        refine ⟨_, loc1, ρ2, R2, mwm _ _ _ (fun ws ρ3 ⟨wd, e1, fw, q3⟩ => ⟨wd, e1, fw, fun v dd H3 H4 R3 g3 fl hn e4 k4 => ?_⟩) q2⟩
        refine q3 v dd H4 (fun c o z => k4 c o (old R3 c o z)) fl ?_ e4
        cases z : H dd with
        | none => rfl
        | some o =>
          rw [old R3 dd o z] at hn
          cases hn
      | false =>
        rw [if_neg Bool.false_ne_true] at q2 ⊢
        refine ⟨_, loc1, ρ2, _, R2, q2, ?_, ?_, fun _ _ _ _ _ _ z => z, fun _ _ _ _ _ _ z => z⟩
        · exact fun ρ' loc' σ' H' R' g q => q .non H' (old R') .non (fun z => nomatch z)
        · exact fun b d ρ' loc' σ' v H' R' g dx nw q => q v H' (old R') (dx.weak fun c z => .inl z) fun z => (nw z).weak fun c z => .inl z
    · exact fun b d ρ' loc' σ' v H' R' g dx nw q => q v H' (old R') (dx.weak fun c z => .inl z) fun z => (nw z).weak fun c z => .inl z
end
end DL

/-! try: f(..) / except C as e: y = e; the exception's class, what it has. -/
namespace DL
open PySem PySem.Spec PyProof.Rows L2
section
variable {X : Cx} {CX : CXT} {k : Nat} {f : Addr} {fd : FuncData} {ps : List Str} {sp : Sp} {E : L2.St → XK} {x : Str} {p pos : Pos} {e : Expr} {es : List Expr} {t : TA}
theorem run_gS {pins : List (Addr × Obj)} {σ : L2.St} {H : Hp} {s : Shared} {Q : VK} {us : List Value} {vs : List V} (F : FnG X.prog X.w X.K X.mg X.base CX k f fd ps sp) (hr : Rm k X.A) (hb : Binds X.K fd ps []) (hx : PassesAt CX X σ (E σ))
    (I : Inv X pins σ H s) (r : Vals vs us) (h : sp vs H Q (E σ)) : wpAny (model X.prog X.w) X.A (call (.ref f) us) (EP X pins σ Q) X.xe s := by
  have many : us.length = ps.length := r.length.symm.trans (F.len _ _ _ _ h)
  have bt := hb s us I.kIn (by rw [List.append_nil]; exact many)
  rw [List.append_nil] at bt
  refine wpAny_call (codeAny_mono (F.run X.A X.stack s H ⟨us, []⟩ us vs Q (E σ) hr I.env0 bt r h) ?_)
  intro out s' got
  match out, got with
  | .error z, got => exact hx pins H s z s' I got
  | .ok (.ret u), got => exact I.after got
  | .ok .next, got => exact got.elim
  | .ok .brk, got => exact got.elim
  | .ok .cont, got => exact got.elim
theorem pe_callSG (F : FnG X.prog X.w X.K X.mg X.base CX k f fd ps sp) (hr : Rm k X.A) (hg : Gl X x) (hm : X.mg x = some (.ref f)) (hk : PySem.W.keepIn X.K (.ref f) = true) (hb : Binds X.K fd ps []) (hx : ∀ σ, PassesAt CX X σ (E σ))
    (ha : PA X (e :: es) t) (hdb : (x == ("__debug__" : Str)) = false := by decide) (he : starEach (e :: es) X.env = (false, eval e X.env) :: starEach es X.env := by rfl) (hpl : (backTo pos (starEach es X.env)).any (·.1) = false := by rfl) :
    PE X (.Call (.Name x p) (e :: es) [] pos) (tCallS sp E t) := by
  constructor
  intro pins s σ H Q I h
  refine wpAny_Call_Name_kw (ld_glob I hg hm ?_ hdb)
  refine PySem.W.callWith_K (h₀ := X.base) I.ok.mod.kin hk (thn (ha.run pos pins s σ H _ I h) ?_) he hpl
  rintro us s1 ⟨vs, H1, I1, r, q⟩
  exact ⟨I1.kIn, run_gS F hr hb (hx σ) I1 r q⟩
end
/-- try: f(ds) / except C as n (slot i): y (slot j) = n -/
def sTry (i j n : Nat) (cn : Str) (F : FX) (ma : M (List D)) : SMon := fun k ρ => ma ρ fun ds ρ1 => (ds.length = n ∧ i < ρ1.length) ∧ F ds (fun _ _ => k.nx ρ1) fun w => k.nx ((ρ1.set j (.dat (.dict (excD cn w)))).set i .non)
/-- try: z = f(ds) / .. -/
def sTryA (i j z n : Nat) (cn : Str) (F : FX) (ma : M (List D)) : SMon := fun k ρ => ma ρ fun ds ρ1 => (ds.length = n ∧ i < ρ1.length) ∧ F ds (fun _ d => k.nx (ρ1.set z (.dat d))) fun w => k.nx ((ρ1.set j (.dat (.dict (excD cn w)))).set i .non)
section
variable {X : Cx} {k n i j z : Nat} {f C fI : Addr} {fd fdI : FuncData} {st : Stmt} {ps : List Str} {x cn qual nm y zn : Str} {F : FX} {p pos pe pt ph pc py pn pa pz : Pos} {e : Expr} {es : List Expr} {ma : M (List D)}
/-- behind the suite -/
theorem kept_rep {K : PySem.W.Frag} {G : Fr} {ρ : List Slot} {loc : Nat → Addr} {σ : L2.St} {H H' : Hp} {i j : Nat} {a dd C : Addr} {cn : Str} {v : V} {w : D} (R : Rep K G ρ loc σ H) (hij : i ≠ j) (kk : ∀ c o, H c = some o → H' c = some o) (na : H' a = none) (fl : FlV v w) (hn : H dd = none)
    (e : H' dd = some (.xd [("what", v)])) (at_ : FnAt K cn C) :
    Rep K G ((ρ.set j (.dat (.dict (excD cn w)))).set i .non) loc (((σ.set i (some (.ref a))).set j (some (.ref a))).set i none) (upd H' a (exK (.ref C) (some dd) a)) ∧
      Grow (Fb G.fb ρ loc) (Fb G.fb ((ρ.set j (.dat (.dict (excD cn w)))).set i .non) loc) H (upd H' a (exK (.ref C) (some dd) a)) := by
  have more : ∀ c o, H c = some o → upd H' a (exK (.ref C) (some dd) a) c = some o := fun c o z => upd_more na c o (kk c o z)
  have R1 := R.more more
  have nfa : ¬ Fb G.fb ρ loc a := (R.more kk).notFb na
  have nfd : ¬ Fb G.fb ρ loc dd := R.notFb hn
  have nad : dd ≠ a := ne_of_none e na
  have dx : Dx K (upd H' a (exK (.ref C) (some dd) a)) (Fb G.fb ρ loc) (.ref a) (.dict (excD cn w)) := .exc rfl fl at_ nfa nfd upd_same (by rw [upd_ne nad]; exact e)
  obtain ⟨R2, g2⟩ := (R1.put j dx).lose i none
  have es : (((σ.set i (some (V.ref a))).set j (some (.ref a))).set i none : L2.St) = (σ.set j (some (.ref a))).set i none := by
    rw [List.set_comm _ _ hij, List.set_set]
  rw [es]
  exact ⟨R2, ((more_grow more).trans put_grow).trans g2⟩
theorem sm_try (hij : i ≠ j) (T : XCls X.K X.mg cn qual C fI fdI st) (Gf : FnG X.prog X.w X.K X.mg X.base (L2.CX X.prog X.w) k f fd ps (spX X.K n C F)) (mF : PmX F) (hr : Rm k X.A) (hg : Gl X x) (hm : X.mg x = some (.ref f)) (hk : PySem.W.keepIn X.K (.ref f) = true) (hb : Binds X.K fd ps [])
    (hx : X.ex = []) (hs : X.stack = X.env :: X.outer) (hfr : X.env.frame = some X.env.locals) (hN : X.N.Nodup) (hi : X.N[i]? = some nm) (hj : X.N[j]? = some y) (hln : X.env.kindOf nm = some .local) (hv : Vis X.env.scope nm) (hy : Loc X.env.scope y) (hyl : X.env.scope.names.lookup y = some .local)
    (hC : Gl X cn) (hCd : (cn == ("__debug__" : Str)) = false) (ha : ∀ pn xe, AM (X.tr pn xe) (e :: es) ma)
    (hd1 : (nm == ("__debug__" : Str)) = false := by decide) (hd2 : (nm == ("__classdict__" : Str)) = false := by decide)
    (hdb : (x == ("__debug__" : Str)) = false := by decide) (he : starEach (e :: es) X.env = (false, eval e X.env) :: starEach es X.env := by rfl) (hpl : (backTo pos (starEach es X.env)).any (·.1) = false := by rfl)
    (hsw : swapsWith (.Call (.Name x p) (e :: es) [] pos) none pe.line X.env = pure false := by rfl) (hsa : swapsWith (.Name nm pn) (some (.Name y py)) pa.line X.env = pure false := by rfl) :
    SM X (.Try [.Expr (.Call (.Name x p) (e :: es) [] pos) pe] [.ExceptHandler (some (.Name cn pc)) (some nm) [.Assign [.Name y py] (.Name nm pn) pa] ph] [] [] pt) (sTry i j n cn F ma) := by
  have am : Mono ma := (ha [] fun _ _ => True).mono
  refine ⟨fun kk kk' ρ l q => am ρ _ _ (fun ds ρ1 ⟨a, b⟩ => ⟨a, mF _ _ _ _ _ (fun _ _ z => l.nx _ z) (fun _ z => l.nx _ z) b⟩) q, ?_⟩
  refine ps_weak (ps_try_keep (tb := fun W => tDrop (tCallS (spX X.K n C F) (WE W) (TAof X.K ma))) (ts := fun a cls d => tAsg (tVar i) (gName j)) hx hs hfr hN hi hln ⟨hC, hCd, .inl T.gC⟩ (fun W pn xe tk _ => ?_) (fun a oe cls d pn hz hf => ?_)) ?_
  · exact pss_one (ps_expr (pe_callSG (X := X.tr pn xe) Gf hr hg hm hk hb (fun σ => passAt tk σ) (ha pn xe).run hdb he hpl) hsw)
  · exact pss_one (ps_set (X := X.suite a ((a, oe) :: pn)) hN hj hy (pe_var hi hv hd1 hd2) hsa (.inr hyl))
  · rintro D σ H ⟨G, loc, ρ, kk, R, q, l1, l2, l3, l4⟩
    refine ⟨G, loc, ρ, R, am ρ _ _ (fun ds ρ1 q1 vs H1 R1 g1 d1 => ?_) q⟩
    refine ⟨Fb G.fb ρ1 loc, ds, R1.fbE, d1, q1.1.1, mF _ _ _ _ _ (fun b d q2 v H2 m2 d2 _ => ?_) (fun w q2 v dd H2 m2 fl hn e2 => ?_) q1.2⟩
    · exact l1 _ _ _ _ (R1.more m2) (g1.trans (more_grow m2)) q2
    · refine ⟨T.ex, fun a na => ?_⟩
      have hlt : i < σ.length := by rw [R1.len]; exact q1.1.2
      refine ⟨.ref a, List.getElem?_set_self hlt, ?_⟩
      obtain ⟨R3, g3⟩ := kept_rep R1 hij m2 na fl hn e2 T.at_
      exact l1 _ _ _ _ R3 (g1.trans g3) q2
theorem sm_tryA (hij : i ≠ j) (T : XCls X.K X.mg cn qual C fI fdI st) (Gf : FnG X.prog X.w X.K X.mg X.base (L2.CX X.prog X.w) k f fd ps (spX X.K n C F)) (mF : PmX F) (hr : Rm k X.A) (hg : Gl X x) (hm : X.mg x = some (.ref f)) (hk : PySem.W.keepIn X.K (.ref f) = true) (hb : Binds X.K fd ps [])
    (hx : X.ex = []) (hs : X.stack = X.env :: X.outer) (hfr : X.env.frame = some X.env.locals) (hN : X.N.Nodup) (hi : X.N[i]? = some nm) (hj : X.N[j]? = some y) (hz : X.N[z]? = some zn) (hln : X.env.kindOf nm = some .local) (hv : Vis X.env.scope nm) (hy : Loc X.env.scope y) (hyl : X.env.scope.names.lookup y = some .local)
    (hzL : Loc X.env.scope zn) (hzl : X.env.scope.names.lookup zn = some .local)
    (hC : Gl X cn) (hCd : (cn == ("__debug__" : Str)) = false) (ha : ∀ pn xe, AM (X.tr pn xe) (e :: es) ma)
    (hd1 : (nm == ("__debug__" : Str)) = false := by decide) (hd2 : (nm == ("__classdict__" : Str)) = false := by decide)
    (hdb : (x == ("__debug__" : Str)) = false := by decide) (he : starEach (e :: es) X.env = (false, eval e X.env) :: starEach es X.env := by rfl) (hpl : (backTo pos (starEach es X.env)).any (·.1) = false := by rfl)
    (hsw : swapsWith (.Call (.Name x p) (e :: es) [] pos) (some (.Name zn pz)) pe.line X.env = pure false := by rfl) (hsa : swapsWith (.Name nm pn) (some (.Name y py)) pa.line X.env = pure false := by rfl) :
    SM X (.Try [.Assign [.Name zn pz] (.Call (.Name x p) (e :: es) [] pos) pe] [.ExceptHandler (some (.Name cn pc)) (some nm) [.Assign [.Name y py] (.Name nm pn) pa] ph] [] [] pt) (sTryA i j z n cn F ma) := by
  have am : Mono ma := (ha [] fun _ _ => True).mono
  refine ⟨fun kk kk' ρ l q => am ρ _ _ (fun ds ρ1 ⟨a, b⟩ => ⟨a, mF _ _ _ _ _ (fun _ _ z => l.nx _ z) (fun _ z => l.nx _ z) b⟩) q, ?_⟩
  refine ps_weak (ps_try_keep (tb := fun W => tAsg (tCallS (spX X.K n C F) (WE W) (TAof X.K ma)) (gName z)) (ts := fun a cls d => tAsg (tVar i) (gName j)) hx hs hfr hN hi hln ⟨hC, hCd, .inl T.gC⟩ (fun W pn xe tk _ => ?_) (fun a oe cls d pn hz hf => ?_)) ?_
  · exact pss_one (ps_set (X := X.tr pn xe) hN hz hzL (pe_callSG (X := X.tr pn xe) Gf hr hg hm hk hb (fun σ => passAt tk σ) (ha pn xe).run hdb he hpl) hsw (.inr hzl))
  · exact pss_one (ps_set (X := X.suite a ((a, oe) :: pn)) hN hj hy (pe_var hi hv hd1 hd2) hsa (.inr hyl))
  · rintro D σ H ⟨G, loc, ρ, kk, R, q, l1, l2, l3, l4⟩
    refine ⟨G, loc, ρ, R, am ρ _ _ (fun ds ρ1 q1 vs H1 R1 g1 d1 => ?_) q⟩
    refine ⟨Fb G.fb ρ1 loc, ds, R1.fbE, d1, q1.1.1, mF _ _ _ _ _ (fun b d q2 v H2 m2 d2 _ => ?_) (fun w q2 v dd H2 m2 fl hn e2 => ?_) q1.2⟩
    · exact l1 _ _ _ _ ((R1.more m2).put z d2) ((g1.trans (more_grow m2)).trans put_grow) q2
    · refine ⟨T.ex, fun a na => ?_⟩
      have hlt : i < σ.length := by rw [R1.len]; exact q1.1.2
      refine ⟨.ref a, List.getElem?_set_self hlt, ?_⟩
      obtain ⟨R3, g3⟩ := kept_rep R1 hij m2 na fl hn e2 T.at_
      exact l1 _ _ _ _ R3 (g1.trans g3) q2
end
/-! ### what it has -/
def mWhat (cn : Str) (m : M D) : M D := fun ρ k => m ρ fun d ρ1 => ∃ w, d = .dict (excD cn w) ∧ k w ρ1
theorem fnAt_one {K : PySem.W.Frag} {x : Str} {a b : Addr} (h : FnAt K x a) (h' : FnAt K x b) : a = b := by
  unfold FnAt at h h'
  rw [h] at h'
  simpa using h'
theorem dx_flat {K : PySem.W.Frag} {H : Hp} {F : AS} {v : V} {w : D} (h : FlV v w) : Dx K H F v w := by
  cases h with
  | non => exact .non
  | bl b => exact .bl b
  | int i => exact .int i
  | str x => exact .str x
section
variable {X : Cx} {e : Expr} {m : M D} {pos : Pos} {cn qual : Str} {C fI : Addr} {fdI : FuncData} {st : Stmt}
/-- the field of a kept exception -/
def tWhat (C : Addr) (te : TE) : TE := fun σ H Q => te σ H fun x H1 => ∃ (a dd : Addr) (v : V), x = .ref a ∧ H1 a = some (exK (.ref C) (some dd) a) ∧ H1 dd = some (.xd [("what", v)]) ∧ Q v H1
theorem pe_what {te : TE} (T : XCls X.K X.mg cn qual C fI fdI st) (he : PE X e te) (hb : attributeBase e "what" X.env (eval e X.env) = eval e X.env := by rfl) : PE X (.Attribute e "what" pos) (tWhat C te) := by
  constructor
  intro pins s σ H Q I h
  refine attr_of hb (thn (he.run pins s σ H _ I h) ?_)
  rintro u s1 ⟨x, H1, I1, rx, a, dd, v, rfl, ha, hd, q⟩
  cases rx
  obtain ⟨⟨oe, vs, ho, hz, hf⟩, _⟩ := I1.hok a _ ha
  obtain ⟨mA, ns, rel⟩ := I1.hok dd _ hd
  obtain ⟨od, hod, look⟩ := lookIn_ns ns
  have lk : List.lookup ("what" : Str) [(("what" : Str), v)] = some v := by simp [List.lookup]
  have rw1 := rel "what"
  rw [lk] at rw1
  obtain ⟨u, hu, ru⟩ := RelO.some_of (v := v) (o := mA "what") rw1
  have at_ : PySem.W.InstAt s1.heap a oe C (some od) := by
    refine ⟨ho, hz.1, ?_, ?_⟩
    · unfold PySem.W.notCls
      rw [hf]
    · rw [hz.2]
      exact hod
  refine HandSPX.exc_get I1.kIn at_ T.xf.ga T.xf.gg T.xf.exC (PySem.W.findObj_own T.xf.hdC T.no rfl ?_) (handed_of ru) ⟨v, H1, I1.tok _, ru, q⟩
  rw [look, hu]
theorem em_what (T : XCls X.K X.mg cn qual C fI fdI st) (he : EM X e m) (hb : attributeBase e "what" X.env (eval e X.env) = eval e X.env := by rfl) : EM X (.Attribute e "what" pos) (mWhat cn m) := by
  refine ⟨fun ρ k k' l q => he.mono ρ _ _ (fun d ρ1 ⟨w, e1, q1⟩ => ⟨w, e1, l _ _ q1⟩) q, pe_weak (pe_what T he.run hb) ?_⟩
  rintro σ H Q ⟨G, loc, ρ, R, q⟩
  refine ⟨G, loc, ρ, R, he.mono ρ _ _ (fun d ρ1 q1 v H1 R1 g1 d1 => ?_) q⟩
  obtain ⟨w, rfl, q2⟩ := q1
  obtain ⟨a, C', dd, u, rfl, fl, at_, _, _, ha, hd⟩ := d1.excA
  obtain rfl := fnAt_one at_ T.at_
  exact ⟨a, dd, u, rfl, ha, hd, q2 u H1 R1 g1 (dx_flat fl)⟩
end
end DL

/-! A dict of the module from texts to ints; text.split(sep); list.index. -/
namespace DL
open PySem PySem.Spec PyProof.Rows L2
/-- the entries of a dict from texts to ints -/
def TabIs : List DictEntry → List (Str × Int) → Prop
  | [], [] => True
  | e :: es, (x, i) :: r => (∃ t, e.key = .str x t) ∧ (∃ t, e.val = .int i t) ∧ TabIs es r
  | _, _ => False
def TabI (K : PySem.W.Frag) (w : World) (a : Addr) (tbl : List (Str × Int)) : Prop :=
  (a == sysModules) = false ∧ ∃ es n, K.lookup a = some ⟨.type "dict", none, .dict es n, #[]⟩ ∧ PySem.W.KeysLit w.params es.toList ∧ TabIs es.toList tbl
theorem tabIs_nil : TabIs [] [] := trivial
theorem tabIs_cons {e : DictEntry} {es : List DictEntry} {x : Str} {i : Int} {t u : Tok} {r : List (Str × Int)} (h1 : e.key = .str x t) (h2 : e.val = .int i u) (h : TabIs es r) : TabIs (e :: es) ((x, i) :: r) := ⟨⟨t, h1⟩, ⟨u, h2⟩, h⟩
theorem tabIs_find (z : Str) : ∀ {es : List DictEntry} {tbl : List (Str × Int)}, TabIs es tbl →
    (match txLook tbl z with | some i => ∃ t, (es.find? fun e => Value.isStrOf z e.key).map (·.val) = some (.int i t) | none => (es.find? fun e => Value.isStrOf z e.key).map (·.val) = none)
  | [], [], _ => rfl
  | e :: es, (x, i) :: r, ⟨⟨t, h1⟩, ⟨u, h2⟩, h3⟩ => by
    unfold txLook
    by_cases hz : x = z
    · subst hz
      rw [if_pos rfl]
      refine ⟨u, ?_⟩
      have e1 : Value.isStrOf x e.key = true := by rw [h1]; exact keyIs_str x t
      rw [List.find?_cons_of_pos (by simpa using e1)]
      simp [h2]
    · rw [if_neg hz]
      have e1 : Value.isStrOf z e.key = false := by
        cases q : Value.isStrOf z e.key with
        | false => rfl
        | true =>
          obtain ⟨u, hu⟩ := Value.isStrOf_shape q
          rw [h1] at hu
          exact absurd (Value.str.inj hu).1 hz
      rw [List.find?_cons_of_neg (by simp [e1])]
      exact tabIs_find z h3
def rTabI (K : PySem.W.Frag) (w : World) (tbl : List (Str × Int)) : R2 := fun x y H Q => ∃ a z i, x = .ref a ∧ y = .str z ∧ TabI K w a tbl ∧ txLook tbl z = some i ∧ Q (.int i) H
def rInI (K : PySem.W.Frag) (w : World) (tbl : List (Str × Int)) : R2 := fun x y H Q => ∃ a z, x = .str z ∧ y = .ref a ∧ TabI K w a tbl ∧ Q (.bl (txLook tbl z).isSome) H
section
variable {X : Cx} {tbl : List (Str × Int)}
theorem ix_tabI : IxR X (rTabI X.K X.w tbl) := by
  intro value slice pins s σ H x y v u Q I rx ry h hs
  obtain ⟨p, z, i, rfl, rfl, ⟨_, es, n, hl, hk, ht⟩, e, q⟩ := h
  obtain rfl : v = Value.ref p := rx
  obtain ⟨t, rfl⟩ := ry
  have hm := PySem.W.mapOf_K (prog := X.prog) (w := X.w) I.kIn hl hk
  have hf := tabIs_find z ht
  rw [e] at hf
  obtain ⟨t2, h1⟩ := hf
  have h3 : findBy Value.isStrOf es z = some (.int i t2) := by
    obtain ⟨l⟩ := es
    unfold findBy
    rw [List.find?_toArray]
    exact h1
  exact tail_any hm.typeIs slot_dict_getitem.lookup (wpAny_getItem_of (strKind_is X.prog X.w z t) hm h3 ⟨.int i, H, I.tok _, ⟨_, rfl⟩, q⟩) hs
theorem op_inI : OpR X (compareOp .In) (rInI X.K X.w tbl) := by
  intro pins s σ H x y v u Q I rx ry h
  obtain ⟨p, z, rfl, rfl, ⟨hsm, es, n, hl, hk, ht⟩, q⟩ := h
  obtain rfl : u = Value.ref p := ry
  obtain ⟨t, rfl⟩ := rx
  have hm := PySem.W.mapOf_K (prog := X.prog) (w := X.w) I.kIn hl hk
  have h3 : (findBy Value.isStrOf es z).isSome = (txLook tbl z).isSome := by
    have hf := tabIs_find z ht
    obtain ⟨l⟩ := es
    unfold findBy
    rw [List.find?_toArray]
    cases e : txLook tbl z with
    | none => rw [e] at hf; rw [show (l.find? fun e => Value.isStrOf z e.key).map (·.val) = none from hf]; rfl
    | some y => rw [e] at hf; obtain ⟨f, h1⟩ := hf; rw [show (l.find? fun e => Value.isStrOf z e.key).map (·.val) = some (.int y f) from h1]; rfl
  refine wpAny_in_of (strKind_is X.prog X.w z t) hsm hm ?_
  rw [h3]
  exact ⟨.bl _, H, I.tok _, rfl, q⟩
end
def mTabI (tbl : List (Str × Int)) (m : M D) : M D := fun ρ k => m ρ fun d ρ1 => match d with
  | .str x => ∃ i, txLook tbl x = some i ∧ k (.int i) ρ1
  | _ => False
def mInI (tbl : List (Str × Int)) (m : M D) : M D := fun ρ k => m ρ fun d ρ1 => match d with
  | .str x => k (.bool (txLook tbl x).isSome) ρ1
  | _ => False
section
variable {X : Cx} {x : Str} {p pos : Pos} {i : Expr} {m : M D} {a : Addr} {tbl : List (Str × Int)}
theorem em_tabI (ht : TabI X.K X.w a tbl) (hm : X.mg x = some (.ref a)) (hi : EM X i m) (hs : PlainIx i) (hg : Gl X x := by rfl) (hd : (x == ("__debug__" : Str)) = false := by decide) : EM X (.Subscript (.Name x p) i pos) (mTabI tbl m) := by
  refine ⟨fun ρ k k' w q => hi.mono ρ _ _ (fun d ρ1 q1 => by
    cases d <;> first | exact (show False from q1).elim | skip
    exact ⟨q1.choose, q1.choose_spec.1, w _ _ q1.choose_spec.2⟩) q, pe_weak (pe_ix (ix_tabI (tbl := tbl)) (pe_glob (v := .ref a) hg hm rfl hd) hi.run hs) ?_⟩
  rintro σ H Q ⟨G, loc, ρ, R, q⟩
  refine ⟨G, loc, ρ, R, hi.mono ρ _ _ (fun d ρ1 q1 v H1 R1 g1 d1 => ?_) q⟩
  cases d <;> first | exact (show False from q1).elim | skip
  cases d1
  obtain ⟨y, e, q2⟩ := q1
  exact ⟨a, _, y, rfl, rfl, ht, e, q2 _ H1 R1 g1 (.int _)⟩
theorem mono_inI (h : Mono m) : Mono (mInI tbl m) := fun ρ k k' w q => h ρ _ _ (fun d ρ1 q1 => by
    cases d <;> first | exact (show False from q1).elim | skip
    exact w _ _ q1) q
theorem em_inI (ht : TabI X.K X.w a tbl) (hm : X.mg x = some (.ref a)) (hi : EM X i m) (hb : behindInMarks .In (.Name x p) = false := by rfl) (hg : Gl X x := by rfl) (hd : (x == ("__debug__" : Str)) = false := by decide) : EM X (.Compare i [.In] [.Name x p] pos) (mInI tbl m) := by
  refine ⟨mono_inI hi.mono, pe_weak (pe_cmpR (op_inI (tbl := tbl)) hi.run (pe_glob (v := .ref a) hg hm rfl hd) hb) ?_⟩
  rintro σ H Q ⟨G, loc, ρ, R, q⟩
  refine ⟨G, loc, ρ, R, hi.mono ρ _ _ (fun d ρ1 q1 v H1 R1 g1 d1 => ?_) q⟩
  cases d <;> first | exact (show False from q1).elim | skip
  cases d1
  exact ⟨a, _, rfl, rfl, ht, q1 _ H1 R1 g1 (.bl _)⟩
theorem tm_inI (ht : TabI X.K X.w a tbl) (hm : X.mg x = some (.ref a)) (hi : EM X i m) (hb : behindInMarks .In (.Name x p) = false := by rfl) (hg : Gl X x := by rfl) (hd : (x == ("__debug__" : Str)) = false := by decide) : TM X (.Compare i [.In] [.Name x p] pos) (mTest (mInI tbl m)) := by
  have mm : Mono (mInI tbl m) := mono_inI hi.mono
  refine ⟨mono_test mm, pt_weak (pt_cmpR (op_inI (tbl := tbl)) hi.run (pe_glob (v := .ref a) hg hm rfl hd) hb) fun σ H Q h => ?_⟩
  obtain ⟨G, loc, ρ, R, q⟩ := tt_te mm h
  refine ⟨G, loc, ρ, R, hi.mono ρ _ _ (fun d ρ1 q1 v H1 R1 g1 d1 => ?_) q⟩
  cases d <;> first | exact (show False from q1).elim | skip
  cases d1
  exact ⟨a, _, rfl, rfl, ht, q1 _ H1 R1 g1 (.bl _)⟩
end
/-! ### text.split(sep) -/
def mSplit (m : M D) (ms : M (List D)) : M (List D) := fun ρ k => m ρ fun d ρ1 => match d with
  | .str a => ms ρ1 fun ds ρ2 => ∃ b, ds = [.str b] ∧ (b.length == 0) = false ∧ a.length + 2 ≤ sizeLine ∧ k ((Txt.split a b).map PyData.str) ρ2
  | _ => False
section
variable {X : Cx} {o e : Expr} {m : M D} {ms : M (List D)} {apos cpos : Pos}
theorem nm_split (ho : EM X o m) (ha : AM X [e] ms)
    (hbase : attributeBase o "split" X.env (eval o X.env) = eval o X.env := by rfl)
    (hfew : ((backTo cpos (starEach [e] X.env)).all (fun x => !x.1) && (backToKw cpos (keywordEach [] X.env)).all (fun x => x.1.isSome)
      && decide ([e].length + ([] : List Keyword).length + (if ([] : List Keyword).isEmpty then 0 else 1) < 30)) = true := by rfl)
    (hline : (apos.endLine == cpos.line) = true := by rfl) (hs : starEach [e] X.env = (false, eval e X.env) :: starEach [] X.env := by rfl) (hplain : (backTo cpos (starEach [] X.env)).any (·.1) = false := by rfl) :
    NM X (.Call (.Attribute o "split" apos) [e] [] cpos) (mSplit m ms) := by
  refine ⟨fun ρ k k' w q => ho.mono ρ _ _ (fun d ρ1 q1 => ?_) q, pe_weak (pe_bm PySem.F.plainAttrs_str PySem.F.slot_str_split PySem.F.type_str_split mt_split ho.run ha.run hbase hfew hline hs hplain) ?_⟩
  · cases d <;> first | exact q1.elim | skip
    exact ha.mono ρ1 _ _ (fun ds ρ2 ⟨b, e2, e3, e4, q2⟩ => ⟨b, e2, e3, e4, w _ _ q2⟩) q1
  · rintro σ H Q ⟨G, loc, ρ, R, q⟩
    refine ⟨G, loc, ρ, R, ho.mono ρ _ _ (fun d ρ1 q1 v H1 R1 g1 d1 => ?_) q⟩
    cases d <;> first | exact (show False from q1).elim | skip
    cases d1
    refine ⟨rfl, G, loc, ρ1, R1, ha.mono ρ1 _ _ (fun ds ρ2 q2 vs H2 R2 g2 d2 => ?_) q1⟩
    obtain ⟨b, rfl, e3, e4, q3⟩ := q2
    obtain ⟨u, rfl, du⟩ := dx_one d2
    cases du
    refine ⟨_, b, rfl, rfl, e3, e4, fun p hp => ?_⟩
    obtain ⟨a1, a2, a3, a4, a5, a6⟩ := new_list R2 (dx_strs (Txt.split _ b)) hp
    exact q3 p _ _ a1 a2 a3 a4 ((g1.trans g2).trans a5) a6
end
end DL

/-! a, *b = a list; list.index; len of a set comprehension. -/
namespace DL
open PySem PySem.Spec PyProof.Rows L2

section
variable {prog : Program} {w : World} {A : Around} {E : Value → Shared → Prop} {s : Shared}
theorem draw_listOne {it l : Addr} {items : Array Value} {x : Value} {Q : List Value → Shared → Prop} (hit : s.heap.IsListIter it l 0) (hl : s.heap.IsList l items) (h0 : items[0]? = some x)
    (hQ : ∀ h', h'.IsListIter it l 1 → Heap.SameBut it s.heap h' → Q [x] { s with heap := h' }) : wpAny (model prog w) A (draw (.ref it) 1) Q E s := by
  show wpAny _ _ (pyNext (.ref it) >>= _) Q E s
  refine wpAny_bind (wpAny_pyNext_list_item hit hl h0 fun h1 hit1 hs1 => ?_)
  exact wpAny_bind (wpAny_holding (wpAny_pure (wpAny_pure (hQ h1 hit1 hs1))))
theorem star_oneL {t : Addr} {items : Array Value} {x : Value} {Q : List Value → Shared → Prop} (hh : A.handled = none) (ht : s.heap.IsList t items) (h0 : items[0]? = some x) (hz : items.size ≤ sizeLine)
    (hQ : ∀ (h' : Heap) (tk : Nat), (∀ b o, b ≠ s.heap.objs.size → s.heap.get? b = some o → h'.get? b = some o) → Q [x, .ref h'.objs.size] { s with heap := h'.push { cls := .type "list", data := .seq (items.toList.drop 1).toArray }, toks := tk }) :
    wpAny (model prog w) A (unpackItems (.ref t) 2 (some 1)) Q E s := by
  have hlt : t ≠ s.heap.objs.size := by obtain ⟨o, ho, _⟩ := ht; exact Nat.ne_of_lt (Heap.lt_size ho)
  have hs1 : 1 ≤ items.size := by
    have := (Array.getElem?_eq_some_iff.mp h0).1
    omega
  unfold unpackItems
  refine wpAny_bind ?_
  unfold notIterableAtAll
  refine wpAny_bind (wpAny_specialOf ht.typeIs slot_list_iter.lookup ?_)
  refine wpAny_pure ?_
  simp only [Bool.false_eq_true, if_false]
  refine wpAny_bind (wpAny_holding (wpAny_pyIter_list ht ?_))
  refine wpAny_bind (wpAny_holding (draw_listOne (items := items) (x := x) ⟨_, Heap.get?_push_size _ rfl, rfl, rfl⟩ (ht.push _) h0 fun h₁ hit₁ hs₁ => ?_))
  have ht₁ : h₁.IsList t items := (ht.push _).extBut hs₁.extBut hlt
  obtain ⟨oi, hoi, _⟩ := id hit₁
  obtain ⟨ol, hol, _⟩ := id ht₁
  show wpAny _ _ (if ([x] : List Value).length < 1 then _ else _) _ _ _
  rw [if_neg (by simp)]
  refine wpAny_bind (wpAny_holding (PySem.W.kun_collect (s := { s with heap := h₁ }) (T := "list_iterator") (.inr (.inr (.inl rfl))) (Walks.list (A := A.in1) hh s.heap.objs.size t hlt items) (fun j u st => st.1.typeIs) (k := 1) hs1 ⟨hit₁, ht₁⟩ (Heap.lt_size hoi) (Heap.lt_size hol) (fun h₂ tk hk => ?_) hz))
  show wpAny _ _ (if (items.toList.drop 1).length < 0 then _ else _) _ _ _
  rw [if_neg (by omega)]
  show wpAny _ _ (newList ((items.toList.drop 1).take ((items.toList.drop 1).length - 0)) >>= fun d => pure ([x] ++ [d] ++ (items.toList.drop 1).drop ((items.toList.drop 1).length - 0))) _ _ _
  rw [Nat.sub_zero, List.take_length, List.drop_length]
  refine wpAny_bind (wpAny_newObj_type (wpAny_pure ?_) (by show (items.toList.drop 1).toArray.size ≤ sizeLine; simp; omega))
  exact hQ h₂ tk fun b o hb e => hk b o hb (hs₁.extBut b o hb (Heap.get?_push_of_some _ e))
end
def tStarL (K : PySem.W.Frag) (i j : Nat) (te : TE) : TS := fun D σ H => te σ H fun v H1 => ∃ a x xs, v = .ref a ∧ SqL K H1 a (x :: xs) ∧ ∀ p, H1 p = Option.none → D.nx ((σ.set i (some x)).set j (some (.ref p))) (upd H1 p (.lst xs))
theorem ps_starL {X : Cx} {i j : Nat} {x y : Str} {e : Expr} {te : TE} {px py sy tpos pos : Pos} {kt : Nat} (hc : X.calm = true) (hN : X.N.Nodup) (hi : X.N[i]? = some x) (hj : X.N[j]? = some y) (hx : Loc X.env.scope x) (hy : Loc X.env.scope y) (he : PE X e te)
    (hfx : X.fn x = true ∨ X.env.scope.names.lookup x = some .local := by first | exact .inl rfl | exact .inr rfl) (hfy : X.fn y = true ∨ X.env.scope.names.lookup y = some .local := by first | exact .inl rfl | exact .inr rfl)
    (hs : swapsWithSole [.Tuple [.Name x px, .Starred (.Name y py) sy] kt tpos] e pos.line X.env = pure false := by rfl) (hw : swappedStores [.Tuple [.Name x px, .Starred (.Name y py) sy] kt tpos] e X.env = pure none := by rfl)
    (h1 : (assignEach [.Tuple [.Name x px, .Starred (.Name y py) sy] kt tpos] X.env).map (·.2) = [assign (.Tuple [.Name x px, .Starred (.Name y py) sy] kt tpos) X.env] := by rfl)
    (h2 : assignEach [.Name x px, .Starred (.Name y py) sy] X.env = [(false, assign (.Name x px) X.env), (true, assign (.Name y py) X.env)] := by rfl) :
    PS X (.Assign [.Tuple [.Name x px, .Starred (.Name y py) sy] kt tpos] e pos) (tStarL X.K i j te) := by
  refine ⟨fun pins s σ H D I h => ?_⟩
  refine wpAny_Assign_stores (thn (he.run pins s σ H _ I h) fun v s1 ⟨u, H1, I1, r1, a, x0, xs, eu, hq, q⟩ => ?_) hs hw
  subst eu
  cases r1
  rw [h1]
  show wpAny _ _ (assign (.Tuple [.Name x px, .Starred (.Name y py) sy] kt tpos) X.env (.ref a)) _ _ _
  obtain ⟨its, rv, pl, hz⟩ := I1.list hq
  have ht := pl.isList
  cases rv with
  | cons r rr =>
    rename_i u us
    rw [assign_Tuple]
    refine wpAny_bind (wpAny_standAt ?_)
    unfold unpack
    rw [h2]
    have hl := rr.length
    refine wpAny_bind (wpAny_holding (star_oneL (I1.ok.hd hc) ht (x := u) (by simp) (by simp; simp at hz; omega) fun h' tk hk => ?_))
    have I2 : L2.Inv X pins σ H1 { s1 with heap := h', toks := tk } := I1.kept (t' := tk) fun b o e => hk b o (Nat.ne_of_lt (Heap.lt_size e)) e
    have hn : H1 h'.objs.size = Option.none := I2.hok.fresh (Nat.le_refl _)
    have I3 : L2.Inv X pins σ (upd H1 h'.objs.size (.lst xs)) { s1 with heap := h'.push { cls := .type "list", data := .seq us.toArray }, toks := tk } := I2.lnew (t' := tk) rr (by simp at hz; omega)
    have e3 : ((u :: us).toArray.toList.drop 1).toArray = us.toArray := by simp
    rw [e3]
    show wpAny _ _ (assignInOrder [assign (.Name x px) X.env, assign (.Name y py) X.env] [u, .ref h'.objs.size]) _ _ _
    refine assignInOrder_cons (wpAny_assign_Name (store_ok I3 hN hi hx r (fun s4 I4 => ?_) hfx))
    refine assignInOrder_cons (wpAny_assign_Name (store_ok (v := V.ref h'.objs.size) I4 hN hj hy rfl (fun s5 I5 => ?_) hfy))
    exact assignInOrder_nil ⟨_, _, I5, q _ hn⟩
def sStarL (i j : Nat) (m : M D) : SMon := fun k ρ => m ρ fun d ρ1 => match d with
  | .list (x :: xs) => k.nx ((ρ1.set i (.dat x)).set j (.own false xs))
  | _ => False
theorem sm_starL {X : Cx} {i j : Nat} {x y : Str} {e : Expr} {m : M D} {px py sy tpos pos : Pos} {kt : Nat} (hc : X.calm = true) (hN : X.N.Nodup) (hi : X.N[i]? = some x) (hj : X.N[j]? = some y) (hx : Loc X.env.scope x) (hy : Loc X.env.scope y) (he : EM X e m)
    (hfx : X.fn x = true ∨ X.env.scope.names.lookup x = some .local := by first | exact .inl rfl | exact .inr rfl) (hfy : X.fn y = true ∨ X.env.scope.names.lookup y = some .local := by first | exact .inl rfl | exact .inr rfl)
    (hs : swapsWithSole [.Tuple [.Name x px, .Starred (.Name y py) sy] kt tpos] e pos.line X.env = pure false := by rfl) (hw : swappedStores [.Tuple [.Name x px, .Starred (.Name y py) sy] kt tpos] e X.env = pure none := by rfl)
    (h1 : (assignEach [.Tuple [.Name x px, .Starred (.Name y py) sy] kt tpos] X.env).map (·.2) = [assign (.Tuple [.Name x px, .Starred (.Name y py) sy] kt tpos) X.env] := by rfl)
    (h2 : assignEach [.Name x px, .Starred (.Name y py) sy] X.env = [(false, assign (.Name x px) X.env), (true, assign (.Name y py) X.env)] := by rfl) :
    SM X (.Assign [.Tuple [.Name x px, .Starred (.Name y py) sy] kt tpos] e pos) (sStarL i j m) := by
  refine ⟨fun k k' ρ l q => he.mono ρ _ _ (fun d ρ1 q1 => by
    cases d <;> first | exact q1.elim | skip
    rename_i ds
    cases ds with
    | nil => exact q1.elim
    | cons a r => exact l.nx _ q1) q, ps_weak (ps_starL hc hN hi hj hx hy he.run hfx hfy hs hw h1 h2) ?_⟩
  rintro E σ H ⟨G, loc, ρ, k, R, q, l1, l2, l3, l4⟩
  refine ⟨G, loc, ρ, R, he.mono ρ _ _ (fun d ρ1 q1 v H1 R1 g1 d1 => ?_) q⟩
  cases d <;> first | exact (show False from q1).elim | skip
  rename_i ds
  cases ds with
  | nil => exact (show False from q1).elim
  | cons b r =>
    obtain ⟨a, xs, rfl, z1, z2, da⟩ := d1.sql
    have e1 : SqL X.K H1 a xs := .inl (.inl z1)
    cases da with
    | cons dv dr =>
      rename_i v vs
      refine ⟨a, v, vs, rfl, e1, fun p hp => ?_⟩
      have R2 := R1.put i dv
      obtain ⟨a1, a2, a3, a4, a5, a6⟩ := new_list R2 (dr.weak fun b z => Fb_put (by intro _ _ z; cases z) b z) hp
      exact l1 _ _ _ _ (a4.putN R.bwS a1 a2 j a3 a6) ((g1.trans put_grow).trans (a5.weak fun b z => Fb_putN b z)) q1
/-! ### list.index -/
def mIndexL (m : M D) (ms : M (List D)) : M D := fun ρ k => m ρ fun d ρ1 => match d with
  | .list xs => ms ρ1 fun ds ρ2 => ∃ (ys : List Str) (z : Str) (j : Nat), ds = [.str z] ∧ strsOf xs = some ys ∧ ys[j]? = some z ∧ (∀ (m : Nat) (y : Str), m < j → ys[m]? = some y → (y == z) = false) ∧ k (.int (j : Nat)) ρ2
  | _ => False
section
variable {X : Cx} {o e : Expr} {m : M D} {ms : M (List D)} {apos cpos : Pos}
theorem em_indexL (ho : EM X o m) (ha : AM X [e] ms)
    (hbase : attributeBase o "index" X.env (eval o X.env) = eval o X.env := by rfl)
    (hfew : ((backTo cpos (starEach [e] X.env)).all (fun x => !x.1) && (backToKw cpos (keywordEach [] X.env)).all (fun x => x.1.isSome)
      && decide ([e].length + ([] : List Keyword).length + (if ([] : List Keyword).isEmpty then 0 else 1) < 30)) = true := by rfl)
    (hline : (apos.endLine == cpos.line) = true := by rfl) (hs : starEach [e] X.env = (false, eval e X.env) :: starEach [] X.env := by rfl) (hplain : (backTo cpos (starEach [] X.env)).any (·.1) = false := by rfl) :
    EM X (.Call (.Attribute o "index" apos) [e] [] cpos) (mIndexL m ms) := by
  refine ⟨fun ρ k k' w q => ho.mono ρ _ _ (fun d ρ1 q1 => ?_) q, pe_weak (pe_bm PySem.F.plainAttrs_list PySem.F.slot_list_index PySem.F.type_list_index mt_index ho.run ha.run hbase hfew hline hs hplain) ?_⟩
  · cases d <;> first | exact q1.elim | skip
    exact ha.mono ρ1 _ _ (fun ds ρ2 ⟨ys, z, j, e1, e2, e3, e4, q2⟩ => ⟨ys, z, j, e1, e2, e3, e4, w _ _ q2⟩) q1
  · rintro σ H Q ⟨G, loc, ρ, R, q⟩
    refine ⟨G, loc, ρ, R, ho.mono ρ _ _ (fun d ρ1 q1 v H1 R1 g1 d1 => ?_) q⟩
    cases d <;> first | exact (show False from q1).elim | skip
    obtain ⟨a, xs, rfl, z1, z2, da⟩ := d1.sql
    refine ⟨.inl ⟨rfl, xs, .inl (.inl z1)⟩, G, loc, ρ1, R1, ha.mono ρ1 _ _ (fun ds ρ2 q2 vs H2 R2 g2 d2 => ?_) q1⟩
    obtain ⟨ys, z, j, rfl, e2, e3, e4, q3⟩ := q2
    obtain ⟨u, rfl, du⟩ := dx_one d2
    cases du
    rw [strsOf_eq e2] at da
    have ev := da.strs
    subst ev
    obtain ⟨z3, z4⟩ := g2 a _ z1 z2
    refine ⟨a, ys.map V.str, .str z, j, .str z, rfl, rfl, .inl (.inl z3), rfl, ?_, ?_, ?_, ?_, q3 _ _ R2 (g1.trans g2) (.int _)⟩
    · rw [List.all_eq_true]
      intro y hy
      obtain ⟨w, _, rfl⟩ := List.mem_map.mp hy
      rfl
    · rw [List.getElem?_map, e3]; rfl
    · show (z == z) = true
      exact beq_self_eq_true z
    · intro n y' hn hy
      rw [List.getElem?_map] at hy
      cases hc : ys[n]? with
      | none => rw [hc] at hy; cases hy
      | some y =>
        rw [hc] at hy
        cases hy
        exact e4 n y hn hc
end
end DL

/-! len of a set comprehension of texts. -/
namespace DL
open PySem PySem.Spec PyProof.Rows L2
def rLenW (w : World) : List V → Hp → VK → Prop := fun vs H Q => ∃ (a : Addr) (xs : List Str), vs = [V.ref a] ∧ H a = some (SetWO w a (xs.map Sum.inr)) ∧ Q (.int (xs.length : Nat)) H
theorem cr_lenW {X : Cx} : CallR X (.builtin "len") (rLenW X.w) := by
  intro pins s σ H xs us Q I r h
  obtain ⟨a, ys, rfl, ha, q⟩ := h
  obtain ⟨u, rfl, r1⟩ := vals1 r
  cases r1
  obtain ⟨o, es, ep, t, ho, hex, hd, _, pm, _, sz, fit, _, _⟩ := setWO_get I ha
  have le : es.size = ys.length := by
    have := pm.length_eq
    simpa using this
  have hb : scanBound ≤ 2 ^ 40 := by decide
  exact call_len_set ho hex hd fit (by omega) ⟨.int _, H, I.tok _, ⟨_, by rw [le]⟩, q⟩
def mLenSc (mi : M (List D)) (g : GMn) (tt : M Bool) (te : M D) (vs : List Nat) : M D := fun ρ k => mi ρ fun ds ρ1 => scLoop g tt te vs (fun acc ρ' => k (.int (acc.length : Nat)) ρ') ds [] (wipeS ρ1 vs)
theorem mono_lsc {mi : M (List D)} {g : GMn} {tt : M Bool} {te : M D} {vs : List Nat} (hi : Mono mi) (hg : ∀ d ρ (k k' : List Slot → Prop), (∀ ρ', k ρ' → k' ρ') → g d ρ k → g d ρ k') (ht : Mono tt) (he : Mono te) : Mono (mLenSc mi g tt te vs) :=
  fun ρ k k' w q => hi ρ _ _ (fun ds ρ1 q1 => mono_scLoop hg ht he (fun a ρ q2 => w _ _ q2) ds _ _ q1) q
theorem lsc_meets {P : Program} {w : World} {K : PySem.W.Frag} {mi : M (List D)} {g : GMn} {tt : M Bool} {te : M D} {vs : List Nat} (hi : Mono mi) (hg : ∀ d ρ (k k' : List Slot → Prop), (∀ ρ', k ρ' → k' ρ') → g d ρ k → g d ρ k') (ht : Mono tt) (he : Mono te)
    {σ : L2.St} {H : Hp} {Q : VK} (h : TEof K (mLenSc mi g tt te vs) σ H Q) : tCB (rLenW w) (tCons (tSetW (wayW P w) (TIof K mi) (TGof K vs g) (TTof K tt) (TEof K te) vs) tNil) σ H Q := by
  obtain ⟨G, loc, ρ, R, q⟩ := h
  refine ⟨G, loc, ρ, R, hi ρ _ _ (fun ds ρ1 q1 J H1 R1 g1 gv D hD => ?_) q⟩
  obtain ⟨h0, np, RD, gD⟩ := new_any (o := SetWO w D []) R1 hD
  have bs := R.bwS
  let KK : List Str → List Slot → Prop := fun acc ρ' => ∀ v H', Rep K G ρ' loc σ H' → Grow (Fb G.fb ρ loc) (Fb G.fb ρ' loc) H H' → Dx K H' (Fb G.fb ρ' loc) v (.int (acc.length : Nat)) → Q v H'
  refine ⟨fun i m H2 => ∃ ρ2 acc, m = ds.length - i ∧ Rep K (G.plus D) ρ2 loc (wipe σ vs) H2 ∧ H2 D = some (SetWO w D (acc.map Sum.inr)) ∧ Grow (Fb G.fb ρ1 loc) (Fb (G.plus D).fb ρ2 loc) H1 H2 ∧ scLoop g tt te vs KK (ds.drop i) acc ρ2,
    ⟨_, wipeS ρ1 vs, [], rfl, RD.wipe (wipe_wipe σ vs).symm, upd_same, gD.weak fun b z => Fb_wipe b z, by simpa using q1⟩, ?_⟩
  rintro i m H2 ⟨ρ2, acc, hm, R2, e2, g2, q2⟩
  obtain ⟨gv1, gv2⟩ := gv i _ H2 g2 R2.fbE
  cases hd : ds[i]? with
  | none =>
    have hl : ds.length ≤ i := List.getElem?_eq_none_iff.mp hd
    rw [List.drop_eq_nil_of_le hl] at q2
    have q3 : KK acc (wipeS ρ2 vs) := q2
    refine .inl ⟨gv2 hl, D, acc, rfl, e2, ?_⟩
    obtain ⟨R3, n3⟩ := R2.unplus bs np
    have R4 := R3.wipe (vs := vs) (wipe_wipe σ vs)
    have g3 : Grow (Fb G.fb ρ1 loc) (Fb G.fb (wipeS ρ2 vs) loc) H1 H2 := g2.weak fun b z => by
      rcases Fb_wipe b z with z' | z'
      · exact .inl (.inl z')
      · exact .inr z'
    exact q3 _ H2 R4 (g1.trans g3) (.int _)
  | some d =>
    obtain ⟨hl, hd'⟩ := List.getElem?_eq_some_iff.mp hd
    have e : ds.drop i = d :: ds.drop (i + 1) := by rw [← hd']; exact List.drop_eq_getElem_cons hl
    rw [e] at q2
    obtain ⟨go, yl⟩ := gv1 d hd
    refine .inr ⟨go, fun H3 => ∃ ρ3 acc, Rep K (G.plus D) ρ3 loc (wipe σ vs) H3 ∧ H3 D = some (SetWO w D (acc.map Sum.inr)) ∧ Grow (Fb G.fb ρ1 loc) (Fb (G.plus D).fb ρ3 loc) H1 H3 ∧ scLoop g tt te vs KK (ds.drop (i + 1)) acc ρ3,
      fun H3 ⟨ρ3, acc, a1, a2, a4, a5⟩ => ⟨_, by omega, ρ3, acc, rfl, a1, a2, a4, a5⟩, fun x H3 y3 => ?_⟩
    obtain ⟨m3, d3⟩ := yl x H3 y3
    have R3 := (R2.more m3).pin (m3 _ _ e2)
    refine ⟨G.pin D (SetWO w D (acc.map Sum.inr)), loc, ρ2, d, R3, d3, hg _ _ _ _ (fun ρ4 q4 σ4 H4 R4 g4 w4 => ⟨w4.trans (wipe_wipe σ vs), ?_⟩) q2⟩
    refine ⟨G.pin D (SetWO w D (acc.map Sum.inr)), loc, ρ4, R4, ht _ _ _ (fun b ρ5 q5 H5 R5 g5 => ?_) q4⟩
    have w4' : L2.wipe σ4 vs = L2.wipe (L2.wipe σ vs) vs := w4
    have g25 : Grow (Fb (G.plus D).fb ρ2 loc) (Fb (G.plus D).fb ρ5 loc) H2 H5 := (more_grow m3).trans (g4.trans g5)
    cases b with
    | false =>
      rw [if_neg Bool.false_ne_true] at q5
      show if false = true then _ else _
      rw [if_neg Bool.false_ne_true]
      obtain ⟨R6, e6⟩ := R5.unpin h0 fun z => np (bs _ z)
      exact ⟨wipeS ρ5 vs, acc, R6.wipe w4', e6, (g2.trans g25).weak fun b z => Fb_wipe b z, q5⟩
    | true =>
      rw [if_pos rfl] at q5
      show if true = true then _ else _
      rw [if_pos rfl]
      refine ⟨G.pin D (SetWO w D (acc.map Sum.inr)), loc, ρ5, R5, he _ _ _ (fun y ρ6 ⟨z, ey, hz, q6⟩ v H6 R6 g6 d6 => ?_) q5⟩
      have g26 : Grow (Fb (G.plus D).fb ρ2 loc) (Fb (G.plus D).fb ρ6 loc) H2 H6 := g25.trans g6
      obtain ⟨R7, e7⟩ := R6.unpin h0 fun z => np (bs _ z)
      obtain ⟨R8, g8⟩ := R7.wrP (o := SetWO w D ((insS z acc).map Sum.inr)) h0 np bs
      subst ey
      cases d6
      refine ⟨acc.map Sum.inr, (insS z acc).map Sum.inr, e7, ⟨.inr z, rfl, (ins_inr z acc).symm, by rw [List.length_map]; exact hz⟩, wipeS ρ6 vs, insS z acc, R8.wipe w4', upd_same, ((g2.trans g26).trans g8).weak fun b z => Fb_wipe b z, q6⟩
section
variable {X : Cx} {elt tg iter : Expr} {ifs : List Expr} {scope : Scope} {pos cpos p : Pos} {mi : M (List D)} {g : GMn} {tt : M Bool} {te : M D}
theorem em_lenSc (own : List (Str × Nat)) (hm : X.mg "len" = none) (hc : X.calm = true) (hN : X.N.Nodup) (hi : IM X tg iter mi) (ok : blkC X.N X.env.scope scope own = true)
    (hg : ∀ (s : Shared) (H : Hp) (C : Addr) (cl : List (Str × Addr)) (fp : List Addr), GM (X.blk s H scope (compEnvC scope cl C X.env) fp) (own.map (·.2)) tg g)
    (ht : ∀ (s : Shared) (H : Hp) (C : Addr) (cl : List (Str × Addr)) (fp : List Addr), TsM (X.blk s H scope (compEnvC scope cl C X.env) fp) ifs tt)
    (he : ∀ (s : Shared) (H : Hp) (C : Addr) (cl : List (Str × Addr)) (fp : List Addr), EM (X.blk s H scope (compEnvC scope cl C X.env) fp) elt te) (hgl : Gl X "len" := by rfl) (hs : ∀ x, foldedSetIterable iter X.env x = pure x := by intro _; rfl)
    (h1 : starEach [.SetComp elt [⟨tg, iter, ifs, 0⟩] scope pos] X.env = [(false, eval (.SetComp elt [⟨tg, iter, ifs, 0⟩] scope pos) X.env)] := by rfl) (hpl : (backTo cpos (starEach [] X.env)).any (·.1) = false := by rfl) :
    EM X (.Call (.Name "len" p) [.SetComp elt [⟨tg, iter, ifs, 0⟩] scope pos] [] cpos) (mLenSc mi g tt te (own.map (·.2))) := by
  have z1 := (hg X.s_0 X.H_0 0 [] []).mono
  have z2 := (ht X.s_0 X.H_0 0 [] []).mono
  have z3 := (he X.s_0 X.H_0 0 [] []).mono
  refine ⟨mono_lsc hi.mono z1 z2 z3, pe_weak (pe_callB (cr_lenW) hgl hm (by decide +kernel) (pa_cons (pe_setW (wayW X.prog X.w) (wi := TIof X.K mi) (g := TGof X.K (own.map (·.2)) g) (tt := TTof X.K tt) (te := TEof X.K te) hc hN hi.run (blkOk_by ok) (fun s H C cl fp => (hg s H C cl fp).run) (fun s H C cl fp => (ht s H C cl fp).run) (fun s H C cl fp => (he s H C cl fp).run) hs) pa_nil h1) (by decide) (by decide) h1 hpl) fun σ H Q h => lsc_meets hi.mono z1 z2 z3 h⟩
end
end DL

/-! "..".replace("..", ".."), all written. -/
namespace DL
open PySem PySem.Spec PyProof.Rows L2
section
variable {X : Cx} {a y z : Str} {j0 j1 j2 : Nat} {p0 p1 p2 apos pos : Pos}
theorem em_replC (hyz : (y == z) = false) (hl : a.length + (a.length + 1) * z.length ≤ 16777216)
    (hst : starEach [.Constant (.str y) j1 p1, .Constant (.str z) j2 p2] X.env = [(false, eval (.Constant (.str y) j1 p1) X.env), (false, eval (.Constant (.str z) j2 p2) X.env)] := by rfl)
    (hbase : attributeBase (.Constant (.str a) j0 p0) "replace" X.env (eval (.Constant (.str a) j0 p0) X.env) = eval (.Constant (.str a) j0 p0) X.env := by rfl) (hline : (apos.endLine == pos.line) = true := by rfl) :
    EM X (.Call (.Attribute (.Constant (.str a) j0 p0) "replace" apos) [.Constant (.str y) j1 p1, .Constant (.str z) j2 p2] [] pos) (mPure (.str (Txt.replace a y z))) := by
  refine em_c (v := .str (Txt.replace a y z)) ⟨fun pins s σ H Q I h => ?_⟩ fun _ _ => .str _
  refine PySem.Call_method2 hbase hst hline (Calls.Constant_str ?_)
  refine ⟨"str", _, F.plainAttrs_str, F.slot_str_replace, F.type_str_replace, typeIs_str _ _ _, (fun _ e => nomatch e), Calls.callWith_builtin rfl (Calls.evalArgs_plain (Calls.spliced_cons ?_))⟩
  refine Calls.Constant_str ?_
  refine Calls.spliced_cons (Calls.Constant_str ?_)
  refine Calls.spliced_nil ?_
  refine PySem.SC.replace ?_ ?_ ?_ hyz hl fun t' k => ⟨.str (Txt.replace a y z), H, I.tok k, ⟨t', rfl⟩, h⟩
  · exact Nat.succ_ne_zero s.toks
  · exact Nat.succ_ne_zero (s.toks + 1)
  · exact Nat.ne_of_lt (Nat.lt_succ_self (s.toks + 1))
end
end DL

/-! f(e, .., nm=e'), f a def of the text. -/
namespace DL
open PySem PySem.Spec PyProof.Rows L2
def mFnK (n : Nat) (F : FS) (m : M (List D)) (m' : M D) : M D := fun ρ k => m ρ fun ds ρ1 => m' ρ1 fun d ρ2 => (ds ++ [d]).length = n ∧ F (ds ++ [d]) fun _ r => k r ρ2
/-- how its arguments bind: j by place, the last one by name -/
def BindsK (K : PySem.W.Frag) (fd : FuncData) (ps : List Str) (nm : Str) : Prop := ∀ (s : Shared) (us : List Value) (w : Value), K.In s.heap → (us ++ [w]).length = ps.length → BindsTo s fd ⟨us, [(nm, w)]⟩ (ps.zip (us ++ [w]))
section
variable {X : Cx} {k n : Nat} {f : Addr} {fd : FuncData} {ps : List Str} {x nm : Str} {p pos kpos : Pos} {e e' : Expr} {es : List Expr} {m : M (List D)} {m' : M D} {F : FS}
theorem em_fnK (G : FnG X.prog X.w X.K X.mg X.base CX0 k f fd ps (sp0 X.K n F)) (mF : PmS F) (hr : Rm k X.A) (hg : Gl X x) (hm : X.mg x = some (.ref f)) (hk : PySem.W.keepIn X.K (.ref f) = true) (hb : BindsK X.K fd ps nm)
    (ha : AM X (e :: es) m) (hc : EM X e' m') (hdb : (x == ("__debug__" : Str)) = false := by decide)
    (he : starEach (e :: es) X.env = (false, eval e X.env) :: starEach es X.env := by rfl)
    (hpl : ((backTo pos (starEach (e :: es) X.env)).any (·.1) || (backToKw pos (keywordEach [⟨some nm, e', kpos⟩] X.env)).any (·.1.isNone)) = false := by rfl)
    (hall : (backToKw pos (keywordEach [⟨some nm, e', kpos⟩] X.env)).all (·.1.isSome) = true := by rfl) (hks : (backToKw pos (keywordEach [⟨some nm, e', kpos⟩] X.env)).filterMap (·.1) = [nm] := by rfl) :
    EM X (.Call (.Name x p) (e :: es) [⟨some nm, e', kpos⟩] pos) (mFnK n F m m') := by
  refine ⟨fun ρ k k' w q => ha.mono ρ _ _ (fun ds ρ1 q1 => hc.mono ρ1 _ _ (fun d ρ2 q2 => ⟨q2.1, mF _ _ _ (fun b d q3 => w _ _ q3) q2.2⟩) q1) q, ⟨?_⟩⟩
  intro pins s σ H Q I h
  obtain ⟨G', loc, ρ, R, q⟩ := h
  refine wpAny_Call_Name_kw (ld_glob I hg hm ?_ hdb)
  refine PySem.W.callWith_KW (h₀ := X.base) I.ok.mod.kin hk hall ?_ hpl he
  refine thn (ha.run.run pos pins s σ H (fun vs H1 => ∃ (ρ1 : List Slot) (ds : List D), Rep X.K G' ρ1 loc σ H1 ∧ Grow (Fb G'.fb ρ loc) (Fb G'.fb ρ1 loc) H H1 ∧ DxAll X.K H1 (Fb G'.fb ρ1 loc) vs ds ∧
      m' ρ1 fun d ρ2 => (ds ++ [d]).length = n ∧ F (ds ++ [d]) fun _ r => (fun r ρ' => ∀ v H', Rep X.K G' ρ' loc σ H' → Grow (Fb G'.fb ρ loc) (Fb G'.fb ρ' loc) H H' → Dx X.K H' (Fb G'.fb ρ' loc) v r → Q v H') r ρ2) I
    ⟨G', loc, ρ, R, ha.mono ρ _ _ (fun ds ρ1 q1 vs H1 R1 g1 d1 => ⟨ρ1, ds, R1, g1, d1, q1⟩) q⟩) ?_
  rintro us s1 ⟨vs, H1, I1, r1, ρ1, ds, R1, g1, d1, q1⟩
  refine thn ((pk_cons hc.run pk_nil).run pos pins s1 σ H1 (fun zs H2 => ∃ (ρ2 : List Slot) (d : D) (z : V), zs = [z] ∧ Rep X.K G' ρ2 loc σ H2 ∧ Grow (Fb G'.fb ρ1 loc) (Fb G'.fb ρ2 loc) H1 H2 ∧ Dx X.K H2 (Fb G'.fb ρ2 loc) z d ∧
      ((ds ++ [d]).length = n ∧ F (ds ++ [d]) fun _ r => ∀ v H', Rep X.K G' ρ2 loc σ H' → Grow (Fb G'.fb ρ loc) (Fb G'.fb ρ2 loc) H H' → Dx X.K H' (Fb G'.fb ρ2 loc) v r → Q v H')) I1
    ⟨G', loc, ρ1, R1, hc.mono ρ1 _ _ (fun d ρ2 q2 z H2 R2 g2 d2 => ⟨ρ2, d, z, rfl, R2, g2, d2, q2⟩) q1⟩) ?_
  rintro ws s2 ⟨zs, H2, I2, r2, ρ2, d, z, rfl, R2, g2, d2, q2⟩
  refine ⟨I2.kIn, ?_⟩
  obtain ⟨wv, rfl, rw1⟩ := vals1 r2
  rw [hks]
  have dall : DxAll X.K H2 (Fb G'.fb ρ2 loc) (vs ++ [z]) (ds ++ [d]) := (d1.g g2).append (.cons d2 .nil)
  have rel : Vals (vs ++ [z]) (us ++ [wv]) := r1.append (.cons rw1 .nil)
  have prom : sp0 X.K n F (vs ++ [z]) H2 Q (fun _ _ _ => False) := ⟨Fb G'.fb ρ2 loc, ds ++ [d], R2.fbE, dall, q2.1, mF _ _ _ (fun b r q3 v H3 m3 d3 _ => q3 v H3 (R2.more m3) ((g1.trans g2).trans (more_grow m3)) d3) q2.2⟩
  have many : (us ++ [wv]).length = ps.length := rel.length.symm.trans (G.len _ _ _ _ prom)
  refine wpAny_call (codeAny_mono (G.run X.A X.stack s2 H2 ⟨us, [(nm, wv)]⟩ (us ++ [wv]) (vs ++ [z]) Q _ hr I2.env0 (hb s2 us wv I2.kIn many) rel prom) ?_)
  intro out s' got
  match out, got with
  | .error err, got => exact (show False from got).elim
  | .ok (.ret u), got => exact I2.after got
  | .ok .next, got => exact got.elim
  | .ok .brk, got => exact got.elim
  | .ok .cont, got => exact got.elim
end
end DL

/-! An exception class of the text, out of what is written of it. -/
namespace DL
open PySem PySem.Spec PyProof.Rows L2
/-- a class's first def -/
def clsInit (s : Stmt) : Stmt := match s with
  | .ClassDef _ _ _ body _ _ _ _ _ _ _ => body.getD 0 (.Pass ⟨0, 0, 0, 0⟩)
  | s => s
theorem exm_own {K : PySem.W.Frag} {S : Addr} (h1 : PySem.W.subIn K (.ref S) (.type "BaseException") = some true) (h2 : PySem.W.isClsIn K S = true) (h3 : PySem.W.typeIn K (.ref S) = some (.type "type")) (h4 : PySem.W.subIn K (.ref S) (.ref S) = some true) :
    PySem.W.exmOne K (.ref S) (.ref S) = some true := by
  have h2' : (PySem.W.clsIn K S).isSome = true := h2
  unfold PySem.W.exmOne PySem.W.kitCls
  simp [h1, h2', h3, h4]
theorem xcls_of {K : PySem.W.Frag} {mg : Str → Option Value} {x qual nm q : Str} {C fI N : Addr} {fd : FuncData} {st : Stmt} {bs : List Value} {sn : List Str} {sub : List Value} {ab : Bool} {col : Option Bool} {dd : Option Addr} {m0 m1 m2 m3 m5 : Option Value}
    (aC : FnAt K x C) (gC : mg x = some (.ref C)) (xL : K.lookup C = some (excClassObj nm q C N bs [.type "ValueError", .type "Exception", .type "BaseException", .type "object"] true sn sub ab col dd m0 m1 m2 m3 m5 "ValueError.__new__"))
    (sa : PySem.W.findIn K (.ref C) "__setattr__" = some (some (.builtin "object.__setattr__"))) (ga : PySem.W.findIn K (.ref C) "__getattribute__" = some (some (.builtin "BaseException.__getattribute__"))) (gg : PySem.W.findIn K (.ref C) "__getattr__" = some none)
    (nb : PySem.W.findIn K (.ref C) "what" = some none) (a1 : PySem.W.findIn K (.ref C) "__init__" = some (some (.ref fI))) (t1 : PySem.W.typeIn K (.ref fI) = some (.type "function"))
    (kC : PySem.W.keepIn K (.ref C) = true) (eC : PySem.W.subIn K (.ref C) (.type "BaseException") = some true) (tC : PySem.W.typeIn K (.ref C) = some (.type "type")) (hC : PySem.W.hasDictIn K C = true) (iC : PySem.W.isClsIn K C = true) (sC : PySem.W.subIn K (.ref C) (.ref C) = some true)
    (F : Fun K "__init__" qual st fI fd) (b : Binds K fd ["self", "what"] []) (nV : mg "ValueError" = none) (vV : PySem.W.findCls K (.type "ValueError") (.type "type") "__init__" = some (.val (.builtin "ValueError.__init__"))) : XCls K mg x qual C fI fd st :=
  ⟨aC, gC, ⟨⟨nm, q, N, bs, _, sn, sub, ab, col, dd, m0, m1, m2, m3, m5, xL, by decide +kernel⟩, sa, eC, tC, kC⟩, a1, t1, nb, ⟨ga, gg, eC, hC⟩, exm_own eC iC tC sC, F, b, nV, vV⟩
/-- the __init__ of such a class, walked -/
theorem init_run {X : Cx} {p1 p2 p3 p4 p5 p6 q1 q2 q3 q4 : Pos} {k4 : Nat} {msg : Str} {pl : Sem Bool} (hg : Gl X "ValueError") (hm : X.mg "ValueError" = none) (vV : PySem.W.findCls X.K (.type "ValueError") (.type "type") "__init__" = some (.val (.builtin "ValueError.__init__")))
    (h0 : X.N[0]? = some ("self" : Str)) (h1 : X.N[1]? = some ("what" : Str)) (v0 : Vis X.env.scope "self") (v1 : Vis X.env.scope "what")
    (hc : eval (.Call (.Attribute (.Name "ValueError" p1) "__init__" p2) [.Name "self" p3, .Constant (.str msg) k4 p4] [] p5) X.env = (do
      let ov ← eval (.Name "ValueError" p1) X.env
      standAt p2.atName
      let (f, first) ← holding [ov] (getMethod ov "__init__" pl)
      callWith p5 f first (backTo p5 (starEach [.Name "self" p3, .Constant (.str msg) k4 p4] X.env)) (backToKw p5 (keywordEach [] X.env))))
    (he : starEach [.Name "self" p3, .Constant (.str msg) k4 p4] X.env = (false, eval (.Name "self" p3) X.env) :: starEach [.Constant (.str msg) k4 p4] X.env) (he2 : starEach [.Constant (.str msg) k4 p4] X.env = (false, eval (.Constant (.str msg) k4 p4) X.env) :: starEach [] X.env)
    (hpl : (backTo p5 (starEach [.Constant (.str msg) k4 p4] X.env)).any (·.1) = false)
    (hs1 : swapsWith (.Call (.Attribute (.Name "ValueError" p1) "__init__" p2) [.Name "self" p3, .Constant (.str msg) k4 p4] [] p5) none p6.line X.env = pure false) (hs2 : swapsWith (.Name "what" q3) (some (.Attribute (.Name "self" q1) "what" q2)) q4.line X.env = pure false) :
    PSs X [.Expr (.Call (.Attribute (.Name "ValueError" p1) "__init__" p2) [.Name "self" p3, .Constant (.str msg) k4 p4] [] p5) p6, .Assign [.Attribute (.Name "self" q1) "what" q2] (.Name "what" q3) q4] (tInit X.K msg) :=
  pss_cons (ps_expr (pe_veinit hg hm vV (pa_cons (pe_var h0 v0) (pa_cons pe_str pa_nil he2) he) hc he hpl) hs1) (pss_one (ps_ost (pe_var h0 v0) (pe_var h1 v1) hs2))
end DL

/-! A def that may raise and what it means, as one. -/
namespace DL
open PySem PySem.Spec PyProof.Rows L2
structure OkX (P : Program) (w : World) (K : PySem.W.Frag) (mg : Str → Option Value) (base : Heap) (k : Nat) (f : Addr) (fd : FuncData) (ps : List Str) (n : Nat) (C : Addr) (F : FX) : Prop where
  ok : FnG P w K mg base (L2.CX P w) k f fd ps (spX K n C F)
  pm : PmX F
section
variable {P : Program} {w : World} {K : PySem.W.Frag} {mg : Str → Option Value} {base : Heap} {x qual : Str} {st : Stmt} {f C : Addr} {fd : FuncData} {N ps : List Str} {k : Nat} {m1 m2 : SMon} {mt : M Bool} {mw : M (List D)} {S1 S2 : Stmt} {t fe e' : Expr} {pr pi pc : Pos}
theorem okX_of (hk : k ≤ 300) (F : Fun K x qual st f fd) (S : FnScope N ps (defScope st)) (hd : defBody st = [S1, .If t [.Raise (some (.Call fe [e'] [] pc)) none pr] [] pi, S2])
    (h1 : ∀ (cdv : Value) (A : Around) (outer : List Env) (s : Shared) (H : Hp) (E : XK), Rm k (A.deeper (envOfC qual (defScope st) s.heap.objs.size f cdv)) → SM (cxOf (L2.CX P w) P w K mg base N qual (defScope st) f cdv A outer s H E) S1 m1)
    (ht : ∀ (cdv : Value) (A : Around) (outer : List Env) (s : Shared) (H : Hp) (E : XK), Rm k (A.deeper (envOfC qual (defScope st) s.heap.objs.size f cdv)) → TM (cxOf (L2.CX P w) P w K mg base N qual (defScope st) f cdv A outer s H E) t mt)
    (hw : ∀ (cdv : Value) (A : Around) (outer : List Env) (s : Shared) (H : Hp) (E : XK), Rm k (A.deeper (envOfC qual (defScope st) s.heap.objs.size f cdv)) → PMk (cxOf (L2.CX P w) P w K mg base N qual (defScope st) f cdv A outer s H E) (.Call fe [e'] [] pc) (tMkD K C mw))
    (ha : ∀ (cdv : Value) (A : Around) (outer : List Env) (s : Shared) (H : Hp) (E : XK), Rm k (A.deeper (envOfC qual (defScope st) s.heap.objs.size f cdv)) → AM (cxOf (L2.CX P w) P w K mg base N qual (defScope st) f cdv A outer s H E) [e'] mw)
    (h2 : ∀ (cdv : Value) (A : Around) (outer : List Env) (s : Shared) (H : Hp) (E : XK), Rm k (A.deeper (envOfC qual (defScope st) s.heap.objs.size f cdv)) → SM (cxOf (L2.CX P w) P w K mg base N qual (defScope st) f cdv A outer s H E) S2 m2) :
    OkX P w K mg base (k + 1) f fd ps ps.length C (fxS m1 mt mw m2 (N.length - ps.length)) := by
  have z1 := (h1 .none { guards := some [] } [] {} (fun _ => none) (fun _ _ _ => False) (room0 hk _)).mono
  have z2 := (ht .none { guards := some [] } [] {} (fun _ => none) (fun _ _ _ => False) (room0 hk _)).mono
  have z3 := (ha .none { guards := some [] } [] {} (fun _ => none) (fun _ _ _ => False) (room0 hk _)).mono
  have z4 := (h2 .none { guards := some [] } [] {} (fun _ => none) (fun _ _ _ => False) (room0 hk _)).mono
  exact ⟨fnX F S hd h1 ht hw z3 h2, pm_fxS z1 z2 z3 z4 _⟩
theorem bindsK_of {nm : Str} {j : Nat} (F : Fun K x qual st f fd) (hj : ps.length = j + 1) (h : ∀ (kV doc pm : Value) (an : Option Addr) (cdv ct : Value) (us : List Value) (v : Value), us.length = j → bindArgs (PySem.W.fnOf x qual (defArgs st) (defBody st) (defScope st) .none kV doc pm an cdv ct) ⟨us, [(nm, v)]⟩ = pure (ps.zip (us ++ [v]))) : BindsK K fd ps nm := by
  obtain ⟨oc, od, kV, doc, pm, an, cdv, ct, osl, rfl, lk, hcd⟩ := F.ex
  exact fun s us v _ hl => .of_eq (h kV doc pm an cdv ct us v (by rw [List.length_append, hj] at hl; simpa using hl))
end
end DL

/-! sum(lists, list). -/
namespace DL
open PySem PySem.Spec PyProof.Rows L2
theorem sub_list_str : isSubtype (.type "list") (.type "str") = pure false := by rw [isSubtype_type]; kernel_rfl
theorem sub_list_bytes : isSubtype (.type "list") (.type "bytes") = pure false := by rw [isSubtype_type]; kernel_rfl
theorem sub_list_bytearray : isSubtype (.type "list") (.type "bytearray") = pure false := by rw [isSubtype_type]; kernel_rfl
theorem args_sum2 (a v : Value) : argsOk "sum" ⟨[a, v], []⟩ := by unfold argsOk; kernel_rfl
section
variable {prog : Program} {w : World} {A : Around} {E : Value → Shared → Prop}
theorem sumL_loop {R : Result → Shared → Prop} {S I l : Addr} {items : Array Value} (hh : A.handled = none) (hlI : l ≠ I) (hSI : S ≠ I) (hSl : S ≠ l) :
    ∀ (rest : List (Addr × List Value)) (i : Nat) (tot : Addr) (acc : List Value) (n c : Nat) (s : Shared), items.size = i + rest.length →
      (∀ (j : Nat) (q : Addr × List Value), rest[j]? = some q → items[i + j]? = some (.ref q.1) ∧ q.1 ≠ S ∧ q.1 ≠ I ∧ ∃ m, IsL s.heap q.1 q.2.toArray m) →
      acc.length + (rest.map (·.2.length)).sum ≤ sizeLine → tot ≠ S → tot ≠ I → IsL s.heap tot acc.toArray n →
      s.heap.IsListIter I l i → s.heap.IsList l items → s.heap.get? S = some { cls := .type "list", dict := none, data := .seq #[.ref tot] c, slots := #[] } →
      (∀ h' tk tot' m, IsL h' tot' (acc ++ (rest.map (·.2)).flatten).toArray m → (rest = [] ∧ tot' = tot ∨ s.heap.objs.size ≤ tot') → (∀ b o, b ≠ S → b ≠ I → s.heap.get? b = some o → h'.get? b = some o) → R (.ok (.ret (.ref tot'))) { s with heap := h', toks := tk }) →
      codeAny (model prog w) A (.builtin "sum.loop" ⟨[.ref I, .ref S, rawInt 2, rawInt 0], []⟩) R s
  | [], i, tot, acc, n, c, s, hsz, ht, hlen, htS, htI, htot, hit, hl, hS, hR => by
    refine codeAny_builtin F.entry_sum_loop ?_
    rw [Around.under_plainId F.plain_sum_loop _]
    show wpAny _ A.in1 (seqItems? (.ref S) >>= _) _ _ s
    refine wpAny_bind (wpAny_seqItems hS rfl ?_)
    show wpAny _ A.in1 (tryCatch (pyNext (.ref I)) _ >>= _) _ _ s
    refine wpAny_bind (wpAny_tryCatch (wpAny_pyNext_list_end (A := A.in1) hh hit hl (by first | exact Array.getElem?_eq_none (Nat.le_of_eq hsz) | (simp at hsz; simp; omega)) fun h' he => ?_))
    refine wpAny_pure (hR h' s.toks tot n ?_ (.inl ⟨rfl, rfl⟩) fun b o _ hb e => he b o hb e)
    simpa using he tot _ htI htot
  | q :: rest, i, tot, acc, n, c, s, hsz, ht, hlen, htS, htI, htot, hit, hl, hS, hR => by
    obtain ⟨hb, hbS, hbI, m, hq⟩ := ht 0 q rfl
    rw [List.length_cons] at hsz
    rw [List.map_cons, List.sum_cons] at hlen
    refine codeAny_builtin F.entry_sum_loop ?_
    rw [Around.under_plainId F.plain_sum_loop _]
    show wpAny _ A.in1 (seqItems? (.ref S) >>= _) _ _ s
    refine wpAny_bind (wpAny_seqItems hS rfl ?_)
    show wpAny _ A.in1 (tryCatch (pyNext (.ref I)) _ >>= _) _ _ s
    refine wpAny_bind (wpAny_tryCatch (wpAny_pyNext_list_item (x := .ref q.1) hit hl (by simpa using hb) fun h1 hit1 hs1 => ?_))
    have hq1 : IsL h1 q.1 q.2.toArray m := hs1.extBut q.1 _ hbI hq
    have htot1 : IsL h1 tot acc.toArray n := hs1.extBut tot _ htI htot
    have hl1 : h1.IsList l items := hl.extBut hs1.extBut hlI
    have hS1 := hs1.extBut S _ hSI hS
    show wpAny _ A.in1 ((holding [Value.ref q.1] (binaryOp .Add (.ref tot) (.ref q.1))).attempt >>= _) _ _ _
    refine wpAny_bind (wpAny_attempt (wpAny_holding (PySem.P.add_list htot1 hq1 ?_ (by rw [List.size_toArray, List.size_toArray]; omega))))
    have hSl' : ∀ x : Addr, (∃ o, h1.get? x = some o) → x ≠ h1.objs.size := fun x ⟨o, e⟩ => Nat.ne_of_lt (Heap.lt_size e)
    have pS : h1.objs.size ≠ S := Ne.symm (hSl' S ⟨_, hS1⟩)
    have pI : h1.objs.size ≠ I := Ne.symm (hSl' I (let ⟨o, ho, _⟩ := hit1; ⟨o, ho⟩))
    have e0 : acc.toArray ++ q.2.toArray = (acc ++ q.2).toArray := by simp
    have S2 : (h1.push { cls := .type "list", data := .seq (acc.toArray ++ q.2.toArray) }).get? S = some { cls := .type "list", dict := none, data := .seq #[.ref tot] c, slots := #[] } := Heap.get?_push_of_some _ hS1
    dsimp only
    refine wpAny_bind (wpAny_updateSeq S2 rfl ?_)
    have S3 := Heap.get?_update_self (Obj.mapSeq fun _ => #[Value.ref h1.objs.size]) S2 rfl
    refine wpAny_bind (wpAny_letGo ?_)
    refine wpAny_bind (wpAny_updateSeq S3 rfl ?_)
    have keep : ∀ b o, b ≠ S → (h1.push { cls := .type "list", data := .seq (acc.toArray ++ q.2.toArray) }).get? b = some o → (((h1.push { cls := .type "list", data := .seq (acc.toArray ++ q.2.toArray) }).update S (Obj.mapSeq fun _ => #[Value.ref h1.objs.size])).update S (Obj.mapSeq fun _ => #[Value.ref h1.objs.size])).get? b = some o := fun b o hb e =>
      (Heap.get?_update_other _ _ (Ne.symm hb)).trans ((Heap.get?_update_other _ _ (Ne.symm hb)).trans e)
    have keep1 : ∀ b o, b ≠ S → h1.get? b = some o → (((h1.push { cls := .type "list", data := .seq (acc.toArray ++ q.2.toArray) }).update S (Obj.mapSeq fun _ => #[Value.ref h1.objs.size])).update S (Obj.mapSeq fun _ => #[Value.ref h1.objs.size])).get? b = some o := fun b o hb e => keep b o hb (Heap.get?_push_of_some _ e)
    have S4 := Heap.get?_update_self (Obj.mapSeq fun _ => #[Value.ref h1.objs.size]) S3 rfl
    refine wpAny_pure ⟨plainId_quiet F.plain_sum_loop _, sumL_loop (items := items) hh hlI hSI hSl rest (i + 1) h1.objs.size (acc ++ q.2) 0 _ _ (by omega) (fun j q' e => ?_) ?_ pS pI ?_ (hit1.at fun o' e => keep1 I o' (Ne.symm hSI) e) (hl1.at fun o' e => keep1 l o' (Ne.symm hSl) e) S4 fun h' tk tot' m' e1 e2 e3 => ?_⟩
    · obtain ⟨z1, z2, z3, m', z4⟩ := ht (j + 1) q' (by simpa using e)
      exact ⟨by rw [show i + 1 + j = i + (j + 1) by omega]; exact z1, z2, z3, m', keep1 _ _ z2 (hs1.extBut _ _ z3 z4)⟩
    · rw [List.length_append]; omega
    · rw [← e0]
      exact keep _ _ pS (Heap.get?_push_size _ rfl)
    · have z1 : s.heap.objs.size = h1.objs.size := hs1.1.symm
      refine hR h' tk tot' m' ?_ (.inr ?_) fun b o hb1 hb2 e => e3 b o hb1 hb2 (keep1 b o hb1 (hs1.extBut b o hb2 e))
      · rw [List.map_cons, List.flatten_cons, ← List.append_assoc]; exact e1
      · rcases e2 with ⟨_, rfl⟩ | e2
        · omega
        · have z2 := ((Heap.SameBut.update (h1.push { cls := .type "list", data := .seq (acc.toArray ++ q.2.toArray) }) S (Obj.mapSeq fun _ => #[Value.ref h1.objs.size])).trans (Heap.SameBut.update _ S (Obj.mapSeq fun _ => #[Value.ref h1.objs.size]))).1
          have z3 : h1.objs.size < (h1.push { cls := .type "list", data := .seq (acc.toArray ++ q.2.toArray) }).objs.size := Heap.lt_size (Heap.get?_push_size _ rfl)
          have e2 := Nat.le_trans (Nat.le_of_eq z2.symm) e2
          omega
theorem sumL_raw {s : Shared} {a b : Addr} {its : List (Addr × List Value)} {st : List Value} {m : Nat} {Q : Value → Shared → Prop} (hh : A.handled = none) (hl : s.heap.IsList a (its.map fun q => Value.ref q.1).toArray) (hst : IsL s.heap b st.toArray m)
    (ht : ∀ q ∈ its, ∃ m, IsL s.heap q.1 q.2.toArray m) (hlen : st.length + (its.map (·.2.length)).sum ≤ sizeLine)
    (h : ∀ h' tk tot' m, IsL h' tot' (st ++ (its.map (·.2)).flatten).toArray m → (its = [] ∧ tot' = b ∨ s.heap.objs.size ≤ tot') → (∀ b o, s.heap.get? b = some o → h'.get? b = some o) → Q (.ref tot') { s with heap := h', toks := tk }) :
    wpAny (model prog w) A (call (.builtin "sum") [.ref a, .ref b]) Q E s := by
  refine call_function_tree F.kind_sum F.plain_sum F.entry_sum (args_sum2 _ _) ?_
  unfold Builtin.«sum»
  simp only [List.length_cons, List.length_nil]
  rw [if_neg (by decide)]
  refine wpAny_bind (wpAny_of_eq (show Builtin.Builtins.bindParams "sum" ["start"] 0 ⟨[.ref b], []⟩ = pure [some (.ref b)] from rfl) ?_)
  refine wpAny_bind (wpAny_pyIter_list hl ?_)
  dsimp only
  refine wpAny_bind (wpAny_pure ?_)
  simp only [List.forIn_cons, List.forIn_nil]
  have k1 : ∀ c o, s.heap.get? c = some o → (s.heap.push { cls := .type "list_iterator", data := .fields #[.ref a, .int 0 0] }).get? c = some o := fun c o e => Heap.get?_push_of_some _ e
  have hT : ({ s with heap := s.heap.push { cls := .type "list_iterator", data := .fields #[.ref a, .int 0 0] } } : Shared).TypeIs (.ref b) "list" := ⟨_, k1 _ _ hst, rfl⟩
  refine wpAny_bind (wpAny_bind (wpAny_bind (wpAny_isInstance (T := "list") (b := false) hT sub_list_str ?_)))
  simp only [Bool.false_eq_true, if_false]
  refine wpAny_pure (wpAny_bind (wpAny_bind (wpAny_isInstance (T := "list") (b := false) hT sub_list_bytes ?_)))
  simp only [Bool.false_eq_true, if_false]
  refine wpAny_pure (wpAny_bind (wpAny_bind (wpAny_isInstance (T := "list") (b := false) hT sub_list_bytearray ?_)))
  simp only [Bool.false_eq_true, if_false]
  refine wpAny_pure (wpAny_pure ?_)
  refine wpAny_bind (wpAny_newObj_type ?_)
  have it0 : (s.heap.push { cls := .type "list_iterator", data := .fields #[.ref a, .int 0 0] }).get? s.heap.objs.size = some { cls := .type "list_iterator", data := .fields #[.ref a, .int 0 0] } := Heap.get?_push_size _ rfl
  have hSz : s.heap.objs.size < (s.heap.push { cls := .type "list_iterator", data := .fields #[.ref a, .int 0 0] }).objs.size := Heap.lt_size it0
  have old : ∀ c o, s.heap.get? c = some o → c ≠ (s.heap.push { cls := .type "list_iterator", data := .fields #[.ref a, .int 0 0] }).objs.size ∧ c ≠ s.heap.objs.size := fun c o e => ⟨Nat.ne_of_lt (Nat.lt_trans (Heap.lt_size e) hSz), Nat.ne_of_lt (Heap.lt_size e)⟩
  obtain ⟨oa, ha, ra⟩ := hl
  have k2 : ∀ c o, s.heap.get? c = some o → ((s.heap.push { cls := .type "list_iterator", data := .fields #[.ref a, .int 0 0] }).push { cls := .type "list", data := .seq #[.ref b] }).get? c = some o := fun c o e => Heap.get?_push_of_some _ (k1 c o e)
  refine wpAny_pure ⟨plainId_quiet F.plain_sum_loop _, sumL_loop (items := (its.map fun q => Value.ref q.1).toArray) (l := a) hh (old _ _ ha).2 (Ne.symm (Nat.ne_of_lt hSz)) (Ne.symm (old _ _ ha).1) its 0 b st m 0 _ (by simp) (fun j q e => ?_) hlen (old _ _ hst).1 (old _ _ hst).2 (k2 _ _ hst) ⟨_, Heap.get?_push_of_some _ it0, rfl, rfl⟩ ⟨oa, k2 _ _ ha, ra⟩ (Heap.get?_push_size _ rfl) fun h' tk tot' m' e1 e2 e3 => ?_⟩
  · obtain ⟨m', hm⟩ := ht q (List.mem_of_getElem? e)
    refine ⟨?_, (old _ _ hm).1, (old _ _ hm).2, m', k2 _ _ hm⟩
    rw [Nat.zero_add, List.getElem?_toArray, List.getElem?_map, e]; rfl
  · refine h h' tk tot' m' e1 ?_ fun c o e => e3 c o (old c o e).1 (old c o e).2 (k2 c o e)
    rcases e2 with e2 | e2
    · exact .inl e2
    · right
      have z : (s.heap.push { cls := .type "list_iterator", data := .fields #[.ref a, .int 0 0] }).objs.size < ((s.heap.push { cls := .type "list_iterator", data := .fields #[.ref a, .int 0 0] }).push { cls := .type "list", data := .seq #[.ref b] }).objs.size := Heap.lt_size (Heap.get?_push_size _ rfl)
      have e2 : ((s.heap.push { cls := .type "list_iterator", data := .fields #[.ref a, .int 0 0] }).push { cls := .type "list", data := .seq #[.ref b] }).objs.size ≤ tot' := e2
      omega
end
/-! ### the rule, by values and by data -/
def rSumL (K : PySem.W.Frag) : List V → Hp → VK → Prop := fun vs H Q => ∃ (a b : Addr) (ps : List Addr) (xss : List (List V)) (st : List V), vs = [V.ref a, V.ref b] ∧ SqL K H a (ps.map V.ref) ∧ H b = some (.lst st) ∧ ps.length = xss.length ∧
  (∀ (j : Nat) (p : Addr) (xs : List V), ps[j]? = some p → xss[j]? = some xs → H p = some (.lst xs)) ∧ st.length + (xss.map (·.length)).sum ≤ sizeLine ∧
  (ps = [] → Q (.ref b) H) ∧ ∀ p, H p = none → Q (.ref p) (upd H p (.lst (st ++ xss.flatten)))
theorem sum_of {X : Cx} {pins : List (Addr × Obj)} {σ : L2.St} {H : Hp} {s : Shared} (I : L2.Inv X pins σ H s) : ∀ (ps : List Addr) (xss : List (List V)), ps.length = xss.length → (∀ (j : Nat) (p : Addr) (xs : List V), ps[j]? = some p → xss[j]? = some xs → H p = some (.lst xs)) →
    ∃ its : List (Addr × List Value), its.map (·.1) = ps ∧ Vals xss.flatten (its.map (·.2)).flatten ∧ (its.map (·.2.length)) = xss.map (·.length) ∧ ∀ q ∈ its, ∃ m, IsL s.heap q.1 q.2.toArray m
  | [], [], _, _ => ⟨[], rfl, .nil, rfl, fun _ h => nomatch h⟩
  | [], _ :: _, h, _ => nomatch h
  | _ :: _, [], h, _ => nomatch h
  | p :: ps, xs :: xss, hl, h => by
    obtain ⟨its, h1, h2, h3, h4⟩ := sum_of I ps xss (by simpa using hl) fun j p' xs' e1 e2 => h (j + 1) p' xs' (by simpa using e1) (by simpa using e2)
    obtain ⟨_, vs, n, rv, lv, e⟩ := I.lstM (h 0 p xs rfl rfl)
    refine ⟨(p, vs) :: its, by rw [List.map_cons, h1], ?_, by rw [List.map_cons, List.map_cons, h3, lv], fun q hq => ?_⟩
    · rw [List.flatten_cons, List.map_cons, List.flatten_cons]
      exact rv.append h2
    · rcases List.mem_cons.mp hq with rfl | hq
      · exact ⟨n, e⟩
      · exact h4 q hq
theorem cr_sumL {X : Cx} (hc : X.calm = true) : CallR X (.builtin "sum") (rSumL X.K) := by
  intro pins s σ H vs us Q I r h
  obtain ⟨a, b, ps, xss, st, rfl, hs, hb, hlen, hp, hz, q0, q⟩ := h
  obtain ⟨its, rv, hl, _⟩ := I.list hs
  have := refs_at rv
  subst this
  obtain ⟨L, e1, e2, e3, e4⟩ := sum_of I ps xss hlen hp
  obtain ⟨_, sv, n, rs, ls, es⟩ := I.lstM hb
  have hu : us = [Value.ref a, Value.ref b] := by
    cases r with
    | cons r1 t =>
      cases r1
      cases t with
      | cons r2 t2 => cases r2; cases t2; rfl
  subst hu
  have el : (ps.map Value.ref) = L.map fun q => Value.ref q.1 := by rw [← e1, List.map_map]; rfl
  rw [el] at hl
  refine sumL_raw (its := L) (st := sv) (I.ok.hd hc) hl.isList es e4 (by rw [e3, ← ls]; exact hz) fun h' tk tot' m f1 f2 f3 => ?_
  rcases f2 with ⟨rfl, rfl⟩ | f2
  · exact ⟨.ref tot', H, I.kept f3, rfl, q0 e1.symm⟩
  · refine ⟨.ref tot', upd H tot' (.lst (st ++ xss.flatten)), I.laid (t' := tk) f3 f2 ⟨?_, _, m, rs.append e2, f1⟩, rfl, q _ (I.hok.fresh f2)⟩
    rw [List.length_append, List.length_flatten]
    exact hz
/-- lists of lists -/
def listsOf : List D → Option (List (List D))
  | [] => some []
  | .list b :: ds => (listsOf ds).map (b :: ·)
  | _ => none
theorem listsOf_eq : ∀ {xs : List D} {bs : List (List D)}, listsOf xs = some bs → xs = bs.map PyData.list
  | [], bs, h => by cases h; rfl
  | d :: ds, bs, h => by
    cases d <;> first | (cases h; done) | skip
    obtain ⟨cs, h1, rfl⟩ := Option.map_eq_some_iff.mp (show (listsOf ds).map _ = some bs from h)
    rw [listsOf_eq h1]; rfl
theorem listsOf_map : ∀ ns : List (List D), listsOf (ns.map PyData.list) = some ns
  | [] => rfl
  | n :: r => by show (listsOf (r.map PyData.list)).map _ = _; rw [listsOf_map r]; rfl
def sumLD : PC1 := fun ds k => match ds with
  | [.list xs, .list st] => ∃ xss, listsOf xs = some xss ∧ st.length + (xss.map (·.length)).sum ≤ sizeLine ∧ k (.list (st ++ xss.flatten))
  | _ => False
theorem pm_sumL (ds : List D) : Pm1 (sumLD ds) := fun k k' w q => by
  unfold sumLD at q ⊢
  split at q
  · obtain ⟨xss, e, z, q⟩ := q
    exact ⟨xss, e, z, w _ q⟩
  · exact q.elim
theorem dx_lists {K : PySem.W.Frag} {F : AS} {H : Hp} : ∀ {vs : List V} {xss : List (List D)}, DxAll K H F vs (xss.map PyData.list) →
    ∃ (ps : List Addr) (vss : List (List V)), vs = ps.map V.ref ∧ ps.length = vss.length ∧ (∀ (j : Nat) (p : Addr) (xs : List V), ps[j]? = some p → vss[j]? = some xs → H p = some (.lst xs)) ∧ DxAll K H F vss.flatten xss.flatten ∧ vss.map (·.length) = xss.map (·.length)
  | vs, [], h => by
    cases h
    exact ⟨[], [], rfl, rfl, fun j p xs e => by simp at e, .nil, rfl⟩
  | vs, x :: xss, h => by
    cases h with
    | cons h1 h2 =>
      obtain ⟨p, ws, rfl, e1, _, d1⟩ := h1.sql
      obtain ⟨ps, vss, rfl, l1, l2, l3, l4⟩ := dx_lists h2
      refine ⟨p :: ps, ws :: vss, rfl, by simp [l1], fun j p' xs' z1 z2 => ?_, by rw [List.flatten_cons, List.flatten_cons]; exact d1.append l3, by rw [List.map_cons, List.map_cons, l4, d1.length]⟩
      cases j with
      | zero => cases z1; cases z2; exact e1
      | succ j => exact l2 j p' xs' (by simpa using z1) (by simpa using z2)
theorem prim_sumL {K : PySem.W.Frag} : PrimC K (rSumL K) sumLD := by
  intro F H vs ds Q hF hd h
  unfold sumLD at h
  split at h
  · obtain ⟨xss, e, z, q⟩ := h
    have := listsOf_eq e
    subst this
    cases hd with
    | cons h1 hr =>
      cases hr with
      | cons h2 hr =>
        cases hr
        obtain ⟨a, ws, rfl, e1, n1, d1⟩ := h1.sql
        obtain ⟨b, ss, rfl, e2, n2, d2⟩ := h2.sql
        obtain ⟨ps, vss, rfl, l1, l2, l3, l4⟩ := dx_lists d1
        refine ⟨a, b, ps, vss, ss, rfl, .inl (.inl e1), e2, l1, l2, by rw [l4, d2.length]; exact z, fun hn => ?_, ?_⟩
        · subst hn
          have : vss = [] := List.eq_nil_of_length_eq_zero l1.symm
          subst this
          have : xss = [] := by
            cases xss with
            | nil => rfl
            | cons x r => exact absurd l4 (by simp)
          subst this
          rw [List.flatten_nil, List.append_nil] at q
          exact Kd.now (d := .list _) q (.lst n2 e2 d2)
        · exact new_lst hF (d2.append l3) q
  · exact h.elim
section
variable {X : Cx} {p pos : Pos} {e e2 : Expr} {m : M (List D)}
theorem em_sumL (hc : X.calm = true) (hm : X.mg "sum" = none) (ha : AM X [e, e2] m) (hg : Gl X "sum" := by rfl) (he : starEach [e, e2] X.env = (false, eval e X.env) :: starEach [e2] X.env := by rfl) (hpl : (backTo pos (starEach [e2] X.env)).any (·.1) = false := by rfl) :
    EM X (.Call (.Name "sum" p) [e, e2] [] pos) (mCall sumLD m) := em_callB (cr_sumL hc) prim_sumL pm_sumL hg hm (by decide +kernel) ha (he := he) (hpl := hpl)
end
end DL

/-! dict(zip(texts, texts)), d[x], d.get(x, y) of texts to texts. -/
namespace DL
open PySem PySem.Spec PyProof.Rows L2
def tDictZip (K : PySem.W.Frag) (ta : TA) : TE := fun σ H Q => ta σ H fun vs H1 => ∃ (a b : Addr) (ks : List Str) (ys : List V), vs = [V.ref a, V.ref b] ∧ SqL K H1 a (ks.map V.str) ∧ SqL K H1 b ys ∧
  ∀ p, H1 p = none → Q (.ref p) (upd H1 p (.dK (mergeK [] ((ks.map fun x => (Sum.inr x : Key)).zip ys))))
theorem strs_get : ∀ {ks : List Str} {its : List Value} {i : Nat} {u : Value}, Vals (ks.map V.str) its → its[i]? = some u → ∃ x, ks[i]? = some x ∧ RelV (V.str x) u
  | [], its, i, u, r, e => by
    cases r
    simp at e
  | k :: ks, its, i, u, r, e => by
    cases r with
    | cons h t =>
      cases i with
      | zero =>
        cases e
        exact ⟨k, rfl, h⟩
      | succ i => exact strs_get (ks := ks) t (i := i) (by simpa using e)
theorem kv_zip : ∀ (ks : List Str) {ys : List V} {its : List Value}, Vals ys its → KV ((ks.map fun x => (Sum.inr x : Key)).zip ys) ((ks.map fun x => (Sum.inr x : Key)).zip its)
  | [], ys, its, r => .nil
  | k :: ks, ys, its, r => by
    cases r with
    | nil => exact .nil
    | cons h t => exact .cons ⟨rfl, h⟩ (kv_zip ks t)
theorem pe_dictZip {X : Cx} {e e2 : Expr} {ta : TA} {p p1 pos pos1 : Pos} (hc : X.calm = true) (hmd : X.mg "dict" = none) (hmz : X.mg "zip" = none) (ha : PA X [e, e2] ta) (hgd : Gl X "dict" := by rfl) (hgz : Gl X "zip" := by rfl)
    (hs : starEach [e, e2] X.env = (false, eval e X.env) :: starEach [e2] X.env := by rfl) (hpl : (backTo pos1 (starEach [e2] X.env)).any (·.1) = false := by rfl)
    (hs2 : starEach [.Call (.Name "zip" p1) [e, e2] [] pos1] X.env = (false, eval (.Call (.Name "zip" p1) [e, e2] [] pos1) X.env) :: starEach [] X.env := by rfl) (hpl2 : (backTo pos (starEach [] X.env)).any (·.1) = false := by rfl) :
    PE X (.Call (.Name "dict" p) [.Call (.Name "zip" p1) [e, e2] [] pos1] [] pos) (tDictZip X.K ta) := by
  refine ⟨fun pins s σ H Q I h => ?_⟩
  refine Call_ (ld_blt I hgd hmd PyProof.Rows.boot_dict (PyProof.Rows.callWith_type1 ?_ hs2 hpl2))
  rw [hs2]
  refine Calls.spliced_cons ?_
  refine Call_ (ld_blt I hgz hmz PyProof.Rows.boot_zip (PyProof.Rows.callWith_type1 (thn (ha.run pos1 pins s σ H _ I h) fun us s1 ⟨vs, H1, I1, r1, q1⟩ => ?_) hs hpl))
  obtain ⟨a, b, ks, ys, ex, hqx, hqy, q⟩ := q1
  subst ex
  cases r1 with
  | cons r rr =>
    cases rr with
    | cons r' rr =>
      cases rr
      cases r
      cases r'
      obtain ⟨its, rv, pl1, z1⟩ := I1.list hqx
      obtain ⟨its2, rv2, pl2, z2⟩ := I1.list hqy
      refine call_zip_2 pl1.isList pl2.isList fun h' hz hTI hTO h1 h2 hsz hk => ?_
      refine Calls.spliced_nil ?_
      have D := PySem.W.ktu_apart s1.heap.objs.size a b pl1.lt pl2.lt
      have P := PairArg.zip (prog := X.prog) (w := X.w) (s1.heap.objs.size + 4) (s1.heap.objs.size + 2) (s1.heap.objs.size + 3) s1.heap.objs.size (s1.heap.objs.size + 1) a b D its.toArray its2.toArray
      have hl1 : h'.IsList a its.toArray := pl1.isList.at fun o e => hk _ o e
      have hl2 : h'.IsList b its2.toArray := pl2.isList.at fun o e => hk _ o e
      have I2 : L2.Inv X pins σ H1 { s1 with heap := h' } := I1.kept (t' := s1.toks) hk
      have kv := kv_zip ks rv2
      have lits : its.length = ks.length := by have := rv.length; rw [List.length_map] at this; exact this.symm
      refine PySem.call_dict_pairs (knd := mixKind X.prog X.w) (kvs := (ks.map fun x => (Sum.inr x : Key)).zip its2) P (I1.ok.hd hc) ⟨hz, hTI, ⟨_, _, hTO⟩, h1, h2, hl1, hl2⟩ ⟨?_, fun i key v hrel => ?_⟩ ?_ fun h2 tk hd' hkk => ?_
      · rw [List.length_zip, List.length_map, List.size_toArray, List.size_toArray, lits]
      · obtain ⟨e1, e2⟩ := hrel
        rw [List.getElem?_toArray] at e1 e2
        obtain ⟨x, e3, rx⟩ := strs_get rv e1
        refine ⟨Sum.inr x, ?_, kV_is (P := X.prog) (w := X.w) (k := Sum.inr x) rx⟩
        rw [List.getElem?_zip_eq_some]
        exact ⟨by rw [List.getElem?_map, e3]; rfl, e2⟩
      · rw [List.size_toArray, List.size_toArray, lits]
        rw [List.length_map] at z1
        exact Nat.le_trans (Nat.min_le_left _ _) z1
      · have hk2 : ∀ c o, s1.heap.get? c = some o → h2.get? c = some o := fun c o e => by
          refine hkk c o (fun hm => ?_) (hk c o e)
          have lt := Heap.lt_size e
          simp only [List.mem_cons, List.not_mem_nil, or_false] at hm
          rcases hm with rfl | rfl | rfl | rfl
          · exact Nat.not_lt_of_le (Nat.le_add_right _ _) lt
          · exact Nat.not_lt_of_le (Nat.le_add_right _ _) lt
          · exact Nat.lt_irrefl _ lt
          · exact Nat.not_lt_of_le (Nat.le_add_right _ _) lt
        have hle : s1.heap.objs.size ≤ h'.objs.size := by omega
        have hm : (h'.objs.size == sysModules) = false := beq_eq_false_iff_ne.mpr (Nat.ne_of_gt (Nat.lt_of_lt_of_le I1.big hle))
        have hlen : (mergeK [] ((ks.map fun x => (Sum.inr x : Key)).zip ys)).length ≤ sizeLine := by
          refine Nat.le_trans (length_mergeK _ []) ?_
          rw [List.length_nil, Nat.zero_add, List.length_zip, List.length_map]
          rw [List.length_map] at z1
          exact Nat.le_trans (Nat.min_le_left _ _) z1
        exact ⟨.ref h'.objs.size, upd H1 h'.objs.size (.dK (mergeK [] ((ks.map fun x => (Sum.inr x : Key)).zip ys))), I1.laid (t' := tk) hk2 hle (show ObjOk X.prog X.w _ _ _ (.dK (mergeK [] ((ks.map fun x => (Sum.inr x : Key)).zip ys))) from ⟨hlen, hm, merged [] _, KV.merge kv .nil, hd'⟩), rfl, q _ (I1.hok.fresh hle)⟩
/-! ### by data -/
theorem merge_new : ∀ (more kvs : List (Key × V)), ((kvs ++ more).map (·.1)).Nodup → mergeK kvs more = kvs ++ more
  | [], kvs, _ => by rw [List.append_nil]; rfl
  | p :: more, kvs, h => by
    show mergeK (putK kvs p.1 p.2) more = _
    have hn : (kvs.any fun kv => decide (kv.1 = p.1)) = false := by
      rw [List.any_eq_false]
      intro kv hkv z
      have z := of_decide_eq_true z
      rw [List.map_append, List.nodup_append] at h
      exact h.2.2 kv.1 (List.mem_map.mpr ⟨kv, hkv, rfl⟩) p.1 (by simp) z
    unfold putK
    rw [hn, if_neg Bool.false_ne_true]
    have e : kvs ++ [(p.1, p.2)] ++ more = kvs ++ p :: more := by simp
    rw [merge_new more (kvs ++ [(p.1, p.2)]) (by rw [e]; exact h), e]
theorem new_dst {K : PySem.W.Frag} {F : AS} {H : Hp} (hF : ∀ c, F c → ∃ o, H c = some o) {l : List (Str × Str)} {Q : VK} (q : Kd K F H Q (.dict (dstD l))) : ∀ p, H p = none → Q (.ref p) (upd H p (.dK (dstV l))) := fun p hp =>
  q _ _ (fun b o e => upd_more hp b o e) (.dst l rfl (fresh_new hF hp) upd_same)
def mDictZip (m : M (List D)) : M D := fun ρ k => m ρ fun ds ρ1 => ∃ (xs ys : List D) (ks vs : List Str), ds = [.list xs, .list ys] ∧ strsOf xs = some ks ∧ strsOf ys = some vs ∧ ks.Nodup ∧ k (.dict (dstD (ks.zip vs))) ρ1
theorem em_dictZip {X : Cx} {e e2 : Expr} {m : M (List D)} {p p1 pos pos1 : Pos} (hc : X.calm = true) (hmd : X.mg "dict" = none) (hmz : X.mg "zip" = none) (ha : AM X [e, e2] m) (hgd : Gl X "dict" := by rfl) (hgz : Gl X "zip" := by rfl)
    (hs : starEach [e, e2] X.env = (false, eval e X.env) :: starEach [e2] X.env := by rfl) (hpl : (backTo pos1 (starEach [e2] X.env)).any (·.1) = false := by rfl)
    (hs2 : starEach [.Call (.Name "zip" p1) [e, e2] [] pos1] X.env = (false, eval (.Call (.Name "zip" p1) [e, e2] [] pos1) X.env) :: starEach [] X.env := by rfl) (hpl2 : (backTo pos (starEach [] X.env)).any (·.1) = false := by rfl) :
    EM X (.Call (.Name "dict" p) [.Call (.Name "zip" p1) [e, e2] [] pos1] [] pos) (mDictZip m) := by
  refine ⟨fun ρ k k' w q => ha.mono ρ _ _ (fun ds ρ1 ⟨xs, ys, ks, vs, e, e1, e2, nd, q1⟩ => ⟨xs, ys, ks, vs, e, e1, e2, nd, w _ _ q1⟩) q, pe_weak (pe_dictZip hc hmd hmz ha.run hgd hgz hs hpl hs2 hpl2) ?_⟩
  rintro σ H Q ⟨G, loc, ρ, R, q⟩
  refine ⟨G, loc, ρ, R, ha.mono ρ _ _ (fun ds ρ1 q1 vs H1 R1 g1 d1 => ?_) q⟩
  obtain ⟨xs, ys, ks, us, rfl, e1, e2, nd, q2⟩ := q1
  have := strsOf_eq e1
  subst this
  have := strsOf_eq e2
  subst this
  cases d1 with
  | cons h1 hr =>
    cases hr with
    | cons h2 hr =>
      cases hr
      obtain ⟨a, ws, rfl, f1, n1, dd1⟩ := h1.sql
      obtain ⟨b, zs, rfl, f2, n2, dd2⟩ := h2.sql
      have := dd1.strs
      subst this
      have := dd2.strs
      subst this
      refine ⟨a, b, ks, us.map V.str, rfl, .inl (.inl f1), .inl (.inl f2), fun p hp => ?_⟩
      have em : mergeK [] ((ks.map fun x => (Sum.inr x : Key)).zip (us.map V.str)) = dstV (ks.zip us) := by
        have ez : (ks.map fun x => (Sum.inr x : Key)).zip (us.map V.str) = dstV (ks.zip us) := by
          unfold dstV
          rw [List.zip_map]; rfl
        rw [merge_new, List.nil_append, ez]
        rw [List.nil_append]
        have sub : (((ks.map fun x => (Sum.inr x : Key)).zip (us.map V.str)).map (·.1)).Sublist (ks.map fun x => (Sum.inr x : Key)) := by
          have : ∀ (l : List Key) (l' : List V), ((l.zip l').map (·.1)).Sublist l := by
            intro l
            induction l with
            | nil => intro l'; exact List.Sublist.refl _
            | cons x l ih =>
              intro l'
              cases l' with
              | nil => exact List.nil_sublist _
              | cons y l' => exact (ih l').cons_cons x
          exact this _ _
        refine List.Nodup.sublist sub ?_
        exact List.pairwise_map.mpr (nd.imp fun h e => h (Sum.inr.inj e))
      rw [em]
      exact new_dst R1.fbE (fun w H4 m4 d4 => q2 w H4 (R1.more m4) (g1.trans (more_grow m4)) d4) p hp
/-! ### d[x], d.get(x, y) -/
theorem dstV_val (l : List (Str × Str)) (x : Str) : valV (dstV l) (Sum.inr x : Key) = ((l.find? fun kv => decide (kv.1 = x)).map fun kv => V.str kv.2) := by
  unfold valV dstV
  rw [List.find?_map]
  have : ((fun kv : Key × V => decide (kv.1 = (Sum.inr x : Key))) ∘ fun p : Str × Str => ((Sum.inr p.1 : Key), V.str p.2)) = fun kv => decide (kv.1 = x) := by
    funext kv
    show decide ((Sum.inr kv.1 : Key) = Sum.inr x) = decide (kv.1 = x)
    exact decide_eq_decide.mpr ⟨fun z => Sum.inr.inj z, fun z => by rw [z]⟩
  rw [this, Option.map_map]; rfl
def getS (l : List (Str × Str)) (x : Str) : Option Str := (l.find? fun kv => decide (kv.1 = x)).map (·.2)
def dgetTD : P2 := fun a b k => ∃ l x y, a = .dict (dstD l) ∧ b = .str x ∧ getS l x = some y ∧ k (.str y)
theorem pm_dgetT (a b : D) : Pm1 (dgetTD a b) := fun k k' w ⟨l, x, y, e1, e2, e3, q⟩ => ⟨l, x, y, e1, e2, e3, w _ q⟩
theorem em_dgetT {X : Cx} {o i : Expr} {mo mi : M D} {pos : Pos} (hu : X.A.units + 1 < cLine) (ho : EM X o mo) (hi : EM X i mi) (hs : NoSl i) : EM X (.Subscript o i pos) (mBin dgetTD mo mi) := by
  refine ⟨mono_bin pm_dgetT ho.mono hi.mono, pe_weak (pe_dget hu ho.run hi.run hs) ?_⟩
  rintro σ H Q ⟨G, loc, ρ, R, q⟩
  refine ⟨G, loc, ρ, R, ho.mono ρ _ _ (fun a ρ1 q1 v H1 R1 g1 d1 => ?_) q⟩
  refine ⟨G, loc, ρ1, R1, hi.mono ρ1 _ _ (fun b ρ2 q2 u H2 R2 g2 d2 => ?_) q1⟩
  obtain ⟨l, x, y, rfl, rfl, f, q3⟩ := q2
  obtain ⟨p, rfl, e1, _⟩ := (d1.g g2).dstA
  cases d2
  refine ⟨p, .str y, rfl, .inl ⟨_, Sum.inr _, .inl e1, rfl, ?_⟩, q3 _ H2 R2 (g1.trans g2) (.str y)⟩
  rw [dstV_val]
  unfold getS at f
  obtain ⟨kv, h1, h2⟩ := Option.map_eq_some_iff.mp f
  rw [h1, ← h2]; rfl
/-- d.get(x, y) -/
def mGetT (mo mi md : M D) : M D := fun ρ k => mo ρ fun a ρ1 => ∃ l, a = .dict (dstD l) ∧ mi ρ1 fun b ρ2 => md ρ2 fun c ρ3 => ∃ x z, b = .str x ∧ c = .str z ∧ k (.str ((getS l x).getD z)) ρ3
theorem em_getT {X : Cx} {o e f : Expr} {mo mi md : M D} {apos cpos : Pos} (hu : X.A.units + 1 < cLine) (ho : EM X o mo) (he : EM X e mi) (hf : EM X f md)
    (base : attributeBase o "get" X.env (eval o X.env) = eval o X.env := by rfl)
    (few : ((backTo cpos (starEach [e, f] X.env)).all (fun x => !x.1) && (backToKw cpos (keywordEach [] X.env)).all (fun x => x.1.isSome)
      && decide (([e, f] : List Expr).length + ([] : List Keyword).length + (if ([] : List Keyword).isEmpty then 0 else 1) < 30)) = true := by rfl)
    (line : (apos.endLine == cpos.line) = true := by rfl)
    (trees : backTo cpos (starEach [e, f] X.env) = [(false, eval e X.env), (false, eval f X.env)] := by rfl) : EM X (.Call (.Attribute o "get" apos) [e, f] [] cpos) (mGetT mo mi md) := by
  refine ⟨fun ρ k k' w q => ho.mono ρ _ _ (fun a ρ1 ⟨l, e1, q1⟩ => ⟨l, e1, he.mono ρ1 _ _ (fun b ρ2 q2 => hf.mono ρ2 _ _ (fun c ρ3 ⟨x, z, e2, e3, q3⟩ => ⟨x, z, e2, e3, w _ _ q3⟩) q2) q1⟩) q, pe_weak (pe_dget2 hu ho.run he.run hf.run ⟨base, few, line, trees⟩) ?_⟩
  rintro σ H Q ⟨G, loc, ρ, R, q⟩
  refine ⟨G, loc, ρ, R, ho.mono ρ _ _ (fun a ρ1 q1 v H1 R1 g1 d1 => ?_) q⟩
  obtain ⟨l, rfl, q1⟩ := q1
  obtain ⟨p, rfl, e1, n1⟩ := d1.dstA
  refine ⟨p, rfl, .inl ⟨_, .inl e1⟩, G, loc, ρ1, R1, he.mono ρ1 _ _ (fun b ρ2 q2 u H2 R2 g2 d2 => ?_) q1⟩
  refine ⟨G, loc, ρ2, R2, hf.mono ρ2 _ _ (fun c ρ3 q3 w H3 R3 g3 d3 => ?_) q2⟩
  obtain ⟨x, z, rfl, rfl, q4⟩ := q3
  obtain ⟨e2, n2⟩ := g2 _ _ e1 n1
  obtain ⟨e3, n3⟩ := g3 _ _ e2 n2
  cases d2
  cases d3
  refine ⟨valV (dstV l) (Sum.inr x : Key), .inl ⟨_, Sum.inr x, .inl e3, rfl, rfl⟩, ?_⟩
  have e4 : (valV (dstV l) (Sum.inr x : Key)).getD (V.str z) = V.str ((getS l x).getD z) := by
    rw [dstV_val]
    unfold getS
    cases l.find? fun kv => decide (kv.1 = x) with
    | none => rfl
    | some kv => rfl
  rw [e4]
  exact q4 _ H3 R3 ((g1.trans g2).trans g3) (.str _)
end DL

/-! A tuple of texts by its name; a call that leaves a keyword-only parameter to its default. -/
namespace DL
open PySem PySem.Spec PyProof.Rows L2
theorem dxs_strs {K : PySem.W.Frag} {H : Hp} {F : AS} : ∀ xs : List Str, DxAll K H F (xs.map V.str) (xs.map PyData.str)
  | [] => .nil
  | x :: xs => .cons (.str x) (dxs_strs xs)
theorem em_tupC {X : Cx} {x : Str} {p : Pos} {a : Addr} {xs : List Str} (ht : SqTK X.K a (xs.map V.str)) (hm : X.mg x = some (.ref a)) (hg : Gl X x := by rfl) (hd : (x == ("__debug__" : Str)) = false := by decide) :
    EM X (.Name x p) (mPure (.tuple (xs.map PyData.str))) := by
  refine ⟨mono_pure, pe_weak (pe_glob (v := .ref a) hg hm rfl hd) ?_⟩
  rintro σ H Q ⟨G, loc, ρ, R, q⟩
  exact q _ H R Grow.refl (.tupK ht (dxs_strs xs))
/-- the last argument is the default -/
def mFnD (n : Nat) (F : FS) (d : D) (m : M (List D)) : M D := fun ρ k => m ρ fun ds ρ1 => (ds ++ [d]).length = n ∧ F (ds ++ [d]) fun _ r => k r ρ1
section
variable {X : Cx} {k n : Nat} {f : Addr} {fd : FuncData} {ps : List Str} {x : Str} {p pos : Pos} {e : Expr} {es : List Expr} {m : M (List D)} {F : FS} {u : Value} {v : V} {dd : D}
theorem em_fnD (G : FnG X.prog X.w X.K X.mg X.base CX0 k f fd ps (sp0 X.K n F)) (mF : PmS F) (hr : Rm k X.A) (hg : Gl X x) (hm : X.mg x = some (.ref f)) (hk : PySem.W.keepIn X.K (.ref f) = true) (hb : Binds X.K fd ps [u]) (hv : RelV v u) (hdd : ∀ H F, Dx X.K H F v dd)
    (ha : AM X (e :: es) m) (hdb : (x == ("__debug__" : Str)) = false := by decide) (he : starEach (e :: es) X.env = (false, eval e X.env) :: starEach es X.env := by rfl) (hpl : (backTo pos (starEach es X.env)).any (·.1) = false := by rfl) :
    EM X (.Call (.Name x p) (e :: es) [] pos) (mFnD n F dd m) := by
  refine ⟨fun ρ k k' w q => ha.mono ρ _ _ (fun ds ρ1 q1 => ⟨q1.1, mF _ _ _ (fun b d q2 => w _ _ q2) q1.2⟩) q, pe_weak (pe_callG G hr hg hm hk hb (.cons hv .nil) pass0 ha.run hdb he hpl) ?_⟩
  rintro σ H Q ⟨G', loc, ρ, R, q⟩
  refine ⟨G', loc, ρ, R, ha.mono ρ _ _ (fun ds ρ1 q1 vs H1 R1 g1 d1 => ?_) q⟩
  refine ⟨Fb G'.fb ρ1 loc, ds ++ [dd], R1.fbE, d1.append (.cons (hdd _ _) .nil), q1.1, mF _ _ _ (fun b d q2 v H2 m2 d2 _ => ?_) q1.2⟩
  exact q2 v H2 (R1.more m2) (g1.trans (more_grow m2)) d2
end
/-- how it binds: the default stands in the dict at D -/
theorem bindsD_of {K : PySem.W.Frag} {fd : FuncData} {ps : List Str} {nm : Str} {D : Addr} {u : Value} {j : Nat} (hj : ps.length = j + 1) (hn : PySem.W.nsIn K D nm = some (some u))
    (h : ∀ us : List Value, us.length = j → KwChain D [(nm, u)] (bindArgs fd ⟨us, []⟩) (ps.zip (us ++ [u]))) : Binds K fd ps [u] := fun s us X hl =>
  BindsTo.of_looks fun M => KwChain.looks X (fun q hq => by rw [List.mem_singleton.mp hq]; exact hn) (h us (by rw [List.length_append, hj] at hl; simpa using hl))
end DL

/-! text.strip(signs), text.upper(); + and - of tuples of any length and of truths; str of truths; tuple(text), list(text); repr of anything; dict displays of texts to ints. -/
namespace DL
open PySem PySem.Spec PyProof.Rows L2
/-! ### strip, upper -/
def stripD (z : Str) : PC1
  | [.str b], k => z.length ≤ sizeLine ∧ k (.str (Txt.stripChars z b))
  | _, _ => False
def upperD (z : Str) : PC1
  | [], k => z.length ≤ 5592405 ∧ k (.str (Txt.upper z))
  | _, _ => False
theorem pm_strip (z : Str) (ds : List D) : Pm1 (stripD z ds) := fun k k' w q => by
  unfold stripD at q ⊢
  split at q
  · exact ⟨q.1, w _ q.2⟩
  · exact q.elim
theorem pm_upper (z : Str) (ds : List D) : Pm1 (upperD z ds) := fun k k' w q => by
  unfold upperD at q ⊢
  split at q
  · exact ⟨q.1, w _ q.2⟩
  · exact q.elim
theorem prim_strip {K : PySem.W.Frag} : PrimM K (fun x xs H Q => ∃ a b, x = .str a ∧ xs = [.str b] ∧ a.length ≤ sizeLine ∧ Q (.str (Txt.stripChars a b)) H) stripD := by
  intro F H z vs ds Q hF hd h
  unfold stripD at h
  split at h
  · obtain ⟨v, rfl, dv⟩ := dx_one hd
    cases dv
    exact ⟨z, _, rfl, rfl, h.1, h.2.now (.str _)⟩
  · exact h.elim
theorem prim_upper {K : PySem.W.Frag} : PrimM K (fun x xs H Q => ∃ a, x = .str a ∧ xs = [] ∧ a.length ≤ 5592405 ∧ Q (.str (Txt.upper a)) H) upperD := by
  intro F H z vs ds Q hF hd h
  unfold upperD at h
  split at h
  · cases hd
    exact ⟨z, rfl, rfl, h.1, h.2.now (.str _)⟩
  · exact h.elim
section
variable {X : Cx} {o e : Expr} {m : M D} {ms : M (List D)} {apos cpos : Pos}
theorem em_strip (ho : EM X o m) (ha : AM X [e] ms)
    (hbase : attributeBase o "strip" X.env (eval o X.env) = eval o X.env := by rfl)
    (hfew : ((backTo cpos (starEach [e] X.env)).all (fun x => !x.1) && (backToKw cpos (keywordEach [] X.env)).all (fun x => x.1.isSome)
      && decide ([e].length + ([] : List Keyword).length + (if ([] : List Keyword).isEmpty then 0 else 1) < 30)) = true := by rfl)
    (hline : (apos.endLine == cpos.line) = true := by rfl) (hs : starEach [e] X.env = (false, eval e X.env) :: starEach [] X.env := by rfl) (hplain : (backTo cpos (starEach [] X.env)).any (·.1) = false := by rfl) :
    EM X (.Call (.Attribute o "strip" apos) [e] [] cpos) (mMeth stripD m ms) := em_meth PySem.F.slot_str_strip PySem.F.type_str_strip mt_stripChars prim_strip pm_strip ho ha hbase hfew hline hs hplain
theorem em_upper (ho : EM X o m) (hbase : attributeBase o "upper" X.env (eval o X.env) = eval o X.env := by rfl) (hline : (apos.endLine == cpos.line) = true := by rfl) :
    EM X (.Call (.Attribute o "upper" apos) [] [] cpos) (mMeth upperD m mNil) := em_meth0 PySem.F.slot_str_upper PySem.F.type_str_upper mt_upper prim_upper pm_upper ho hbase hline
end
/-! ### + and - -/
def b2 (b : Bool) : Int := if b = true then 1 else 0
def addAD : P2
  | .tuple xs, .tuple ys, k => xs.length + ys.length ≤ sizeLine ∧ k (.tuple (xs ++ ys))
  | .bool b, .int j, k => k (.int (b2 b + j))
  | .int i, .int j, k => k (.int (i + j))
  | .str x, .str y, k => x.length + y.length ≤ sizeLine ∧ k (.str (x ++ y))
  | .list xs, .list ys, k => xs.length + ys.length ≤ sizeLine ∧ k (.list (xs ++ ys))
  | _, _, _ => False
def subAD : P2
  | .int i, .int j, k => k (.int (i - j))
  | .bool b, .int j, k => k (.int (b2 b - j))
  | _, _, _ => False
theorem pm_addA (a b : D) : Pm1 (addAD a b) := fun k k' h q => by
  cases a <;> cases b <;> first | exact q.elim | exact h _ q | exact ⟨q.1, h _ q.2⟩
theorem pm_subA (a b : D) : Pm1 (subAD a b) := fun k k' h q => by
  cases a <;> cases b <;> first | exact q.elim | exact h _ q | exact ⟨q.1, h _ q.2⟩
def rBI (g : Int → Int → Int) : R2 := fun x y H Q => ∃ b j, x = .bl b ∧ y = .int j ∧ Q (.int (g (b2 b) j)) H
theorem op_addBI {X : Cx} : OpR X (binaryOp .Add) (rBI (· + ·)) := by
  intro pins s σ H x y v u Q I rx ry h
  obtain ⟨b, j, rfl, rfl, q⟩ := h
  cases rx
  obtain ⟨t, rfl⟩ := ry
  exact PySem.IntBool.add_bool_int ⟨.int _, H, I.tok _, ⟨_, rfl⟩, q⟩
theorem op_subBI {X : Cx} : OpR X (binaryOp .Sub) (rBI (· - ·)) := by
  intro pins s σ H x y v u Q I rx ry h
  obtain ⟨b, j, rfl, rfl, q⟩ := h
  cases rx
  obtain ⟨t, rfl⟩ := ry
  exact PySem.IntBool.sub_bool_int ⟨.int _, H, I.tok _, ⟨_, rfl⟩, q⟩
def rAddA (K : PySem.W.Frag) : R2 := fun x y H Q => (rAddU K x y H Q ∨ rCatA K x y H Q) ∨ rBI (· + ·) x y H Q
theorem op_addA {X : Cx} : OpR X (binaryOp .Add) (rAddA X.K) := OpR.or (OpR.or op_addU op_catA) op_addBI
def rSubA : R2 := fun x y H Q => rI0 (fun i j => .int (i - j)) x y H Q ∨ rBI (· - ·) x y H Q
theorem op_subA {X : Cx} : OpR X (binaryOp .Sub) rSubA := OpR.or op_sub op_subBI
theorem prim_addA {K : PySem.W.Frag} : Prim2 K (rAddA K) addAD := by
  intro F H x y a b Q hF hx hy h
  cases a <;> cases b <;> first | exact (show False from h).elim | skip
  · cases hx; cases hy
    exact .inr ⟨_, _, rfl, rfl, Kd.now (d := .int _) h (.int _)⟩
  · exact .inl (.inl (prim_add F H x y _ _ Q hF hx hy h))
  · exact .inl (.inl (prim_add F H x y _ _ Q hF hx hy h))
  · exact .inl (.inl (prim_add F H x y _ _ Q hF hx hy h))
  · obtain ⟨p, xs, rfl, e1, d1⟩ := hx.sqt
    obtain ⟨q, ys, rfl, e2, d2⟩ := hy.sqt
    refine .inl (.inr ⟨p, q, xs, ys, rfl, rfl, e1, e2, by rw [d1.length, d2.length]; exact h.1, fun z => ?_, fun _ z => ?_, fun _ _ => new_tup hF (d1.append d2) h.2⟩)
    · have z2 := d1.nil_iff.mp z
      subst z2
      have h2 := h.2
      rw [List.nil_append] at h2
      exact h2.now hy
    · have z2 := d2.nil_iff.mp z
      subst z2
      have h2 := h.2
      rw [List.append_nil] at h2
      exact h2.now hx
theorem prim_subA {K : PySem.W.Frag} : Prim2 K rSubA subAD := by
  intro F H x y a b Q hF hx hy h
  cases a <;> cases b <;> first | exact (show False from h).elim | skip
  · cases hx; cases hy
    exact .inr ⟨_, _, rfl, rfl, Kd.now (d := .int _) h (.int _)⟩
  · exact .inl (prim_sub F H x y _ _ Q hF hx hy h)
theorem em_addA {X : Cx} {a b : Expr} {ma mb : M D} {pos : Pos} (ha : EM X a ma) (hb : EM X b mb) : EM X (.BinOp a .Add b pos) (mBin addAD ma mb) := em_op op_addA prim_addA pm_addA ha hb
theorem em_subA {X : Cx} {a b : Expr} {ma mb : M D} {pos : Pos} (ha : EM X a ma) (hb : EM X b mb) : EM X (.BinOp a .Sub b pos) (mBin subAD ma mb) := em_op op_subA prim_subA pm_subA ha hb
/-! ### str of a truth -/
def strAD : PC1
  | [.int i], k => i.natAbs.log2 < 1920 ∧ k (.str (toString i))
  | [.bool b], k => k (.str (if b = true then "True" else "False"))
  | _, _ => False
theorem pm_strA : ∀ ds, Pm1 (strAD ds) := by
  intro ds k k' w q
  unfold strAD at q ⊢
  split at q
  · exact ⟨q.1, w _ q.2⟩
  · exact w _ q
  · exact q.elim
theorem call_strA {X : Cx} : CallR X (.type "str") (fun xs H Q => (∃ i, xs = [.int i] ∧ i.natAbs.log2 < 1920 ∧ Q (.str (toString i)) H) ∨ ∃ b, xs = [.bl b] ∧ Q (.str (if b = true then "True" else "False")) H) := by
  intro pins s σ H xs us Q I r h
  rcases h with h | ⟨b, rfl, q⟩
  · exact call_str_int pins s σ H xs us Q I r h
  · obtain ⟨u, rfl, rfl⟩ := vals1 r
    exact PySem.P.str_of_bool ⟨.str _, H, I.tok _, ⟨_, rfl⟩, q⟩
theorem prim_strA {K : PySem.W.Frag} : PrimC K (fun xs H Q => (∃ i, xs = [V.int i] ∧ i.natAbs.log2 < 1920 ∧ Q (.str (toString i)) H) ∨ ∃ b, xs = [V.bl b] ∧ Q (.str (if b = true then "True" else "False")) H) strAD := by
  intro F H vs ds Q hF hd h
  unfold strAD at h
  split at h
  · obtain ⟨v, rfl, dv⟩ := dx_one hd
    cases dv
    exact .inl ⟨_, rfl, h.1, h.2.now (.str _)⟩
  · obtain ⟨v, rfl, dv⟩ := dx_one hd
    cases dv
    exact .inr ⟨_, rfl, Kd.now (d := .str _) h (.str _)⟩
  · exact h.elim
theorem em_strA {X : Cx} {p pos : Pos} {e : Expr} {m : M (List D)} (hm : X.mg "str" = none) (ha : AM X [e] m) (hg : Gl X "str" := by rfl) (he : starEach [e] X.env = (false, eval e X.env) :: starEach [] X.env := by rfl) (hpl : (backTo pos (starEach [] X.env)).any (·.1) = false := by rfl) : EM X (.Call (.Name "str" p) [e] [] pos) (mCall strAD m) :=
  em_callTy call_strA prim_strA pm_strA hg hm PyProof.Rows.boot_str ha (he := he) (hpl := hpl)
/-! ### repr of anything -/
def ShowsA : D → Prop
  | .none => True
  | .bool _ => True
  | .int i => i.natAbs.log2 < 1920
  | .str x => (reprText x).length ≤ sizeLine
  | d => Shows d
def reprAD : PC1
  | [d], k => ShowsA d ∧ k (.str d.shown)
  | _, _ => False
theorem pm_reprA : ∀ ds, Pm1 (reprAD ds) := by
  intro ds k k' w q
  match ds with
  | [] => exact q
  | [d] => exact ⟨q.1, w _ q.2⟩
  | d :: e :: r => exact q
def rReprA (K : PySem.W.Frag) : List V → Hp → VK → Prop := fun xs H Q => ∃ v d, xs = [v] ∧ Dp K H v d ∧ ShowsA d ∧ Q (.str d.shown) H
theorem call_reprA {X : Cx} (gd : X.A.guards = some []) (un : X.A.units + 64 < PySem.cLine) : CallR X (.builtin "repr") (rReprA X.K) := by
  intro pins s σ H xs us Q I r h
  obtain ⟨v, d, rfl, hd, hs, q⟩ := h
  cases d with
  | none =>
    cases hd
    obtain ⟨u, rfl, rfl⟩ := vals1 r
    rw [PyData.shown_none] at q
    exact PySem.P.repr_of_none ⟨.str _, H, I.tok _, ⟨_, rfl⟩, q⟩
  | bool b =>
    cases hd
    obtain ⟨u, rfl, rfl⟩ := vals1 r
    rw [PyData.shown_bool] at q
    exact PySem.P.repr_of_bool ⟨.str _, H, I.tok _, ⟨_, rfl⟩, by cases b <;> exact q⟩
  | int i =>
    cases hd
    obtain ⟨u, rfl, t, rfl⟩ := vals1 r
    rw [PyData.shown_int] at q
    exact PySem.P.repr_of_int hs ⟨.str _, H, I.tok _, ⟨_, rfl⟩, q⟩
  | str x =>
    cases hd
    obtain ⟨u, rfl, t, rfl⟩ := vals1 r
    rw [PyData.shown_str] at q
    exact PySem.P.repr_of_str ⟨.str _, H, I.tok _, ⟨_, rfl⟩, q⟩ hs
  | list ds =>
    cases hd with
    | lst e a => exact call_repr gd un pins s σ H _ us Q I r ⟨_, _, rfl, .lst e a, hs, q⟩
  | tuple ds =>
    cases hd with
    | tup e a => exact call_repr gd un pins s σ H _ us Q I r ⟨_, _, rfl, .tup e a, hs, q⟩
  | dict l => cases hd
theorem prim_reprA {K : PySem.W.Frag} : PrimC K (rReprA K) reprAD := by
  intro F H vs ds Q hF hd h
  match ds with
  | [] => exact (show False from h).elim
  | d :: e :: r => exact (show False from h).elim
  | [d] =>
    obtain ⟨v, rfl, dx⟩ := dx_one hd
    refine ⟨v, d, rfl, ?_, h.1, h.2.now (.str _)⟩
    cases d with
    | none => cases dx; exact .non
    | bool b => cases dx; exact .bl b
    | int i => cases dx; exact .int i
    | str x => cases dx; exact .str x
    | list ds => exact Dx.dp _ _ (show Shows _ from h.1).lay dx
    | tuple ds => exact Dx.dp _ _ (show Shows _ from h.1).lay dx
    | dict l => exact Dx.dp _ _ (show Shows _ from h.1).lay dx
theorem em_reprA {X : Cx} {p pos : Pos} {e : Expr} {m : M (List D)} {k : Nat} (hr : Rm k X.A) (hm : X.mg "repr" = none) (ha : AM X [e] m) (hg : Gl X "repr" := by rfl) (he : starEach [e] X.env = (false, eval e X.env) :: starEach [] X.env := by rfl) (hpl : (backTo pos (starEach [] X.env)).any (·.1) = false := by rfl) :
    EM X (.Call (.Name "repr" p) [e] [] pos) (mCall reprAD m) :=
  em_callB (call_reprA hr.gd hr.units) prim_reprA pm_reprA hg hm (by decide +kernel) ha (he := he) (hpl := hpl)
end DL

/-! tuple(text), list(text); x[::-1] of texts and tuples; dict displays of texts to ints, d.get(x, i). -/
namespace DL
open PySem PySem.Spec PyProof.Rows L2
/-! ### tuple(text), list(text) -/
def signsL (z : Str) : List Str := z.cps.toList.map fun c => ⟨#[c]⟩
theorem signs_vals {z : Str} {acc : Array Value} (h : ItemsOf (SignAt z) acc z.cps.size) : Vals ((signsL z).map V.str) acc.toList := by
  have e : ∀ i, i < z.cps.size → ∃ c u, z.cps[i]? = some c ∧ acc.toList[i]? = some (.str ⟨#[c]⟩ u) := fun i hi => by
    have hi' : i < acc.size := by rw [h.1]; exact hi
    obtain ⟨c, u, h1, h2⟩ := h.2 i acc[i] (Array.getElem?_eq_getElem hi')
    exact ⟨c, u, h1, by rw [Array.getElem?_toList, Array.getElem?_eq_getElem hi', h2]⟩
  have : ∀ (cs : List Nat) (vs : List Value), vs.length = cs.length → (∀ i, i < cs.length → ∃ c u, cs[i]? = some c ∧ vs[i]? = some (.str ⟨#[c]⟩ u)) → Vals (cs.map fun c => V.str ⟨#[c]⟩) vs := by
    intro cs
    induction cs with
    | nil => intro vs hl _; cases vs with | nil => exact .nil | cons _ _ => cases hl
    | cons c cs ih =>
      intro vs hl h
      cases vs with
      | nil => cases hl
      | cons v vs =>
        obtain ⟨c', u, e1, e2⟩ := h 0 (by simp)
        cases e1
        cases e2
        exact .cons ⟨u, rfl⟩ (ih vs (by simpa using hl) fun i hi => h (i + 1) (by simpa using hi))
  have l := h.1
  have := this z.cps.toList acc.toList (by rw [Array.length_toList, Array.length_toList, h.1]) fun i hi => by
    obtain ⟨c, u, h1, h2⟩ := e i (by simpa using hi)
    exact ⟨c, u, by rw [Array.getElem?_toList]; exact h1, h2⟩
  unfold signsL
  rw [List.map_map]; exact this
theorem signs_len (z : Str) : ((signsL z).map V.str).length = z.length := by
  unfold signsL
  rw [List.length_map, List.length_map, Array.length_toList]; rfl
def rTupS : List V → Hp → VK → Prop := fun xs H Q => ∃ z, xs = [V.str z] ∧ z.length ≤ sizeLine ∧ ∀ p, H p = none → Q (.ref p) (upd H p (.tup ((signsL z).map V.str)))
def rLstS : List V → Hp → VK → Prop := fun xs H Q => ∃ z, xs = [V.str z] ∧ z.length ≤ sizeLine ∧ ∀ p, H p = none → Q (.ref p) (upd H p (.lst ((signsL z).map V.str)))
theorem call_tupS {X : Cx} (hc : X.calm = true) : CallR X (.type "tuple") rTupS := by
  intro pins s σ H xs us Q I r h
  obtain ⟨z, rfl, hz, q⟩ := h
  obtain ⟨u, rfl, t, rfl⟩ := vals1 r
  refine call_tuple_str (I.ok.hd hc) z t (fun h' tk acc kp ha => ?_) hz
  have I1 : Inv X pins σ H { s with heap := h', toks := tk } := I.kept kp
  have I2 : Inv X pins σ (upd H h'.objs.size (.tup ((signsL z).map V.str))) { s with heap := h'.push { cls := .type "tuple", data := .seq acc }, toks := tk } :=
    I1.laid (t' := tk) (fun b o e => Heap.get?_push_of_some _ e) (Nat.le_refl _) (show ObjOk X.prog X.w _ _ _ (.tup ((signsL z).map V.str)) from ⟨by rw [signs_len]; exact hz, acc.toList, signs_vals ha, by simpa using IsTup.new h' acc⟩)
  exact ⟨.ref h'.objs.size, _, I2, rfl, q _ (I1.hok.fresh (Nat.le_refl _))⟩
theorem call_lstS {X : Cx} (hc : X.calm = true) : CallR X (.type "list") rLstS := by
  intro pins s σ H xs us Q I r h
  obtain ⟨z, rfl, hz, q⟩ := h
  obtain ⟨u, rfl, t, rfl⟩ := vals1 r
  refine call_list_str (I.ok.hd hc) z t (fun h' tk acc c' kp e ha => ?_) hz
  exact ⟨.ref s.heap.objs.size, _, I.laid (t' := tk) kp (Nat.le_refl _) (show ObjOk X.prog X.w _ h' _ (.lst ((signsL z).map V.str)) from ⟨by rw [signs_len]; exact hz, acc.toList, c', signs_vals ha, by simpa using e⟩), rfl, q _ (I.hok.fresh (Nat.le_refl _))⟩
theorem dxs_signs {K : PySem.W.Frag} {H : Hp} {F : AS} (z : Str) : DxAll K H F ((signsL z).map V.str) ((signsL z).map PyData.str) := dxs_strs _
def tupSD : PC1
  | [.str z], k => z.length ≤ sizeLine ∧ k (.tuple ((signsL z).map PyData.str))
  | _, _ => False
theorem pm_tupS : ∀ ds, Pm1 (tupSD ds) := by
  intro ds k k' w q
  unfold tupSD at q ⊢
  split at q
  · exact ⟨q.1, w _ q.2⟩
  · exact q.elim
theorem prim_tupS {K : PySem.W.Frag} : PrimC K rTupS tupSD := by
  intro F H vs ds Q hF hd h
  unfold tupSD at h
  split at h
  · obtain ⟨v, rfl, dv⟩ := dx_one hd
    cases dv
    exact ⟨_, rfl, h.1, new_tup hF (dxs_signs _) h.2⟩
  · exact h.elim
section
variable {X : Cx} {p pos : Pos} {e : Expr}
theorem em_tupS {m : M (List D)} (hc : X.calm = true) (hm : X.mg "tuple" = none) (ha : AM X [e] m) (hg : Gl X "tuple" := by rfl) (he : starEach [e] X.env = (false, eval e X.env) :: starEach [] X.env := by rfl) (hpl : (backTo pos (starEach [] X.env)).any (·.1) = false := by rfl) : EM X (.Call (.Name "tuple" p) [e] [] pos) (mCall tupSD m) :=
  em_callTy (call_tupS hc) prim_tupS pm_tupS hg hm PyProof.Rows.boot_tuple ha (he := he) (hpl := hpl)
def mListS (m : M D) : M (List D) := fun ρ k => m ρ fun d ρ1 => match d with
  | .str z => z.length ≤ sizeLine ∧ k ((signsL z).map PyData.str) ρ1
  | _ => False
theorem nm_listS {m : M D} (hc : X.calm = true) (hm : X.mg "list" = none) (ha : EM X e m) (hg : Gl X "list" := by rfl) (he : starEach [e] X.env = (false, eval e X.env) :: starEach [] X.env := by rfl) (hpl : (backTo pos (starEach [] X.env)).any (·.1) = false := by rfl) :
    NM X (.Call (.Name "list" p) [e] [] pos) (mListS m) := by
  refine ⟨fun ρ k k' w q => ha.mono ρ _ _ (fun d ρ1 q1 => by cases d <;> first | exact q1.elim | exact ⟨q1.1, w _ _ q1.2⟩) q, pe_weak (pe_callTy (call_lstS hc) hg hm PyProof.Rows.boot_list (pa_cons ha.run pa_nil he) (he := he) (hpl := hpl)) ?_⟩
  rintro σ H Q ⟨G, loc, ρ, R, q⟩
  refine ⟨G, loc, ρ, R, ha.mono ρ _ _ (fun d ρ1 q1 v H1 R1 g1 d1 => ?_) q⟩
  cases d <;> first | exact (show False from q1).elim | skip
  cases d1
  refine ⟨_, rfl, q1.1, fun l hl => ?_⟩
  obtain ⟨a1, a2, a3, a4, a5, a6⟩ := new_list R1 (dxs_signs (K := X.K) (H := H1) (F := Fb G.fb ρ1 loc) _) hl
  exact q1.2 l _ _ a1 a2 a3 a4 (g1.trans a5) a6
end
/-! ### dict displays of texts to ints -/
def litT (l : List (Str × Int)) : List (TE × TE) := l.map fun p => (tC (.str p.1), tC (.int p.2))
theorem lit_pairs : ∀ (l : List (Str × Int)) {σ : L2.St} {H : Hp} {Q : List (V × V) → Hp → Prop}, Q (l.map fun p => (V.str p.1, V.int p.2)) H → tPairs (litT l) σ H Q
  | [], _, _, _, q => q
  | p :: l, σ, H, Q, q => lit_pairs l (Q := fun ps H3 => Q ((V.str p.1, V.int p.2) :: ps) H3) q
theorem em_dlit {X : Cx} {pos : Pos} {keys : List (Option Expr)} {values : List Expr} (l : List (Str × Int)) (h : PPs X pos keys values (litT l)) (nd : (l.map (·.1)).Nodup) (l15 : l.length ≤ 15) (hall : keys.all (·.isSome) = true) (hl : keys.length = values.length) (h0 : keys ≠ []) (h15 : keys.length ≤ 15) :
    EM X (.Dict keys values pos) (mPure (.dict (dsiD l))) := by
  refine ⟨mono_pure, pe_weak (pe_disp h hall hl h0 h15) ?_⟩
  rintro σ H Q ⟨G, loc, ρ, R, q⟩
  intro p hp
  refine lit_pairs l ⟨upd_same, dsiV l, ?_, by unfold dsiV; rw [List.length_map]; exact l15, ?_⟩
  · unfold dsiV
    rw [List.map_map]; rfl
  · have e : mergeK [] (dsiV l) = dsiV l := by
      rw [merge_new, List.nil_append]
      rw [List.nil_append]
      unfold dsiV
      rw [List.map_map]
      refine List.pairwise_map.mpr ?_
      exact (List.pairwise_map.mp nd).imp fun h e => h (Sum.inr.inj e)
    rw [e]
    have m : ∀ b o, H b = some o → upd (upd H p (.dK [])) p (.dK (dsiV l)) b = some o := fun b o z => by
      have ne : b ≠ p := fun y => by rw [y, hp] at z; cases z
      rw [upd_ne ne, upd_ne ne]; exact z
    exact q _ _ (R.more m) (more_grow m) (.dsi l rfl (R.notFb hp) upd_same)
/-- d.get(x, y) of texts to ints -/
def mGetI (mo mi md : M D) : M D := fun ρ k => mo ρ fun a ρ1 => ∃ l, a = .dict (dsiD l) ∧ mi ρ1 fun b ρ2 => md ρ2 fun c ρ3 => ∃ x z, b = .str x ∧ c = .int z ∧ k (.int (((l.find? fun kv => decide (kv.1 = x)).map (·.2)).getD z)) ρ3
theorem dsiV_valO (l : List (Str × Int)) (x : Str) : valV (dsiV l) (Sum.inr x : Key) = ((l.find? fun kv => decide (kv.1 = x)).map fun kv => V.int kv.2) := by
  unfold valV dsiV
  rw [List.find?_map]
  have : ((fun kv : Key × V => decide (kv.1 = (Sum.inr x : Key))) ∘ fun p : Str × Int => ((Sum.inr p.1 : Key), V.int p.2)) = fun kv => decide (kv.1 = x) := by
    funext kv
    show decide ((Sum.inr kv.1 : Key) = Sum.inr x) = decide (kv.1 = x)
    exact decide_eq_decide.mpr ⟨fun z => Sum.inr.inj z, fun z => by rw [z]⟩
  rw [this, Option.map_map]; rfl
theorem em_getI {X : Cx} {o e f : Expr} {mo mi md : M D} {apos cpos : Pos} (hu : X.A.units + 1 < cLine) (ho : EM X o mo) (he : EM X e mi) (hf : EM X f md)
    (base : attributeBase o "get" X.env (eval o X.env) = eval o X.env := by rfl)
    (few : ((backTo cpos (starEach [e, f] X.env)).all (fun x => !x.1) && (backToKw cpos (keywordEach [] X.env)).all (fun x => x.1.isSome)
      && decide (([e, f] : List Expr).length + ([] : List Keyword).length + (if ([] : List Keyword).isEmpty then 0 else 1) < 30)) = true := by rfl)
    (line : (apos.endLine == cpos.line) = true := by rfl)
    (trees : backTo cpos (starEach [e, f] X.env) = [(false, eval e X.env), (false, eval f X.env)] := by rfl) : EM X (.Call (.Attribute o "get" apos) [e, f] [] cpos) (mGetI mo mi md) := by
  refine ⟨fun ρ k k' w q => ho.mono ρ _ _ (fun a ρ1 ⟨l, e1, q1⟩ => ⟨l, e1, he.mono ρ1 _ _ (fun b ρ2 q2 => hf.mono ρ2 _ _ (fun c ρ3 ⟨x, z, e2, e3, q3⟩ => ⟨x, z, e2, e3, w _ _ q3⟩) q2) q1⟩) q, pe_weak (pe_dget2 hu ho.run he.run hf.run ⟨base, few, line, trees⟩) ?_⟩
  rintro σ H Q ⟨G, loc, ρ, R, q⟩
  refine ⟨G, loc, ρ, R, ho.mono ρ _ _ (fun a ρ1 q1 v H1 R1 g1 d1 => ?_) q⟩
  obtain ⟨l, rfl, q1⟩ := q1
  obtain ⟨p, rfl, e1, n1⟩ := d1.dsiA
  refine ⟨p, rfl, .inl ⟨_, .inl e1⟩, G, loc, ρ1, R1, he.mono ρ1 _ _ (fun b ρ2 q2 u H2 R2 g2 d2 => ?_) q1⟩
  refine ⟨G, loc, ρ2, R2, hf.mono ρ2 _ _ (fun c ρ3 q3 w H3 R3 g3 d3 => ?_) q2⟩
  obtain ⟨x, z, rfl, rfl, q4⟩ := q3
  obtain ⟨e2, n2⟩ := g2 _ _ e1 n1
  obtain ⟨e3, n3⟩ := g3 _ _ e2 n2
  cases d2
  cases d3
  refine ⟨valV (dsiV l) (Sum.inr x : Key), .inl ⟨_, Sum.inr x, .inl e3, rfl, rfl⟩, ?_⟩
  have e4 : (valV (dsiV l) (Sum.inr x : Key)).getD (V.int z) = V.int (((l.find? fun kv => decide (kv.1 = x)).map (·.2)).getD z) := by
    rw [dsiV_valO]
    cases l.find? fun kv => decide (kv.1 = x) with
    | none => rfl
    | some kv => rfl
  rw [e4]
  exact q4 _ H3 R3 ((g1.trans g2).trans g3) (.int _)
end DL

/-! x[::-1] of texts and tuples. -/
namespace DL
open PySem PySem.Spec PyProof.Rows L2 HT
section
variable {prog : Program} {w : World} {A : Around} {E : Value → Shared → Prop} {s : Shared}
theorem sliceApplied_rev {sl : Addr} {vs : Value} {n : Nat} {Q : Int × Int × Nat → Shared → Prop} (hs : s.heap.IsSliceOf sl .none .none vs) (ps : IsPart vs (some (-1)))
    (h : Q ((n : Int) - 1, -1, n) s) : wpAny (model prog w) A (Builtin.Slice.sliceApplied (.ref sl) (pure (n : Int))) Q E s := by
  obtain ⟨os, hos, hcs, hds⟩ := id hs
  unfold Builtin.Slice.sliceApplied Builtin.Slice.sliceFields
  refine wpAny_bind (wpAny_bind (wpAny_field hos hds (x := .none) rfl (wpAny_bind (wpAny_field hos hds (x := .none) rfl (wpAny_bind (wpAny_field hos hds (x := vs) rfl (wpAny_pure ?_)))))))
  refine wpAny_bind (slicePart_ ps ?_)
  show wpAny _ _ (if ((-1 : Int) == 0) = true then _ else _) _ _ s
  rw [if_neg (by decide)]
  refine wpAny_bind (slicePart_none (wpAny_bind (slicePart_none (wpAny_bind (wpAny_pure ?_)))))
  have e : Builtin.Slice.slicePlaces ((n : Int) - 1) (-1) (-1) = n := by
    unfold Builtin.Slice.slicePlaces
    rw [if_neg (by decide)]
    split <;> simp <;> omega
  show wpAny _ _ (pure ((n : Int) - 1, (-1 : Int), Builtin.Slice.slicePlaces ((n : Int) - 1) (-1) (-1))) _ _ s
  rw [e]
  exact wpAny_pure h
theorem pick_rev (xs : Array Value) : ((List.range xs.size).filterMap fun (m : Nat) => xs[(((xs.size : Nat) : Int) - 1 + (m : Int) * -1).toNat]?) = xs.toList.reverse := by
  have e : (fun (m : Nat) => xs[(((xs.size : Nat) : Int) - 1 + (m : Int) * -1).toNat]?) = (fun m => xs[xs.size - 1 - m]?) := by
    funext m
    have : (((xs.size : Nat) : Int) - 1 + (m : Int) * -1).toNat = xs.size - 1 - m := by omega
    rw [this]
  have e2 : (fun m => xs[xs.size - 1 - m]?) = (fun k => xs[k]?) ∘ fun m => xs.size - 1 - m := rfl
  rw [e, e2, ← List.filterMap_map, PySem.W.krv_range, List.filterMap_reverse, PySem.W.krv_all]
theorem getItem_tuple_rev {t sl : Addr} {items : Array Value} {vs : Value} {Q : Value → Shared → Prop} (ht : IsTup s.heap t items) (hs : s.heap.IsSliceOf sl .none .none vs) (ps : IsPart vs (some (-1)))
    (h : Q (.ref s.heap.objs.size) { s with heap := s.heap.push { cls := .type "tuple", data := .seq items.toList.reverse.toArray } }) (hsz : items.size ≤ sizeLine) : wpAny (model prog w) A (getItem (.ref t) (.ref sl)) Q E s := by
  have htake : sizeOk (.seq items.toList.reverse.toArray) := by
    show items.toList.reverse.toArray.size ≤ sizeLine
    simpa using hsz
  obtain ⟨os, hos, hcs, hds⟩ := id hs
  have hTs : s.TypeIs (.ref sl) "slice" := ⟨os, hos, hcs⟩
  unfold getItem
  try with_reducible refine wpAny_holding ?_
  first | refine wpAny_bind (wpAny_pure ?_) | skip
  refine wpAny_bind (wpAny_sequenceKey ht.typeIs (by decide) ?_)
  refine wpAny_bind (wpAny_callSpecial?_slot (name := Str.ofString "__getitem__") ht.typeIs PyProof.Rows.slot_tuple_getitem
    (wpAny_call_entry PyProof.Rows.slot_tuple_getitem ht.typeIs entry_tuple_getitem ?_ (args_tuple_getitem _ _)))
  show wpAny _ _ (Builtin.Tuple.tupleItemsOf (.ref t) >>= _) _ _ s
  refine wpAny_bind (tupleItemsOf_ ht ?_)
  refine wpAny_bind (wpAny_typeOf hTs ?_)
  rw [if_pos (by decide)]
  refine wpAny_bind (sliceApplied_rev hs ps ?_)
  have hno : ¬ ((((items.size : Nat) : Int) - 1 == 0 && (-1 : Int) == 1 && items.size == items.size) = true) := by
    intro q
    rw [Bool.and_eq_true, Bool.and_eq_true] at q
    exact absurd q.1.2 (by decide)
  show wpAny _ _ (if (((items.size : Nat) : Int) - 1 == 0 && (-1 : Int) == 1 && items.size == items.size) = true then _ else _) _ _ s
  rw [if_neg hno, pick_rev]
  first
    | exact wpAny_bind (m := Builtin.Tuple.tupleExact _) (wpAny_newObj_type (wpAny_pure ⟨_, rfl, wpAny_pure h⟩) htake)
    | exact wpAny_bind (m := Builtin.Tuple.tupleExact _) (wpAny_newObj_type (wpAny_bind (wpAny_pure (wpAny_pure ⟨_, rfl, wpAny_pure h⟩))) htake)
    | exact wpAny_bind (wpAny_bind (m := Builtin.Tuple.tupleExact _) (wpAny_newObj_type (wpAny_pure (wpAny_pure ⟨_, rfl, wpAny_pure h⟩)) htake))
    | exact wpAny_bind (wpAny_bind (m := Builtin.Tuple.tupleExact _) (wpAny_newObj_type (wpAny_pure ⟨_, rfl, wpAny_pure h⟩) htake))
end
def tRevA (K : PySem.W.Frag) (te : TE) : TE := fun σ H Q => te σ H fun x H1 => (∃ z, x = .str z ∧ z.length ≤ sizeLine ∧ Q (.str (revS z)) H1) ∨ ∃ a xs, x = .ref a ∧ SqT K H1 a xs ∧ ∀ p, H1 p = none → Q (.ref p) (upd H1 p (.tup xs.reverse))
theorem vals_rev : ∀ {xs : List V} {us : List Value}, Vals xs us → Vals xs.reverse us.reverse
  | _, _, .nil => .nil
  | _, _, .cons r t => by
    rw [List.reverse_cons, List.reverse_cons]
    exact Vals.append (vals_rev t) (.cons r .nil)
theorem pe_revA {X : Cx} {e : Expr} {te : TE} {k : Nat} {p1 p2 p3 pos : Pos} (he : PE X e te) : PE X (.Subscript e (.Slice none none (some (.UnaryOp .USub (.Constant (.int 1) k p1) p2)) p3) pos) (tRevA X.K te) := by
  refine ⟨fun pins s σ H Q I h => ?_⟩
  refine Subscript_ (thn (he.run pins s σ H _ I h) fun v s1 ⟨x, H1, I1, r1, q1⟩ => ?_)
  have hst : PO X (some (.UnaryOp .USub (.Constant (.int 1) k p1) p2)) (tPart (tUn (rU fun i => .int (-i)) (tC (.int 1)))) := po_some (pe_un un_neg pe_int)
  refine wpAny_Slice (thn (po_none.run pins s1 σ H1 (fun o H2 => o = none ∧ H2 = H1) I1 ⟨rfl, rfl⟩) fun vl s2 ⟨l, H2, I2, pl, el, e2⟩ => ?_)
  subst el e2
  refine thn (po_none.run pins s2 σ H2 (fun o H3 => o = none ∧ H3 = H2) I2 ⟨rfl, rfl⟩) fun vu s3 ⟨u, H3, I3, pu, eu, e3⟩ => ?_
  subst eu e3
  refine thn (hst.run pins s3 σ H3 (fun o H4 => o = some (-1) ∧ H4 = H3) I3 ⟨1, rfl, -1, rfl, rfl, rfl⟩) fun vs s4 ⟨o, H4, I4, ps, eo, e4⟩ => ?_
  subst eo e4
  rcases q1 with ⟨z, ex, hz, q⟩ | ⟨a, xs, ex, hx, q⟩
  · subst ex
    obtain ⟨t, rfl⟩ := r1
    obtain ⟨l', rfl, el⟩ := IsPart.raw pl
    obtain ⟨u', rfl, eu⟩ := IsPart.raw pu
    obtain ⟨s', rfl, es⟩ := IsPart.raw ps
    have I5 : Inv X pins σ H4 { s4 with heap := s4.heap.push { cls := .type "slice", data := .fields #[partValue l', partValue u', partValue s'] } } := I4.kept (t' := s4.toks) fun b ob q => Heap.get?_push_of_some _ q
    show wpAny (model X.prog X.w) X.A (subscriptTail e (.Slice none none (some (.UnaryOp .USub (.Constant (.int 1) k p1) p2)) p3) (.str z t) (.ref s4.heap.objs.size)) (EP X pins σ Q) X.xe _
    refine tail_any (ops := [.str z t, .ref s4.heap.objs.size]) (typeIs_str _ _ _) F.slot_str_getitem.lookup ?_ (by with_unfolding_all rfl)
    refine wpAny_getItem_str_slice (l := l') (u := u') (st := s') ⟨_, Heap.get?_push_size _ rfl, rfl, rfl⟩ (by rw [es]; rfl) ?_
    have hpick : slicePicked z l' u' s' = (List.range z.cps.size).reverse := by
      unfold slicePicked
      rw [el, eu, es]
      show sliceRange ((z.cps.size : Int) - 1) (-1) (-1) = _
      rw [PySem.W.krv_sliceRange, PySem.W.krv_range]
    have hfm : ((slicePicked z l' u' s').filterMap (z.cps[·]?)) = z.cps.toList.reverse := by
      rw [hpick, List.filterMap_reverse, PySem.W.krv_all]
    unfold sliceMade
    rw [es, if_neg (by intro h; cases (Bool.and_eq_true_iff.mp h).1), hfm]
    exact ⟨by show z.cps.toList.reverse.toArray.size ≤ sizeLine; simpa [Str.length] using hz, .str (revS z), H4, I5.tok _, ⟨_, rfl⟩, q⟩
  · subst ex
    cases r1
    have I5 : Inv X pins σ H4 { s4 with heap := s4.heap.push { cls := .type "slice", data := .fields #[vl, vu, vs] } } := I4.kept (t' := s4.toks) fun b ob q => Heap.get?_push_of_some _ q
    cases pl
    cases pu
    obtain ⟨its, r, ht, hz⟩ := I5.tuple hx
    show wpAny (model X.prog X.w) X.A (subscriptTail e (.Slice none none (some (.UnaryOp .USub (.Constant (.int 1) k p1) p2)) p3) (.ref a) (.ref s4.heap.objs.size)) (EP X pins σ Q) X.xe _
    refine tail_any (ops := [.ref a, .ref s4.heap.objs.size]) ht.typeIs PyProof.Rows.slot_tuple_getitem.lookup ?_ (by with_unfolding_all rfl)
    refine getItem_tuple_rev ht ⟨_, Heap.get?_push_size _ rfl, rfl, rfl⟩ ps ?_ (by rw [List.size_toArray, ← r.length]; exact hz)
    refine ⟨.ref _, _, I5.laid (t' := s4.toks) (o := .tup xs.reverse) (fun b ob q => Heap.get?_push_of_some _ q) (Nat.le_refl _) ?_, rfl, q _ (I5.hok.fresh (Nat.le_refl _))⟩
    exact ⟨by rw [List.length_reverse]; exact hz, _, vals_rev r, IsTup.new _ _⟩
def mRevA (m : M D) : M D := fun ρ k => m ρ fun d ρ1 => match d with
  | .str z => z.length ≤ sizeLine ∧ k (.str (revS z)) ρ1
  | .tuple xs => k (.tuple xs.reverse) ρ1
  | _ => False
theorem em_revA {X : Cx} {e : Expr} {m : M D} {k : Nat} {p1 p2 p3 pos : Pos} (he : EM X e m) : EM X (.Subscript e (.Slice none none (some (.UnaryOp .USub (.Constant (.int 1) k p1) p2)) p3) pos) (mRevA m) := by
  refine ⟨fun ρ k k' w q => he.mono ρ _ _ (fun d ρ1 q1 => by cases d <;> first | exact q1.elim | exact ⟨q1.1, w _ _ q1.2⟩ | exact w _ _ q1) q, pe_weak (pe_revA he.run) ?_⟩
  rintro σ H Q ⟨G, loc, ρ, R, q⟩
  refine ⟨G, loc, ρ, R, he.mono ρ _ _ (fun d ρ1 q1 v H1 R1 g1 d1 => ?_) q⟩
  cases d <;> first | exact (show False from q1).elim | skip
  · cases d1
    exact .inl ⟨_, rfl, q1.1, q1.2 _ H1 R1 g1 (.str _)⟩
  · obtain ⟨a, xs, rfl, e1, da⟩ := d1.sqt
    refine .inr ⟨a, xs, rfl, e1, fun p hp => ?_⟩
    exact q1 _ _ (R1.more (upd_more hp)) (g1.trans (more_grow (upd_more hp))) (.tup (R1.notFb hp) upd_same (da.rev.g (more_grow (upd_more hp))))
/-! ### a test (x if c else y) -/
def mIfT (m : M Bool) (x y : M Bool) : M Bool := fun ρ k => m ρ fun t ρ1 => if t = true then x ρ1 k else y ρ1 k
theorem tm_ifx {X : Cx} {c a b : Expr} {m x y : M Bool} {pos : Pos} (h : TM X c m) (ha : TM X a x) (hb : TM X b y) : TM X (.IfExp c a b pos) (mIfT m x y) := by
  refine ⟨fun ρ k k' w q => h.mono ρ _ _ (fun t ρ1 q1 => by
    cases t with
    | true => rw [if_pos rfl] at q1 ⊢; exact ha.mono ρ1 _ _ w q1
    | false => rw [if_neg Bool.false_ne_true] at q1 ⊢; exact hb.mono ρ1 _ _ w q1) q, ⟨fun pins s σ H Q I q => ?_⟩⟩
  obtain ⟨G, loc, ρ, R, q⟩ := q
  refine isTrue_IfExp (thn (h.run.run pins s σ H (fun t H1 => (if t = true then TTof X.K x σ H1 Q else TTof X.K y σ H1 Q)) I ⟨G, loc, ρ, R, h.mono ρ _ _ (fun t ρ1 q1 H1 R1 g1 => ?_) q⟩) fun d s1 ⟨H1, I1, q1⟩ => ?_)
  · cases t with
    | true =>
      rw [if_pos rfl] at q1 ⊢
      exact ⟨G, loc, ρ1, R1, ha.mono ρ1 _ _ (fun d ρ2 q2 H2 R2 g2 => q2 H2 R2 (g1.trans g2)) q1⟩
    | false =>
      rw [if_neg Bool.false_ne_true] at q1 ⊢
      exact ⟨G, loc, ρ1, R1, hb.mono ρ1 _ _ (fun d ρ2 q2 H2 R2 g2 => q2 H2 R2 (g1.trans g2)) q1⟩
  · cases d with
    | true => exact ha.run.run pins s1 σ H1 Q I1 q1
    | false => exact hb.run.run pins s1 σ H1 Q I1 q1
end DL

/-! The world: things by their addresses, handed from def to def. -/
namespace DL
open PySem L2

abbrev Wd := List (Addr × Cell)
def Kys (Ω : Wd) (a : Addr) : Prop := ∃ c, (a, c) ∈ Ω
/-- from world to world -/
structure WStep (K : PySem.W.Frag) (F : AS) (H H' : Hp) (Ω Ω' : Wd) : Prop where
  kp : ∀ c o, ¬ Kys Ω c → H c = some o → H' c = some o
  st : ∀ c o, H c = some o → ∃ o', H' c = some o'
  nd : (Ω'.map (·.1)).Nodup
  nw : ∀ a, Kys Ω' a → Kys Ω a ∨ H a = none
  at_ : ∀ p ∈ Ω', CellAt K H' (fun x => F x ∨ Kys Ω' x) p.1 p.2
structure WIn (K : PySem.W.Frag) (F : AS) (H : Hp) (Ω : Wd) : Prop where
  nd : (Ω.map (·.1)).Nodup
  at_ : ∀ p ∈ Ω, CellAt K H F p.1 p.2
  sub : ∀ a, Kys Ω a → F a
  ex : ∀ a, F a → ∃ o, H a = some o
theorem CellAt.weak {K : PySem.W.Frag} {H : Hp} {F F' : AS} {a : Addr} {c : Cell} (h : CellAt K H F a c) (s : ∀ b, F' b → F b) : CellAt K H F' a c := h.g (fun _ e => e) fun _ _ e n => ⟨e, fun z => n (s _ z)⟩
section
variable {K : PySem.W.Frag} {G : Fr} {ρ : List Slot} {loc : Nat → Addr} {σ : L2.St} {H H' : Hp} {w : Nat} {Ω Ω' : Wd}
theorem Rep.kys (e : ρ[w]? = some (.wld Ω)) {a : Addr} (h : Kys Ω a) : Fb G.fb ρ loc a := .inr (.inl ⟨w, _, e, h⟩)
theorem Rep.wIn (R : Rep K G ρ loc σ H) (e : ρ[w]? = some (.wld Ω)) : WIn K (Fb G.fb ρ loc) H Ω :=
  ⟨(R.raw.wat w Ω e).1, fun p hp => ((R.raw.wat w Ω e).2 p hp).1, fun a h => Rep.kys e h, R.fbE⟩
/-- the world has changed -/
theorem Rep.world (R : Rep K G ρ loc σ H) (e : ρ[w]? = some (.wld Ω)) (S : WStep K (Fb G.fb ρ loc) H H' Ω Ω') :
    Rep K G (ρ.set w (.wld Ω')) loc σ H' ∧ Grow (Fb G.fb ρ loc) (Fb G.fb (ρ.set w (.wld Ω')) loc) H H' ∧ ∀ b, Fb G.fb (ρ.set w (.wld Ω')) loc b → Fb G.fb ρ loc b ∨ Kys Ω' b := by
  have wl : w < ρ.length := (List.getElem?_eq_some_iff.mp e).1
  have gt : ∀ j s, (ρ.set w (.wld Ω'))[j]? = some s → (j = w ∧ s = .wld Ω') ∨ (j ≠ w ∧ ρ[j]? = some s) := fun j s q => by
    by_cases hj : w = j
    · subst hj
      rw [List.getElem?_set_self wl] at q
      exact .inl ⟨rfl, (Option.some.inj q).symm⟩
    · rw [List.getElem?_set_ne hj] at q; exact .inr ⟨Ne.symm hj, q⟩
  have sub : ∀ b, Fb G.fb (ρ.set w (.wld Ω')) loc b → Fb G.fb ρ loc b ∨ Kys Ω' b := fun b z => by
    rcases z with z | ⟨i, s, q, m⟩ | ⟨i, c, ds, q, l⟩
    · exact .inl (.inl z)
    · rcases gt i _ q with ⟨_, rfl⟩ | ⟨_, q⟩
      · exact .inr m
      · exact .inl (.inr (.inl ⟨i, s, q, m⟩))
    · rcases gt i _ q with ⟨_, q⟩ | ⟨_, q⟩
      · cases q
      · exact .inl (.inr (.inr ⟨i, c, ds, q, l⟩))
  have gr : Grow (Fb G.fb ρ loc) (Fb G.fb (ρ.set w (.wld Ω')) loc) H H' := fun b o q n => ⟨S.kp b o (fun z => n (Rep.kys e z)) q, fun z => by
    rcases sub b z with z | z
    · exact n z
    · rcases S.nw b z with z | z
      · exact n (Rep.kys e z)
      · rw [z] at q; cases q⟩
  have off : ∀ j s a, j ≠ w → ρ[j]? = some s → s.has a → ¬ Kys Ω a := fun j s a hj q m z => hj (R.raw.two j w s _ a q e m z)
  have ol : ∀ j c ds, ρ[j]? = some (.own c ds) → ¬ Kys Ω (loc j) := fun j c ds q z => R.raw.own _ ⟨w, _, e, z⟩ j c ds q rfl
  refine ⟨⟨by rw [List.length_set]; exact R.len, fun j d q => ?_, fun j c ds q => ?_, fun i j b c ds es q q' z => ?_, fun j ds q => ?_, fun j ds q => ?_, fun b o q n => ?_, fun b q => ?_, R.bwS, ⟨fun j v cs fs q => ?_, fun j Ω2 q => ?_, fun a z j c ds q y => ?_, fun i j s s' a q q' m m' => ?_⟩⟩, gr, sub⟩
  · rcases gt j _ q with ⟨_, q⟩ | ⟨_, q⟩
    · cases q
    · obtain ⟨v, h1, h2⟩ := R.dat j d q
      exact ⟨v, h1, h2.g gr⟩
  · rcases gt j _ q with ⟨_, q⟩ | ⟨_, q⟩
    · cases q
    · obtain ⟨h1, vs, h2, h3⟩ := R.own j c ds q
      exact ⟨h1, vs, S.kp _ _ (ol j c ds q) h2, h3.g gr⟩
  · rcases gt i _ q with ⟨_, q⟩ | ⟨_, q⟩
    · cases q
    · rcases gt j _ q' with ⟨_, q'⟩ | ⟨_, q'⟩
      · cases q'
      · exact R.apart i j b c ds es q q' z
  · rcases gt j _ q with ⟨_, q⟩ | ⟨_, q⟩
    · cases q
    · exact R.brw j ds q
  · rcases gt j _ q with ⟨_, q⟩ | ⟨_, q⟩
    · cases q
    · exact R.new j ds q
  · refine S.kp b o (fun z => ?_) (R.ext b o q n)
    obtain ⟨c, m⟩ := z
    rcases ((R.raw.wat w Ω e).2 _ m).2 with z | z
    · rw [z.1] at q; cases q
    · exact n z
  · obtain ⟨o, q⟩ := R.fbS b q
    exact S.st b o q
  · rcases gt j _ q with ⟨_, q⟩ | ⟨hj, q⟩
    · cases q
    · obtain ⟨a, b, c, d⟩ := R.raw.at_ j v cs fs q
      refine ⟨a, b, fun p hp => ⟨S.kp _ _ (off j _ p.1 hj q ⟨p.2, hp⟩) (c p hp).1, (c p hp).2⟩, fun f hf => (d f hf).g gr⟩
  · rcases gt j _ q with ⟨_, q⟩ | ⟨hj, q⟩
    · cases q
      refine ⟨S.nd, fun p hp => ⟨(S.at_ p hp).weak fun b z => sub b z, ?_⟩⟩
      rcases S.nw p.1 ⟨p.2, hp⟩ with ⟨c, z⟩ | z
      · exact ((R.raw.wat w Ω e).2 _ z).2
      · exact .inl ⟨R.h0 z, fun y => by
          obtain ⟨o, x⟩ := R.fbS _ y
          rw [z] at x; cases x⟩
    · obtain ⟨a, b⟩ := R.raw.wat j Ω2 q
      refine ⟨a, fun p hp => ⟨(b p hp).1.g (fun o e => S.kp _ _ (off j _ p.1 hj q ⟨p.2, hp⟩) e) gr, (b p hp).2⟩⟩
  · rcases gt j _ q with ⟨_, q⟩ | ⟨_, q⟩
    · cases q
    · obtain ⟨i, s, q2, m⟩ := z
      rcases gt i _ q2 with ⟨_, rfl⟩ | ⟨_, q2⟩
      · rcases S.nw a m with z | z
        · exact ol j c ds q (y ▸ z)
        · obtain ⟨_, vs, h2, _⟩ := R.own j c ds q
          rw [y, z] at h2; cases h2
      · exact R.raw.own a ⟨i, s, q2, m⟩ j c ds q y
  · have ex : ∀ j s, j ≠ w → ρ[j]? = some s → s.has a → Kys Ω' a → False := fun j s hj q m z => by
      rcases S.nw a z with z | z
      · exact off j s a hj q m z
      · obtain ⟨⟨o, y⟩, _⟩ := R.raw.here ⟨j, s, q, m⟩
        rw [z] at y; cases y
    rcases gt i _ q with ⟨hi, rfl⟩ | ⟨hi, q⟩
    · rcases gt j _ q' with ⟨hj, rfl⟩ | ⟨hj, q'⟩
      · rw [hi, hj]
      · exact (ex j s' hj q' m' m).elim
    · rcases gt j _ q' with ⟨hj, rfl⟩ | ⟨hj, q'⟩
      · exact (ex i s hi q m m').elim
      · exact R.raw.two i j s s' a q q' m m'
/-- a world is planted -/
theorem Rep.plant (R : Rep K G ρ loc σ H) (nh : ∀ (i : Nat) (s : Slot), s.hv → ρ[i]? ≠ some s) (e : ρ[w]? = some .non) (I : WIn K (Fb G.fb ρ loc) H Ω) (sub : ∀ a, Kys Ω a → G.fb a) (ol : ∀ j c ds, ρ[j]? = some (.own c ds) → ¬ Kys Ω (loc j)) :
    Rep K { G with bw := fun b => G.bw b ∨ Kys Ω b } (ρ.set w (.wld Ω)) loc σ H ∧ ∀ b, Fb G.fb (ρ.set w (.wld Ω)) loc b → Fb G.fb ρ loc b := by
  have wl : w < ρ.length := (List.getElem?_eq_some_iff.mp e).1
  have gt : ∀ j s, (ρ.set w (.wld Ω))[j]? = some s → (j = w ∧ s = .wld Ω) ∨ (j ≠ w ∧ ρ[j]? = some s) := fun j s q => by
    by_cases hj : w = j
    · subst hj
      rw [List.getElem?_set_self wl] at q
      exact .inl ⟨rfl, (Option.some.inj q).symm⟩
    · rw [List.getElem?_set_ne hj] at q; exact .inr ⟨Ne.symm hj, q⟩
  have sb : ∀ b, Fb G.fb (ρ.set w (.wld Ω)) loc b → Fb G.fb ρ loc b := fun b z => by
    rcases z with z | ⟨i, s, q, m⟩ | ⟨i, c, ds, q, l⟩
    · exact .inl z
    · rcases gt i _ q with ⟨_, rfl⟩ | ⟨_, q⟩
      · exact .inl (sub b m)
      · exact (nh i s m.hv q).elim
    · rcases gt i _ q with ⟨_, q⟩ | ⟨_, q⟩
      · cases q
      · exact .inr (.inr ⟨i, c, ds, q, l⟩)
  refine ⟨⟨by rw [List.length_set]; exact R.len, fun j d q => ?_, fun j c ds q => ?_, fun i j b c ds es q q' z => ?_, fun j ds q => ?_, fun j ds q => ?_, fun b o q n => R.ext b o q fun z => n (.inl z), R.fbS, fun b z => z.elim (R.bwS b) (sub b), ⟨fun j v cs fs q => ?_, fun j Ω2 q => ?_, fun a z j c ds q y => ?_, fun i j s s' a q q' m m' => ?_⟩⟩, sb⟩
  · rcases gt j _ q with ⟨_, q⟩ | ⟨_, q⟩
    · cases q
    · obtain ⟨v, h1, h2⟩ := R.dat j d q
      exact ⟨v, h1, h2.weak sb⟩
  · rcases gt j _ q with ⟨_, q⟩ | ⟨_, q⟩
    · cases q
    · obtain ⟨h1, vs, h2, h3⟩ := R.own j c ds q
      exact ⟨h1, vs, h2, h3.weak sb⟩
  · rcases gt i _ q with ⟨_, q⟩ | ⟨_, q⟩
    · cases q
    · rcases gt j _ q' with ⟨_, q'⟩ | ⟨_, q'⟩
      · cases q'
      · exact R.apart i j b c ds es q q' z
  · rcases gt j _ q with ⟨_, q⟩ | ⟨_, q⟩
    · cases q
    · exact ⟨(R.brw j ds q).1, .inl (R.brw j ds q).2⟩
  · rcases gt j _ q with ⟨_, q⟩ | ⟨_, q⟩
    · cases q
    · exact R.new j ds q
  · rcases gt j _ q with ⟨_, q⟩ | ⟨_, q⟩
    · cases q
    · exact (nh j (.raw v cs fs) trivial q).elim
  · rcases gt j _ q with ⟨_, q⟩ | ⟨_, q⟩
    · cases q
      exact ⟨I.nd, fun p hp => ⟨(I.at_ p hp).weak sb, .inr (.inr ⟨p.2, hp⟩)⟩⟩
    · exact (nh j (.wld Ω2) trivial q).elim
  · rcases gt j _ q with ⟨_, q⟩ | ⟨_, q⟩
    · cases q
    · obtain ⟨i, s, q2, m⟩ := z
      rcases gt i _ q2 with ⟨_, rfl⟩ | ⟨_, q2⟩
      · exact ol j c ds q (y ▸ m)
      · exact nh i s m.hv q2
  · rcases gt i _ q with ⟨hi, rfl⟩ | ⟨_, q⟩
    · rcases gt j _ q' with ⟨hj, rfl⟩ | ⟨_, q'⟩
      · rw [hi, hj]
      · exact (nh j s' m'.hv q').elim
    · exact (nh i s m.hv q).elim
end

/-! ### defs that change the world -/
abbrev FW := List D → Wd → (Bool → D → Wd → Prop) → Prop
abbrev FBW := List D → List D → Wd → (Bool → D → List D → Wd → Prop) → Prop
def KdW (K : PySem.W.Frag) (fb : AS) (H : Hp) (Ω : Wd) (Q : VK) : Bool → D → Wd → Prop := fun b d Ω' => ∀ v H', WStep K fb H H' Ω Ω' → Dx K H' (fun x => fb x ∨ Kys Ω' x) v d → (b = true → IsNew K H (fun x => fb x ∨ Kys Ω' x) H' v d) → Q v H'
def spW (K : PySem.W.Frag) (n : Nat) (F : FW) : Sp := fun vs H Q _ => ∃ (fb : AS) (ds : List D) (Ω : Wd), WIn K fb H Ω ∧ DxAll K H fb vs ds ∧ ds.length = n ∧ F ds Ω (KdW K fb H Ω Q)
def KdBW (K : PySem.W.Frag) (fb : AS) (a : Addr) (H : Hp) (Ω : Wd) (Q : VK) : Bool → D → List D → Wd → Prop := fun b d bs Ω' => ∀ v H', (∀ c o, c ≠ a → ¬ Kys Ω c → H c = some o → H' c = some o) → (∀ c o, H c = some o → ∃ o', H' c = some o') → (Ω'.map (·.1)).Nodup → (∀ c, Kys Ω' c → Kys Ω c ∨ H c = none) →
  (∀ p ∈ Ω', CellAt K H' (fun x => fb x ∨ Kys Ω' x) p.1 p.2) → (∃ ws, H' a = some (.lst ws) ∧ DxAll K H' (fun x => fb x ∨ Kys Ω' x) ws bs) → Dx K H' (fun x => fb x ∨ Kys Ω' x) v d → (b = true → IsNew K H (fun x => fb x ∨ Kys Ω' x) H' v d) → Q v H'
def spBW (K : PySem.W.Frag) (n : Nat) (F : FBW) : Sp := fun vs H Q _ => ∃ (fb : AS) (a : Addr) (vs' : List V) (ds bs : List D) (ws : List V) (Ω : Wd), vs = .ref a :: vs' ∧ fb a ∧ ¬ Kys Ω a ∧ WIn K fb H Ω ∧ H a = some (.lst ws) ∧ DxAll K H fb ws bs ∧ DxAll K H fb vs' ds ∧ ds.length = n ∧
  F bs ds Ω (KdBW K fb a H Ω Q)
def PmW (F : FW) : Prop := ∀ ds Ω k k', (∀ b d Ω', k b d Ω' → k' b d Ω') → F ds Ω k → F ds Ω k'
def PmBW (F : FBW) : Prop := ∀ bs ds Ω k k', (∀ b d bs' Ω', k b d bs' Ω' → k' b d bs' Ω') → F bs ds Ω k → F bs ds Ω k'
/-- n data, ex names, then the world -/
def fnW (m : SMon) (n ex : Nat) : FW := fun ds Ω k => m ⟨fun ρ => ∃ Ω', ρ[n + ex]? = some (Slot.wld Ω') ∧ k false .none Ω', fun b d ρ => ∃ Ω', ρ[n + ex]? = some (Slot.wld Ω') ∧ k b d Ω', fun _ => False, fun _ => False⟩ (ds.map Slot.dat ++ (List.replicate ex Slot.non ++ [.wld Ω]))
def fnBW (m : SMon) (n ex : Nat) : FBW := fun bs ds Ω k => m ⟨fun ρ => ∃ bs' Ω', ρ[0]? = some (Slot.own true bs') ∧ ρ[n + ex + 1]? = some (Slot.wld Ω') ∧ k false .none bs' Ω', fun b d ρ => ∃ bs' Ω', ρ[0]? = some (Slot.own true bs') ∧ ρ[n + ex + 1]? = some (Slot.wld Ω') ∧ k b d bs' Ω', fun _ => False, fun _ => False⟩
  (Slot.own true bs :: (ds.map Slot.dat ++ (List.replicate ex Slot.non ++ [.wld Ω])))
/-- .. of a world of its own that is thrown away: a def of data alone -/
def fnSW (m : SMon) (n ex : Nat) : FS := fun ds k => m ⟨fun _ => k false .none, fun b d _ => k b d, fun _ => False, fun _ => False⟩ (ds.map Slot.dat ++ (List.replicate ex Slot.non ++ [.wld []]))
def fnBSW (m : SMon) (n ex : Nat) : FB := fun bs ds k => m ⟨fun ρ => ∃ bs', ρ[0]? = some (Slot.own true bs') ∧ k false .none bs', fun b d ρ => ∃ bs', ρ[0]? = some (Slot.own true bs') ∧ k b d bs', fun _ => False, fun _ => False⟩
  (Slot.own true bs :: (ds.map Slot.dat ++ (List.replicate ex Slot.non ++ [.wld []])))
theorem pm_fnW {m : SMon} (h : SMono m) (n ex : Nat) : PmW (fnW m n ex) := fun ds Ω k k' w q => by
  unfold fnW at q ⊢
  refine h _ _ _ ?_ q
  exact SK.le.mk (fun _ ⟨Ω', e, q⟩ => ⟨Ω', e, w _ _ _ q⟩) (fun _ _ _ ⟨Ω', e, q⟩ => ⟨Ω', e, w _ _ _ q⟩) (fun _ q => q) fun _ q => q
theorem pm_fnBW {m : SMon} (h : SMono m) (n ex : Nat) : PmBW (fnBW m n ex) := fun bs ds Ω k k' w q => by
  unfold fnBW at q ⊢
  refine h _ _ _ ?_ q
  exact SK.le.mk (fun _ ⟨bs', Ω', e, e2, q⟩ => ⟨bs', Ω', e, e2, w _ _ _ _ q⟩) (fun _ _ _ ⟨bs', Ω', e, e2, q⟩ => ⟨bs', Ω', e, e2, w _ _ _ _ q⟩) (fun _ q => q) fun _ q => q
theorem pm_fnSW {m : SMon} (h : SMono m) (n ex : Nat) : PmS (fnSW m n ex) := fun ds k k' w q => by
  unfold fnSW at q ⊢
  refine h _ _ _ ?_ q
  exact SK.le.mk (fun _ q => w _ _ q) (fun _ _ _ q => w _ _ q) (fun _ q => q) fun _ q => q
theorem pm_fnBSW {m : SMon} (h : SMono m) (n ex : Nat) : PmB (fnBSW m n ex) := fun bs ds k k' w q => by
  unfold fnBSW at q ⊢
  refine h _ _ _ ?_ q
  exact SK.le.mk (fun _ ⟨bs', e, q⟩ => ⟨bs', e, w _ _ _ q⟩) (fun _ _ _ ⟨bs', e, q⟩ => ⟨bs', e, w _ _ _ q⟩) (fun _ q => q) fun _ q => q
theorem set_last {α : Type} {xs ys : List α} {s : α} {n ex : Nat} {z : α} (h : xs.length = n) (hy : ys = List.replicate (ex + 1) z) : (xs ++ ys).set (n + ex) s = xs ++ (List.replicate ex z ++ [s]) := by
  subst h hy
  rw [List.set_append_right (h := by omega), Nat.add_sub_cancel_left, List.replicate_succ', List.set_append_right (h := by simp), List.length_replicate, Nat.sub_self]
  rfl
section
variable {P : Program} {w : World} {K : PySem.W.Frag} {mg : Str → Option Value} {base : Heap} {x qual : Str} {st : Stmt} {f : Addr} {fd : FuncData} {N ps : List Str} {k : Nat} {m : SMon}
theorem exitW {G : Fr} {ρ' : List Slot} {loc' : Nat → Addr} {σ' : L2.St} {H H' : Hp} {fb : AS} {Ω Ω' : Wd} {a : AS} {w : Nat} (R : Rep K ⟨H, fb, fun b => a b ∨ Kys Ω b, G.l0⟩ ρ' loc' σ' H') (I : WIn K fb H Ω) (e : ρ'[w]? = some (.wld Ω')) :
    (∀ c o, ¬ a c → ¬ Kys Ω c → H c = some o → H' c = some o) ∧ ((∀ c, a c → fb c) → ∀ c o, H c = some o → ∃ o', H' c = some o') ∧ (Ω'.map (·.1)).Nodup ∧ ((∀ c, a c → ¬ Kys Ω' c) → ∀ c, Kys Ω' c → Kys Ω c ∨ H c = none) ∧ (∀ p ∈ Ω', CellAt K H' (fun x => fb x ∨ Kys Ω' x) p.1 p.2) ∧ ∀ b, fb b ∨ Kys Ω' b → Fb fb ρ' loc' b := by
  have sub : ∀ b, fb b ∨ Kys Ω' b → Fb fb ρ' loc' b := fun b z => z.elim .inl fun z => Rep.kys (G := ⟨H, fb, fun _ => False, G.l0⟩) e z
  obtain ⟨nd, at_⟩ := R.raw.wat w Ω' e
  refine ⟨fun c o na nk q => R.ext c o q fun z => z.elim na nk, fun ha c o q => ?_, nd, fun ha c z => ?_, fun p hp => (at_ p hp).1.weak sub, sub⟩
  · by_cases hc : fb c
    · exact R.fbS c hc
    · exact ⟨o, R.ext c o q fun z => hc (z.elim (ha c) (I.sub c))⟩
  · obtain ⟨x, m⟩ := z
    rcases (at_ _ m).2 with z | z | z
    · exact .inr z.1
    · exact (ha c z ⟨x, m⟩).elim
    · exact .inl z
theorem fnw (F : Fun K x qual st f fd) (S : FnScope N ps (defScope st)) {n ex : Nat} (hn : ps.length = n) (hN : N.length = n + ex + 1)
    (body : ∀ (cdv : Value) (A : Around) (outer : List Env) (s : Shared) (H : Hp) (E : XK), Rm k (A.deeper (PyProof.Rows.envOfC qual (defScope st) s.heap.objs.size f cdv)) → BM (cxOf CX0 P w K mg base N qual (defScope st) f cdv A outer s H E).nox (defBody st) m) :
    FnG P w K mg base CX0 (k + 1) f fd ps (spW K n (fnW m n ex)) := by
  refine funG F S (fun vs H Q E h => ?_) (fun cdv A outer s H vs Q E hr h => ?_)
  · obtain ⟨fb, ds, Ω, _, hd, e, _⟩ := h
    exact (hd.len_sp e).trans hn.symm
  · obtain ⟨fb, ds, Ω, I, hd, e, q⟩ := h
    have B := body cdv A outer s H E hr
    have R := rep_start0 (N := N) I.ex hd
    have hx : N.length - ds.length = ex + 1 := by omega
    rw [hx] at R
    obtain ⟨R, sb⟩ := R.plant (w := n + ex) (Ω := Ω) (fun i s h e => slot_raw h e) (by rw [List.getElem?_append_right (by rw [List.length_map]; omega), List.length_map, List.getElem?_replicate, if_pos (by omega)]) ⟨I.nd, fun p hp => (I.at_ p hp).weak fun b z => by
        rcases z with z | ⟨i, s, e, m⟩ | ⟨i, b, es, e, _⟩
        · exact z
        · exact (slot_raw m.hv e).elim
        · exact (slot_own e).elim, fun a h => .inl (I.sub a h), R.fbE⟩ I.sub (fun j c es e => (slot_own e).elim)
    rw [set_last (by rw [List.length_map]; exact e) rfl] at R
    refine ⟨_, B.run, ⟨_, _, _, _, R, q, ?_, ?_, ?_, ?_⟩⟩
    · rintro ρ' loc' σ' H' R' g ⟨Ω', e2, q⟩
      obtain ⟨x1, x2, x3, x4, x5, x6⟩ := exitW (G := ⟨H, fb, fun _ => False, fun _ => 0⟩) R' I e2
      exact q .non H' ⟨fun c o nk e => x1 c o (fun z => z) nk e, x2 (fun _ z => z.elim), x3, x4 (fun _ z => z.elim), x5⟩ .non (fun z => nomatch z)
    · rintro b d ρ' loc' σ' v H' R' g dx nw ⟨Ω', e2, q⟩
      obtain ⟨x1, x2, x3, x4, x5, x6⟩ := exitW (G := ⟨H, fb, fun _ => False, fun _ => 0⟩) R' I e2
      exact q v H' ⟨fun c o nk e => x1 c o (fun z => z) nk e, x2 (fun _ z => z.elim), x3, x4 (fun _ z => z.elim), x5⟩ (dx.weak x6) fun z => (nw z).weak x6
    · exact fun ρ' loc' σ' H' R' g q => q
    · exact fun ρ' loc' σ' H' R' g q => q
end
end DL

namespace DL
open PySem L2

section
variable {P : Program} {w : World} {K : PySem.W.Frag} {mg : Str → Option Value} {base : Heap} {x qual : Str} {st : Stmt} {f : Addr} {fd : FuncData} {N ps : List Str} {k n ex : Nat} {m : SMon}
theorem WIn.nil {F : AS} {H : Hp} (h : ∀ a, F a → ∃ o, H a = some o) : WIn K F H [] := ⟨List.nodup_nil, fun _ h => (List.not_mem_nil h).elim, fun _ ⟨_, h⟩ => (List.not_mem_nil h).elim, h⟩
theorem kys_nil {a : Addr} : ¬ Kys [] a := fun ⟨_, h⟩ => List.not_mem_nil h
theorem bh_get {ds : List D} {c : Nat} {s : Slot} {bs : List D} (hs : s.hv) {i : Nat} (h : (Slot.own true bs :: (ds.map Slot.dat ++ List.replicate c Slot.non))[i]? = some s) : False := by
  cases i with
  | zero => simp at h; subst h; exact hs
  | succ i => rw [List.getElem?_cons_succ] at h; exact slot_raw hs h
theorem bo_get {ds : List D} {c : Nat} {bs es : List D} {b : Bool} {i : Nat} (h : (Slot.own true bs :: (ds.map Slot.dat ++ List.replicate c Slot.non))[i]? = some (Slot.own b es)) : i = 0 ∧ b = true ∧ es = bs := by
  cases i with
  | zero => simp at h; exact ⟨rfl, h.1, h.2.symm⟩
  | succ i => rw [List.getElem?_cons_succ] at h; exact (slot_own h).elim
theorem fb_start {ds : List D} {c : Nat} {fb : AS} {loc : Nat → Addr} : ∀ b, Fb fb (ds.map Slot.dat ++ List.replicate c Slot.non) loc b → fb b := fun b z => by
  rcases z with z | ⟨i, s, e, m⟩ | ⟨i, b, es, e, _⟩
  · exact z
  · exact (slot_raw m.hv e).elim
  · exact (slot_own e).elim
/-- the slots of a def of data at its entry, with a world -/
theorem rep_startW {H : Hp} {fb : AS} {vs : List V} {ds : List D} {Ω : Wd} (hN : N.length = ds.length + ex + 1) (I : WIn K fb H Ω) (hd : DxAll K H fb vs ds) :
    Rep K ⟨H, fb, fun b => False ∨ Kys Ω b, fun _ => 0⟩ (ds.map Slot.dat ++ (List.replicate ex Slot.non ++ [.wld Ω])) (fun _ => 0) (L2.start N vs) H := by
  have R := rep_start0 (N := N) I.ex hd
  have hx : N.length - ds.length = ex + 1 := by omega
  rw [hx] at R
  obtain ⟨R, sb⟩ := R.plant (w := ds.length + ex) (Ω := Ω) (fun i s h e => slot_raw h e) (by rw [List.getElem?_append_right (by rw [List.length_map]; omega), List.length_map, List.getElem?_replicate, if_pos (by omega)]) ⟨I.nd, fun p hp => (I.at_ p hp).weak fb_start, fun a h => .inl (I.sub a h), R.fbE⟩ I.sub (fun j c es e => (slot_own e).elim)
  rwa [set_last (by rw [List.length_map]) rfl] at R
theorem rep_startBW {H : Hp} {fb : AS} {a : Addr} {ws vs : List V} {bs ds : List D} {Ω : Wd} (hN : N.length = ds.length + ex + 2) (I : WIn K fb H Ω) (ha : fb a) (hna : ¬ Kys Ω a) (hw : H a = some (.lst ws)) (hb : DxAll K H fb ws bs) (hd : DxAll K H fb vs ds) :
    Rep K ⟨H, fb, fun b => b = a ∨ Kys Ω b, fun _ => a⟩ (Slot.own true bs :: (ds.map Slot.dat ++ (List.replicate ex Slot.non ++ [.wld Ω]))) (fun _ => a) (L2.start N (.ref a :: vs)) H := by
  have R := rep_startB (N := N) I.ex ha hw hb hd (by omega)
  have hx : N.length - (ds.length + 1) = ex + 1 := by omega
  rw [hx] at R
  have sub : ∀ b, Fb fb (Slot.own true bs :: (ds.map Slot.dat ++ List.replicate (ex + 1) Slot.non)) (fun _ => a) b → fb b := fun b z => by
    rcases z with z | ⟨i, s, e, m⟩ | ⟨i, b, es, e, l⟩
    · exact z
    · exact (bh_get m.hv e).elim
    · rw [← l]; exact ha
  obtain ⟨R, sb⟩ := R.plant (w := ds.length + ex + 1) (Ω := Ω) (fun i s h e => bh_get h e) (by rw [List.getElem?_cons_succ, List.getElem?_append_right (by rw [List.length_map]; omega), List.length_map, List.getElem?_replicate, if_pos (by omega)]) ⟨I.nd, fun p hp => (I.at_ p hp).weak sub, fun a h => .inl (I.sub a h), R.fbE⟩ I.sub (fun j c es e => hna)
  rwa [List.set_cons_succ, set_last (by rw [List.length_map]) rfl] at R
theorem fnsw (F : Fun K x qual st f fd) (S : FnScope N ps (defScope st)) (hn : ps.length = n) (hN : N.length = n + ex + 1)
    (body : ∀ (cdv : Value) (A : Around) (outer : List Env) (s : Shared) (H : Hp) (E : XK), Rm k (A.deeper (PyProof.Rows.envOfC qual (defScope st) s.heap.objs.size f cdv)) → BM (cxOf CX0 P w K mg base N qual (defScope st) f cdv A outer s H E).nox (defBody st) m) :
    FnG P w K mg base CX0 (k + 1) f fd ps (sp0 K n (fnSW m n ex)) := by
  refine funG F S (fun vs H Q E h => ?_) (fun cdv A outer s H vs Q E hr h => ?_)
  · obtain ⟨fb, ds, _, hd, e, _⟩ := h
    exact (hd.len_sp e).trans hn.symm
  · obtain ⟨fb, ds, hf, hd, e, q⟩ := h
    have B := body cdv A outer s H E hr
    have R := rep_startW (N := N) (ex := ex) (by omega) (.nil hf) hd
    refine ⟨_, B.run, ⟨_, _, _, _, R, q, ?_, ?_, ?_, ?_⟩⟩
    · exact fun ρ' loc' σ' H' R' g q => q .non H' (fun c o e => R'.ext c o e fun z => z.elim id kys_nil) .non (fun z => nomatch z)
    · exact fun b d ρ' loc' σ' v H' R' g dx nw q => q v H' (fun c o e => R'.ext c o e fun z => z.elim id kys_nil) (dx.weak fun c z => .inl z) fun z => (nw z).weak fun c z => .inl z
    · exact fun ρ' loc' σ' H' R' g q => q
    · exact fun ρ' loc' σ' H' R' g q => q
theorem back_box {fb : AS} {H : Hp} {a : Addr} {bw : AS} {ρ' : List Slot} {loc' : Nat → Addr} {σ' : L2.St} {H' : Hp} {bs' : List D} (R' : Rep K ⟨H, fb, bw, fun _ => a⟩ ρ' loc' σ' H') (e0 : ρ'[0]? = some (Slot.own true bs')) {F' : AS} (s : ∀ b, F' b → Fb fb ρ' loc' b) : ∃ ws, H' a = some (.lst ws) ∧ DxAll K H' F' ws bs' := by
  obtain ⟨h1, ws, h2, h3⟩ := R'.own 0 true bs' e0
  obtain ⟨h4, _⟩ := R'.brw 0 bs' e0
  rw [h4] at h2
  exact ⟨ws, h2, h3.weak s⟩
theorem fnbsw (F : Fun K x qual st f fd) (S : FnScope N ps (defScope st)) (hn : ps.length = n + 1) (hN : N.length = n + ex + 2)
    (body : ∀ (cdv : Value) (A : Around) (outer : List Env) (s : Shared) (H : Hp) (E : XK), Rm k (A.deeper (PyProof.Rows.envOfC qual (defScope st) s.heap.objs.size f cdv)) → BM (cxOf CX0 P w K mg base N qual (defScope st) f cdv A outer s H E).nox (defBody st) m) :
    FnG P w K mg base CX0 (k + 1) f fd ps (spB K n (fnBSW m n ex)) := by
  refine funG F S (fun vs H Q E h => ?_) (fun cdv A outer s H vs Q E hr h => ?_)
  · obtain ⟨fb, a, vs', ds, bs, ws, rfl, _, _, _, _, hd, e, _⟩ := h
    rw [List.length_cons, hd.len_sp e, hn]
  · obtain ⟨fb, a, vs', ds, bs, ws, rfl, ha, hf, hw, hb, hd, e, q⟩ := h
    have B := body cdv A outer s H E hr
    have R := rep_startBW (N := N) (ex := ex) (by omega) (.nil hf) ha kys_nil hw hb hd
    refine ⟨_, B.run, ⟨_, _, _, _, R, q, ?_, ?_, ?_, ?_⟩⟩
    · exact fun ρ' loc' σ' H' R' g ⟨bs', e0, q⟩ => q .non H' (fun c o n e => R'.ext c o e fun z => z.elim n kys_nil) (back_box R' e0 fun c z => .inl z) .non (fun z => nomatch z)
    · exact fun b d ρ' loc' σ' v H' R' g dx nw ⟨bs', e0, q⟩ => q v H' (fun c o n e => R'.ext c o e fun z => z.elim n kys_nil) (back_box R' e0 fun c z => .inl z) (dx.weak fun c z => .inl z) fun z => (nw z).weak fun c z => .inl z
    · exact fun ρ' loc' σ' H' R' g q => q
    · exact fun ρ' loc' σ' H' R' g q => q
theorem fnbw (F : Fun K x qual st f fd) (S : FnScope N ps (defScope st)) (hn : ps.length = n + 1) (hN : N.length = n + ex + 2)
    (body : ∀ (cdv : Value) (A : Around) (outer : List Env) (s : Shared) (H : Hp) (E : XK), Rm k (A.deeper (PyProof.Rows.envOfC qual (defScope st) s.heap.objs.size f cdv)) → BM (cxOf CX0 P w K mg base N qual (defScope st) f cdv A outer s H E).nox (defBody st) m) :
    FnG P w K mg base CX0 (k + 1) f fd ps (spBW K n (fnBW m n ex)) := by
  refine funG F S (fun vs H Q E h => ?_) (fun cdv A outer s H vs Q E hr h => ?_)
  · obtain ⟨fb, a, vs', ds, bs, ws, Ω, rfl, _, _, _, _, _, hd, e, _⟩ := h
    rw [List.length_cons, hd.len_sp e, hn]
  · obtain ⟨fb, a, vs', ds, bs, ws, Ω, rfl, ha, hna, I, hw, hb, hd, e, q⟩ := h
    have B := body cdv A outer s H E hr
    have R := rep_startBW (N := N) (ex := ex) (by omega) I ha hna hw hb hd
    have out : ∀ {ρ' : List Slot} {loc' : Nat → Addr} {σ' : L2.St} {H' : Hp} {bs' : List D} {Ω' : Wd}, Rep K ⟨H, fb, fun b => b = a ∨ Kys Ω b, fun _ => a⟩ ρ' loc' σ' H' → ρ'[0]? = some (Slot.own true bs') → ρ'[n + ex + 1]? = some (.wld Ω') → (∀ c, c = a → ¬ Kys Ω' c) := fun R' e0 e1 c hc z => by
      subst hc
      have := R'.raw.own c ⟨_, _, e1, z⟩ 0 true _ e0
      exact this (R'.brw 0 _ e0).1
    refine ⟨_, B.run, ⟨_, _, _, _, R, q, ?_, ?_, ?_, ?_⟩⟩
    · rintro ρ' loc' σ' H' R' g ⟨bs', Ω', e0, e1, q⟩
      obtain ⟨x1, x2, x3, x4, x5, x6⟩ := exitW (G := ⟨H, fb, fun b => b = a ∨ Kys Ω b, fun _ => a⟩) (a := fun b => b = a) R' I e1
      exact q .non H' x1 (x2 fun c z => by rw [z]; exact ha) x3 (x4 (out R' e0 e1)) x5 (back_box R' e0 x6) .non (fun z => nomatch z)
    · rintro b d ρ' loc' σ' v H' R' g dx nw ⟨bs', Ω', e0, e1, q⟩
      obtain ⟨x1, x2, x3, x4, x5, x6⟩ := exitW (G := ⟨H, fb, fun b => b = a ∨ Kys Ω b, fun _ => a⟩) (a := fun b => b = a) R' I e1
      exact q v H' x1 (x2 fun c z => by rw [z]; exact ha) x3 (x4 (out R' e0 e1)) x5 (back_box R' e0 x6) (dx.weak x6) fun z => (nw z).weak x6
    · exact fun ρ' loc' σ' H' R' g q => q
    · exact fun ρ' loc' σ' H' R' g q => q
end
structure OkW (P : Program) (w : World) (K : PySem.W.Frag) (mg : Str → Option Value) (base : Heap) (k : Nat) (f : Addr) (fd : FuncData) (ps : List Str) (n : Nat) (F : FW) : Prop where
  ok : FnG P w K mg base CX0 k f fd ps (spW K n F)
  pm : PmW F
structure OkBW (P : Program) (w : World) (K : PySem.W.Frag) (mg : Str → Option Value) (base : Heap) (k : Nat) (f : Addr) (fd : FuncData) (ps : List Str) (n : Nat) (F : FBW) : Prop where
  ok : FnG P w K mg base CX0 k f fd ps (spBW K n F)
  pm : PmBW F
section
variable {P : Program} {w : World} {K : PySem.W.Frag} {mg : Str → Option Value} {base : Heap} {x qual : Str} {st : Stmt} {f : Addr} {fd : FuncData} {N ps : List Str} {k n ex : Nat} {m : SMon}
theorem okW_of (hk : k ≤ 300) (F : Fun K x qual st f fd) (S : FnScope N ps (defScope st)) (hn : ps.length = n) (hN : N.length = n + ex + 1)
    (body : ∀ (cdv : Value) (A : Around) (outer : List Env) (s : Shared) (H : Hp) (E : XK), Rm k (A.deeper (PyProof.Rows.envOfC qual (defScope st) s.heap.objs.size f cdv)) → BM (cxOf CX0 P w K mg base N qual (defScope st) f cdv A outer s H E).nox (defBody st) m) :
    OkW P w K mg base (k + 1) f fd ps n (fnW m n ex) :=
  ⟨fnw F S hn hN body, pm_fnW (body .none { guards := some [] } [] {} (fun _ => none) (fun _ _ _ => False) (room0 hk _)).mono _ _⟩
theorem okBW_of (hk : k ≤ 300) (F : Fun K x qual st f fd) (S : FnScope N ps (defScope st)) (hn : ps.length = n + 1) (hN : N.length = n + ex + 2)
    (body : ∀ (cdv : Value) (A : Around) (outer : List Env) (s : Shared) (H : Hp) (E : XK), Rm k (A.deeper (PyProof.Rows.envOfC qual (defScope st) s.heap.objs.size f cdv)) → BM (cxOf CX0 P w K mg base N qual (defScope st) f cdv A outer s H E).nox (defBody st) m) :
    OkBW P w K mg base (k + 1) f fd ps n (fnBW m n ex) :=
  ⟨fnbw F S hn hN body, pm_fnBW (body .none { guards := some [] } [] {} (fun _ => none) (fun _ _ _ => False) (room0 hk _)).mono _ _⟩
theorem okSW_of (hk : k ≤ 300) (F : Fun K x qual st f fd) (S : FnScope N ps (defScope st)) (hn : ps.length = n) (hN : N.length = n + ex + 1)
    (body : ∀ (cdv : Value) (A : Around) (outer : List Env) (s : Shared) (H : Hp) (E : XK), Rm k (A.deeper (PyProof.Rows.envOfC qual (defScope st) s.heap.objs.size f cdv)) → BM (cxOf CX0 P w K mg base N qual (defScope st) f cdv A outer s H E).nox (defBody st) m) :
    OkS P w K mg base (k + 1) f fd ps n (fnSW m n ex) :=
  ⟨fnsw F S hn hN body, pm_fnSW (body .none { guards := some [] } [] {} (fun _ => none) (fun _ _ _ => False) (room0 hk _)).mono _ _⟩
theorem okBSW_of (hk : k ≤ 300) (F : Fun K x qual st f fd) (S : FnScope N ps (defScope st)) (hn : ps.length = n + 1) (hN : N.length = n + ex + 2)
    (body : ∀ (cdv : Value) (A : Around) (outer : List Env) (s : Shared) (H : Hp) (E : XK), Rm k (A.deeper (PyProof.Rows.envOfC qual (defScope st) s.heap.objs.size f cdv)) → BM (cxOf CX0 P w K mg base N qual (defScope st) f cdv A outer s H E).nox (defBody st) m) :
    OkB P w K mg base (k + 1) f fd ps n (fnBSW m n ex) :=
  ⟨fnbsw F S hn hN body, pm_fnBSW (body .none { guards := some [] } [] {} (fun _ => none) (fun _ _ _ => False) (room0 hk _)).mono _ _⟩
theorem okW_never : OkW P w K mg base k f fd ps n (fun _ _ _ => False) := by
  have no : ∀ vs H Q E, ¬ spW K n (fun _ _ _ => False) vs H Q E := fun vs H Q E ⟨_, _, _, _, _, _, h⟩ => h
  exact ⟨⟨fun vs H Q E h => (no vs H Q E h).elim, fun A outer s H args us vs Q E _ _ _ _ h => (no vs H Q E h).elim⟩, fun _ _ _ _ _ h => h⟩
theorem okBW_never : OkBW P w K mg base k f fd ps n (fun _ _ _ _ => False) := by
  have no : ∀ vs H Q E, ¬ spBW K n (fun _ _ _ _ => False) vs H Q E := fun vs H Q E ⟨_, _, _, _, _, _, _, _, _, _, _, _, _, _, _, h⟩ => h
  exact ⟨⟨fun vs H Q E h => (no vs H Q E h).elim, fun A outer s H args us vs Q E _ _ _ _ h => (no vs H Q E h).elim⟩, fun _ _ _ _ _ _ h => h⟩
end

/-! ### calls of them -/
def mFnW (n : Nat) (F : FW) (w : Nat) (m : M (List D)) : M D := fun ρ k => m ρ fun ds ρ1 => ds.length = n ∧ ∃ Ω, ρ1[w]? = some (Slot.wld Ω) ∧ F ds Ω fun _ d Ω' => k d (ρ1.set w (.wld Ω'))
def mFnBW (n : Nat) (F : FBW) (i w : Nat) (m : M (List D)) : M D := fun ρ k => (∃ b bs, ρ[i]? = some (Slot.own b bs)) ∧ m ρ fun ds ρ1 => ∃ b bs Ω, ρ1[i]? = some (Slot.own b bs) ∧ ρ1[w]? = some (Slot.wld Ω) ∧ ds.length = n ∧ F bs ds Ω fun _ d bs' Ω' => k d ((ρ1.set i (.own b bs')).set w (.wld Ω'))
section
variable {X : Cx} {k n w : Nat} {f : Addr} {fd : FuncData} {ps : List Str} {x : Str} {p pos : Pos} {e : Expr} {es : List Expr} {m : M (List D)} {F : FW} {FF : FBW}
theorem em_fnW (O : OkW X.prog X.w X.K X.mg X.base k f fd ps n F) (hr : Rm k X.A) (hg : Gl X x) (hm : X.mg x = some (.ref f)) (hk : PySem.W.keepIn X.K (.ref f) = true) (hb : Binds X.K fd ps [])
    (ha : AM X (e :: es) m) (hdb : (x == ("__debug__" : Str)) = false := by decide) (he : starEach (e :: es) X.env = (false, eval e X.env) :: starEach es X.env := by rfl) (hpl : (backTo pos (starEach es X.env)).any (·.1) = false := by rfl) :
    EM X (.Call (.Name x p) (e :: es) [] pos) (mFnW n F w m) := by
  refine ⟨fun ρ k k' wk q => ha.mono ρ _ _ (fun ds ρ1 ⟨l, Ω, e, q1⟩ => ⟨l, Ω, e, O.pm ds Ω _ _ (fun b d Ω' q2 => wk _ _ q2) q1⟩) q, pe_weak (pe_callG O.ok hr hg hm hk hb .nil pass0 ha.run hdb he hpl) ?_⟩
  rintro σ H Q ⟨G', loc, ρ, R, q⟩
  refine ⟨G', loc, ρ, R, ha.mono ρ _ _ (fun ds ρ1 q1 vs H1 R1 g1 d1 => ?_) q⟩
  obtain ⟨l1, Ω, e1, q1⟩ := q1
  refine ⟨Fb G'.fb ρ1 loc, ds, Ω, R1.wIn e1, by rw [List.append_nil]; exact d1, l1, O.pm ds Ω _ _ (fun b d Ω' q2 v H2 S d2 _ => ?_) q1⟩
  obtain ⟨R2, g2, s2⟩ := R1.world e1 S
  exact q2 v H2 R2 (g1.trans g2) (d2.weak s2)
theorem em_fnW0 (O : OkW X.prog X.w X.K X.mg X.base k f fd [] 0 F) (hr : Rm k X.A) (hg : Gl X x) (hm : X.mg x = some (.ref f)) (hk : PySem.W.keepIn X.K (.ref f) = true) (hb : Binds X.K fd [] [])
    (hc : PE X (.Call (.Name x p) [] [] pos) fun σ H Q => spW X.K 0 F [] H Q (fun _ _ _ => False)) : EM X (.Call (.Name x p) [] [] pos) (mFnW 0 F w (mPure [])) := by
  refine ⟨fun ρ k k' wk ⟨l, Ω, e, q1⟩ => ⟨l, Ω, e, O.pm _ Ω _ _ (fun b d Ω' q2 => wk _ _ q2) q1⟩, pe_weak hc ?_⟩
  rintro σ H Q ⟨G', loc, ρ, R, l, Ω, e1, q1⟩
  refine ⟨Fb G'.fb ρ loc, [], Ω, R.wIn e1, .nil, rfl, O.pm _ Ω _ _ (fun b d Ω' q2 v H2 S d2 _ => ?_) q1⟩
  obtain ⟨R2, g2, s2⟩ := R.world e1 S
  exact q2 v H2 R2 g2 (d2.weak s2)
/-- f(box, e, ..) -/
theorem em_fnBW {i : Nat} {y : Str} {py : Pos} (hiw : i ≠ w) (hv : PE X (.Name y py) (tVar i)) (O : OkBW X.prog X.w X.K X.mg X.base k f fd ps n FF) (hr : Rm k X.A) (hg : Gl X x) (hm : X.mg x = some (.ref f)) (hk : PySem.W.keepIn X.K (.ref f) = true) (hb : Binds X.K fd ps [])
    (ha : AM X es m) (hdb : (x == ("__debug__" : Str)) = false := by decide) (he : starEach (.Name y py :: es) X.env = (false, eval (.Name y py) X.env) :: starEach es X.env := by rfl) (hpl : (backTo pos (starEach es X.env)).any (·.1) = false := by rfl) :
    EM X (.Call (.Name x p) (.Name y py :: es) [] pos) (mFnBW n FF i w m) := by
  refine ⟨fun ρ k k' wk q => ⟨q.1, ha.mono ρ _ _ (fun ds ρ1 ⟨b, bs, Ω, e, e2, l, q1⟩ => ⟨b, bs, Ω, e, e2, l, O.pm bs ds Ω _ _ (fun c d bs' Ω' q2 => wk _ _ q2) q1⟩) q.2⟩, pe_weak (pe_callG O.ok hr hg hm hk hb .nil pass0 (pa_cons hv ha.run he) hdb he hpl) ?_⟩
  rintro σ H Q ⟨G', loc, ρ, R, q0, q⟩
  refine ⟨.ref (loc i), own_pv R q0, G', loc, ρ, R, ha.mono ρ _ _ (fun ds ρ1 q1 vs H1 R1 g1 d1 => ?_) q⟩
  obtain ⟨b, bs, Ω, e1, e2, l1, q1⟩ := q1
  obtain ⟨h1, ws, h2, h3⟩ := R1.own i b bs e1
  have nk : ¬ Kys Ω (loc i) := fun z => R1.raw.own _ ⟨w, _, e2, z⟩ i b bs e1 rfl
  refine ⟨Fb G'.fb ρ1 loc, loc i, vs, ds, bs, ws, Ω, by rw [List.append_nil], .inr (.inr ⟨i, b, bs, e1, rfl⟩), nk, R1.wIn e2, h2, h3, d1, l1, O.pm bs ds Ω _ _ (fun c d bs' Ω' q2 v H2 kp st nd nw ats hw d2 _ => ?_) q1⟩
  obtain ⟨ws', w1, w2⟩ := hw
  -- the box first, on a heap in which the world is as it was; then the world
  let Hm : Hp := fun c => if c = loc i then some (.lst ws') else H1 c
  have hm1 : Hm (loc i) = some (.lst ws') := if_pos rfl
  have hm2 : ∀ c o, c ≠ loc i → H1 c = some o → Hm c = some o := fun c o n e => by show (if c = loc i then _ else _) = _; rw [if_neg n]; exact e
  have nk' : ¬ Kys Ω' (loc i) := fun z => by
    rcases nw _ z with z | z
    · exact nk z
    · rw [h2] at z; cases z
  obtain ⟨Rm, gm, sm⟩ := R1.back (bs' := []) e1 (ws := []) (H' := fun c => if c = loc i then some (.lst []) else H1 c) (fun c o n e => by show (if c = loc i then _ else _) = _; rw [if_neg n]; exact e) (if_pos rfl) .nil
  have e3 : (ρ1.set i (.own b []))[w]? = some (.wld Ω) := by rw [List.getElem?_set_ne hiw]; exact e2
  have S : WStep X.K (Fb G'.fb (ρ1.set i (.own b [])) loc) (fun c => if c = loc i then some (.lst []) else H1 c) (fun c => if c = loc i then some (.lst []) else H2 c) Ω Ω' := by
    have fbE : ∀ x, Fb G'.fb ρ1 loc x → Fb G'.fb (ρ1.set i (.own b [])) loc x := fun x z => by
      have il : i < ρ1.length := (List.getElem?_eq_some_iff.mp e1).1
      rcases z with z | ⟨j, s, q, m⟩ | ⟨j, c, es, q, l⟩
      · exact .inl z
      · by_cases hj : i = j
        · subst hj; rw [e1] at q; cases q; exact m.elim
        · exact .inr (.inl ⟨j, s, by rw [List.getElem?_set_ne hj]; exact q, m⟩)
      · by_cases hj : i = j
        · subst hj; exact .inr (.inr ⟨i, b, [], by rw [List.getElem?_set_self il], l⟩)
        · exact .inr (.inr ⟨j, c, es, by rw [List.getElem?_set_ne hj]; exact q, l⟩)
    refine ⟨fun c o nc e => ?_, fun c o e => ?_, nd, fun a z => ?_, fun p hp => ?_⟩
    · by_cases hc : c = loc i
      · simp only [hc, if_true] at e ⊢; exact e
      · simp only [hc, if_false] at e ⊢; exact kp c o hc nc e
    · by_cases hc : c = loc i
      · exact ⟨.lst [], by simp only [hc, if_true]⟩
      · simp only [hc, if_false] at e
        obtain ⟨o', z⟩ := st c o e
        exact ⟨o', by simp only [hc, if_false]; exact z⟩
    · have hc : a ≠ loc i := fun y => nk' (y ▸ z)
      rcases nw a z with z | z
      · exact .inl z
      · exact .inr (by simp only [hc, if_false]; exact z)
    · have hc : p.1 ≠ loc i := fun y => nk' (y ▸ ⟨p.2, hp⟩)
      refine (ats p hp).g (fun o e => by simp only [hc, if_false]; exact e) fun c o e n => ⟨?_, fun z => n (z.imp (fun y => sm c y) id)⟩
      have : c ≠ loc i := fun y => n (.inl (.inr (.inr ⟨i, b, bs, e1, y.symm⟩)))
      simp only [this, if_false]; exact e
  obtain ⟨R2, g2, s2⟩ := Rm.world e3 S
  have e4 : ((ρ1.set i (.own b [])).set w (.wld Ω'))[i]? = some (.own b []) := by
    rw [List.getElem?_set_ne (Ne.symm hiw), List.getElem?_set_self (List.getElem?_eq_some_iff.mp e1).1]
  have sub3 : ∀ z, Fb G'.fb ((ρ1.set i (.own b [])).set w (.wld Ω')) loc z → Fb G'.fb ρ1 loc z ∨ Kys Ω' z := fun z y => (s2 z y).imp (sm z) id
  obtain ⟨R3, g3, s3⟩ := R2.back (bs' := bs') e4 (H' := H2) (ws := ws') (fun c o n e => by simp only [n, if_false] at e; exact e) w1 (w2.weak sub3)
  have comm : ((ρ1.set i (.own b [])).set w (.wld Ω')).set i (.own b bs') = (ρ1.set i (.own b bs')).set w (.wld Ω') := by
    rw [List.set_comm _ _ (Ne.symm hiw), List.set_set]
  rw [comm] at R3 g3 s3
  exact q2 v H2 R3 (g1.trans (gm.trans (g2.trans g3))) (d2.weak fun z y => sub3 z (s3 z y))
end
end DL

/-! Things of the world: told, asked, changed. -/
namespace DL
open PySem L2

def wget (Ω : Wd) (a : Addr) : Option Cell := (Ω.find? fun p => decide (p.1 = a)).map (·.2)
def wset (Ω : Wd) (a : Addr) (c : Cell) : Wd := Ω.map fun p => if p.1 = a then (a, c) else p
def aD (a : Addr) : D := .dict (adrD a)
theorem aD_inj {a b : Addr} (h : aD a = aD b) : a = b := by
  unfold aD adrD at h
  simp only [PyData.dict.injEq, List.cons.injEq, Prod.mk.injEq, PyData.int.injEq, Int.natCast_inj, and_true, true_and] at h
  exact h
theorem wget_mem {Ω : Wd} {a : Addr} {c : Cell} (h : wget Ω a = some c) : (a, c) ∈ Ω := by
  unfold wget at h
  cases e : Ω.find? (fun p => decide (p.1 = a)) with
  | none => rw [e] at h; cases h
  | some p =>
    rw [e] at h
    cases h
    have h1 := List.mem_of_find?_eq_some e
    have h2 : p.1 = a := of_decide_eq_true (List.find?_some (p := fun p : Addr × Cell => decide (p.1 = a)) e)
    rw [← h2]; exact h1
theorem kys_wset {Ω : Wd} {a b : Addr} {c : Cell} : Kys (wset Ω a c) b ↔ Kys Ω b := by
  unfold Kys wset
  constructor
  · rintro ⟨x, h⟩
    obtain ⟨p, hp, e⟩ := List.mem_map.mp h
    by_cases z : p.1 = a
    · rw [if_pos z] at e; cases e; exact ⟨p.2, by rw [← z]; exact hp⟩
    · rw [if_neg z] at e; exact ⟨x, e ▸ hp⟩
  · rintro ⟨x, h⟩
    by_cases z : b = a
    · exact ⟨c, List.mem_map.mpr ⟨_, h, by rw [if_pos z, z]⟩⟩
    · exact ⟨x, List.mem_map.mpr ⟨_, h, by rw [if_neg z]⟩⟩
theorem wset_keys (Ω : Wd) (a : Addr) (c : Cell) : (wset Ω a c).map (·.1) = Ω.map (·.1) := by
  unfold wset
  rw [List.map_map]
  refine List.map_congr_left fun p _ => ?_
  show (if p.1 = a then (a, c) else p).1 = p.1
  split
  · rename_i h; exact h.symm
  · rfl
section
variable {K : PySem.W.Frag} {F : AS} {H H' : Hp} {Ω Ω' : Wd} {a p : Addr} {c c0 : Cell} {o : HO}
theorem WIn.get (I : WIn K F H Ω) (h : wget Ω a = some c) : CellAt K H F a c ∧ F a := ⟨I.at_ _ (wget_mem h), I.sub a ⟨c, wget_mem h⟩⟩
/-- outside of the world all is as it was -/
theorem WIn.grow (I : WIn K F H Ω) {F' : AS} (hF : ∀ b, F' b → F b ∨ H b = none) (k : ∀ c o, ¬ Kys Ω c → H c = some o → H' c = some o) : Grow F F' H H' := fun b o e n => ⟨k b o (fun z => n (I.sub b z)) e, fun z => by
  rcases hF b z with z | z
  · exact n z
  · rw [z] at e; cases e⟩
/-- one thing is written -/
theorem WStep.one (I : WIn K F H Ω) (h : wget Ω a = some c0) (hc : CellAt K (upd H a o) (fun x => F x ∨ Kys (wset Ω a c) x) a c) : WStep K F H (upd H a o) Ω (wset Ω a c) := by
  have ka : Kys Ω a := ⟨c0, wget_mem h⟩
  have sub : ∀ b, F b ∨ Kys (wset Ω a c) b → F b := fun b z => z.elim id fun z => I.sub b (kys_wset.mp z)
  have g : Grow F (fun x => F x ∨ Kys (wset Ω a c) x) H (upd H a o) := fun b u e n => ⟨by rw [upd_ne fun z => n (by rw [z]; exact I.sub a ka)]; exact e, fun z => n (sub b z)⟩
  refine ⟨fun b u nk e => ?_, fun b u e => ?_, by rw [wset_keys]; exact I.nd, fun b z => .inl (kys_wset.mp z), fun q hq => ?_⟩
  · rw [upd_ne fun z => nk (by rw [z]; exact ka)]; exact e
  · by_cases z : b = a
    · subst z; exact ⟨_, upd_same⟩
    · exact ⟨u, by rw [upd_ne z]; exact e⟩
  · obtain ⟨r, hr, e⟩ := List.mem_map.mp (show q ∈ Ω.map fun p => if p.1 = a then (a, c) else p from hq)
    by_cases z : r.1 = a
    · rw [if_pos z] at e; subst e; exact hc
    · rw [if_neg z] at e; subst e
      exact (I.at_ r hr).g (fun o e => by rw [upd_ne z]; exact e) g
/-- .. is new -/
theorem WStep.new (I : WIn K F H Ω) (hp : H p = none) (hc : CellAt K (upd H p o) (fun x => F x ∨ Kys ((p, c) :: Ω) x) p c) : WStep K F H (upd H p o) Ω ((p, c) :: Ω) := by
  have up := upd_more (o := o) hp
  have kc : ∀ b, Kys ((p, c) :: Ω) b → b = p ∨ Kys Ω b := fun b ⟨x, z⟩ => by
    rcases List.mem_cons.mp z with z | z
    · cases z; exact .inl rfl
    · exact .inr ⟨x, z⟩
  have np : ∀ b u, H b = some u → b ≠ p := fun b u e z => by rw [z, hp] at e; cases e
  refine ⟨fun b u _ e => up b u e, fun b u e => ⟨u, up b u e⟩, ?_, fun b z => ?_, fun q hq => ?_⟩
  · rw [List.map_cons]
    refine List.nodup_cons.mpr ⟨fun z => ?_, I.nd⟩
    obtain ⟨q, hq, e⟩ := List.mem_map.mp z
    obtain ⟨u, e2⟩ := (I.at_ q hq).here
    exact np _ u e2 e
  · rcases kc b z with z | z
    · exact .inr (z ▸ hp)
    · exact .inl z
  · rcases List.mem_cons.mp hq with e | hq
    · subst e; exact hc
    · refine (I.at_ q hq).g (fun o e => up _ _ e) fun b u e n => ⟨up b u e, fun z => ?_⟩
      rcases z with z | z
      · exact n z
      · rcases kc b z with z | z
        · exact np b u e z
        · exact n (I.sub b z)
/-- nothing is written -/
theorem WStep.id (I : WIn K F H Ω) (m : ∀ c o, H c = some o → H' c = some o) : WStep K F H H' Ω Ω :=
  ⟨fun c o _ e => m c o e, fun c o e => ⟨o, m c o e⟩, I.nd, fun _ h => .inl h, fun p hp => (I.at_ p hp).g (fun o e => m _ o e) fun b o e n => ⟨m b o e, fun z => n (z.elim _root_.id (I.sub b))⟩⟩
theorem Dx.adr_at {v : V} (h : Dx K H F v (aD a)) : v = .ref a := Dx.adrA h
theorem dx_aD : Dx K H F (.ref a) (aD a) := .adr a rfl
end

/-! ### reading: a thing as data -/
def deref (Ω : Wd) : Nat → D → Option D
  | 0, d => if d.canLay0 = true then some d else none
  | n + 1, d => if d.canLay0 = true then some d else match d with
    | .dict [(.bool true, .int a)] => match wget Ω a.toNat with
      | some (.lst ds) => (ds.mapM (deref Ω n)).map .list
      | _ => none
    | .list ds => (ds.mapM (deref Ω n)).map .list
    | _ => none
def derefs (Ω : Wd) (n : Nat) (ds : List D) : Option (List D) := ds.mapM (deref Ω n)
theorem deref_data {Ω : Wd} {n : Nat} {d : D} (h : d.canLay0 = true) : deref Ω n d = some d := by
  cases n with
  | zero => unfold deref; rw [if_pos h]
  | succ n => unfold deref; rw [if_pos h]
theorem derefs_nil {Ω : Wd} {n : Nat} : derefs Ω n [] = some [] := rfl
theorem derefs_cons {Ω : Wd} {n : Nat} {d e : D} {ds es : List D} (h : deref Ω n d = some e) (k : derefs Ω n ds = some es) : derefs Ω n (d :: ds) = some (e :: es) := by
  unfold derefs at k ⊢
  rw [List.mapM_cons, h, k]; rfl
theorem derefs_data {Ω : Wd} {n : Nat} : ∀ {ds : List D}, (∀ d ∈ ds, d.canLay0 = true) → derefs Ω n ds = some ds
  | [], _ => rfl
  | d :: ds, h => derefs_cons (deref_data (h d (by simp))) (derefs_data fun x hx => h x (by simp [hx]))
theorem deref_cell {Ω : Wd} {n : Nat} {a : Addr} {ds es : List D} (h : wget Ω a = some (.lst ds)) (k : derefs Ω n ds = some es) : deref Ω (n + 1) (aD a) = some (.list es) := by
  unfold deref aD adrD
  rw [if_neg (by show ¬ (false = true); decide)]
  dsimp only
  rw [show ((a : Nat) : Int).toNat = a from rfl, h]
  unfold derefs at k
  dsimp only
  rw [k]; rfl
theorem deref_list {Ω : Wd} {n : Nat} {ds es : List D} (k : derefs Ω n ds = some es) (hn : (PyData.list ds).canLay0 = false) : deref Ω (n + 1) (.list ds) = some (.list es) := by
  unfold deref
  rw [if_neg (by rw [hn]; decide)]
  dsimp only
  unfold derefs at k
  rw [k]; rfl
section
variable {K : PySem.W.Frag} {F : AS} {H : Hp} {Ω : Wd}
theorem derefs_dx_of {n : Nat} (ih : ∀ (d e : D) (v : V), deref Ω n d = some e → Dx K H F v d → Dx K H (fun _ => False) v e) : ∀ (ds es : List D) (vs : List V), derefs Ω n ds = some es → DxAll K H F vs ds → DxAll K H (fun _ => False) vs es
  | [], _, _, h, x => by
    cases x
    cases (show some [] = some _ from h)
    exact .nil
  | d :: ds, es, vs, h, x => by
    unfold derefs at h
    rw [List.mapM_cons] at h
    cases q : deref Ω n d with
    | none => rw [q] at h; cases h
    | some e =>
      cases q2 : ds.mapM (deref Ω n) with
      | none => rw [q, q2] at h; cases h
      | some es =>
        rw [q, q2] at h; cases h
        cases x with
        | cons a b => exact .cons (ih d e _ q a) (derefs_dx_of ih ds es _ q2 b)
theorem deref_dx (I : WIn K F H Ω) : ∀ (n : Nat) (d e : D) (v : V), deref Ω n d = some e → Dx K H F v d → Dx K H (fun _ => False) v e
  | 0, d, e, v, h, x => by
    unfold deref at h
    split at h
    · cases h; exact x.weak fun _ z => z.elim
    · cases h
  | n + 1, d, e, v, h, x => by
    unfold deref at h
    split at h
    · cases h; exact x.weak fun _ z => z.elim
    · split at h
      · rename_i a _
        split at h
        · rename_i ds hw
          cases q : ds.mapM (deref Ω n) with
          | none => rw [q] at h; cases h
          | some es =>
            rw [q] at h; cases h
            have hv : v = .ref a.toNat := by
              cases x with
              | dsi l q' => cases l with | nil => cases q' | cons p l => unfold dsiD at q'; simp at q'
              | dst l q' => unfold dstD at q'; simp at q'
              | scr ns q' => unfold scrD at q'; simp at q'
              | fnr y q' => unfold fnD at q'; simp at q'
              | adr b q' =>
                unfold adrD at q'
                simp only [List.cons.injEq, Prod.mk.injEq, PyData.int.injEq, and_true, true_and] at q'
                rw [q']; rfl
              | exc q' => unfold excD at q'; simp at q'
            subst hv
            obtain ⟨c, _⟩ := I.get hw
            cases c with
            | lst e ha => exact .lst (fun z => z) e (derefs_dx_of (deref_dx I n) ds es _ q ha)
        · cases h
      · rename_i ds _
        cases q : ds.mapM (deref Ω n) with
        | none => rw [q] at h; cases h
        | some es =>
          rw [q] at h; cases h
          obtain ⟨a, xs, rfl, e, _, da⟩ := x.sql
          exact .lst (fun z => z) e (derefs_dx_of (deref_dx I n) ds es _ q da)
      · cases h
theorem derefs_dx (I : WIn K F H Ω) (n : Nat) (ds es : List D) (vs : List V) (h : derefs Ω n ds = some es) (x : DxAll K H F vs ds) : DxAll K H (fun _ => False) vs es := derefs_dx_of (deref_dx I n) ds es vs h x
end
/-! ### == where one of both is not deep -/
def EqOk (a b : D) : Prop := a.canLay0 = true ∧ b.canLay0 = true ∧ min a.depth b.depth ≤ 64
def eqM : P2 := fun a b k => EqOk a b ∧ k (.bool (PyData.eqv a b))
def neM : P2 := fun a b k => EqOk a b ∧ k (.bool (!PyData.eqv a b))
theorem pm_eqM (a b : D) : Pm1 (eqM a b) := fun k k' w q => ⟨q.1, w _ q.2⟩
theorem pm_neM (a b : D) : Pm1 (neM a b) := fun k k' w q => ⟨q.1, w _ q.2⟩
def rEqM (K : PySem.W.Frag) : R2 := fun x y H Q => ∃ d e, Dp K H x d ∧ Dp K H y e ∧ EqOk d e ∧ Q (.bl (PyData.eqv d e)) H
def rNeM (K : PySem.W.Frag) : R2 := fun x y H Q => ∃ d e, Dp K H x d ∧ Dp K H y e ∧ EqOk d e ∧ Q (.bl (!PyData.eqv d e)) H
theorem op_eqM {X : Cx} (hu : X.A.units + 64 < cLine) : OpR X (compareOp .Eq) (rEqM X.K) := by
  intro pins s σ H x y v u Q I rx ry h
  obtain ⟨d, e, hd, he, ⟨c1, c2, c3⟩, q⟩ := h
  obtain ⟨as, r1⟩ := Dp.reads I d x v hd rx
  obtain ⟨bs, r2⟩ := Dp.reads I e y u he ry
  exact SeqAt.compareEq_reads r1 r2 c1 c2 (by omega) ⟨.bl _, H, I, rfl, q⟩
theorem op_neM {X : Cx} (hu : X.A.units + 64 < cLine) : OpR X (compareOp .NotEq) (rNeM X.K) := by
  intro pins s σ H x y v u Q I rx ry h
  obtain ⟨d, e, hd, he, ⟨c1, c2, c3⟩, q⟩ := h
  obtain ⟨as, r1⟩ := Dp.reads I d x v hd rx
  obtain ⟨bs, r2⟩ := Dp.reads I e y u he ry
  exact SeqAt.compareNe_reads r1 r2 c1 c2 (by omega) ⟨.bl _, H, I, rfl, q⟩
theorem prim_eqM {K : PySem.W.Frag} : Prim2 K (rEqM K) eqM := fun F H x y a b Q hF hx hy h => ⟨a, b, Dx.dp a x h.1.1 hx, Dx.dp b y h.1.2.1 hy, h.1, h.2.now (.bl _)⟩
theorem prim_neM {K : PySem.W.Frag} : Prim2 K (rNeM K) neM := fun F H x y a b Q hF hx hy h => ⟨a, b, Dx.dp a x h.1.1 hx, Dx.dp b y h.1.2.1 hy, h.1, h.2.now (.bl _)⟩
def plainD : D → Bool
  | .none => true
  | .bool _ => true
  | .int _ => true
  | .str _ => true
  | _ => false
theorem Dx.plain {K : PySem.W.Frag} {H H' : Hp} {F F' : AS} {v : V} {d : D} (h : Dx K H F v d) (f : plainD d = true) : Dx K H' F' v d := by
  cases d with
  | none => cases h; exact .non
  | bool b => cases h; exact .bl b
  | int i => cases h; exact .int i
  | str x => cases h; exact .str x
  | list _ => cases f
  | tuple _ => cases f
  | dict _ => cases f
/-- an operation on things as data whose answer is a number, a text, a truth, None -/
def mBinD (p : P2) (n w : Nat) (ma mb : M D) : M D := fun ρ k => ma ρ fun a ρ1 => mb ρ1 fun b ρ2 => ∃ Ω a' b', ρ2[w]? = some (Slot.wld Ω) ∧ deref Ω n a = some a' ∧ deref Ω n b = some b' ∧ p a' b' fun d => plainD d = true ∧ k d ρ2
def mCallD (p : PC1) (n w : Nat) (m : M (List D)) : M D := fun ρ k => m ρ fun ds ρ1 => ∃ Ω es, ρ1[w]? = some (Slot.wld Ω) ∧ derefs Ω n ds = some es ∧ p es fun d => plainD d = true ∧ k d ρ1
theorem mono_binD {p : P2} (mp : ∀ a b, Pm1 (p a b)) {n w : Nat} {ma mb : M D} (ha : Mono ma) (hb : Mono mb) : Mono (mBinD p n w ma mb) := fun ρ k k' wk q => ha ρ _ _ (fun a ρ1 q1 => hb ρ1 _ _ (fun b ρ2 ⟨Ω, a', b', e, e1, e2, q2⟩ => ⟨Ω, a', b', e, e1, e2, mp _ _ _ _ (fun d ⟨f, q3⟩ => ⟨f, wk _ _ q3⟩) q2⟩) q1) q
theorem two_valsD {K : PySem.W.Frag} {ma mb : M D} {r : R2} {p : P2} {n w : Nat} (hp : Prim2 K r p) (mp : ∀ a b, Pm1 (p a b)) (mba : Mono ma) (mbb : Mono mb) {σ : L2.St} {H : Hp} {Q : VK} (h : TEof K (mBinD p n w ma mb) σ H Q) :
    tOp r (TEof K ma) (TEof K mb) σ H Q := by
  obtain ⟨G, loc, ρ, R, q⟩ := h
  refine ⟨G, loc, ρ, R, mba ρ _ _ (fun a ρ1 q1 v H1 R1 g1 d1 => ?_) q⟩
  refine ⟨G, loc, ρ1, R1, mbb ρ1 _ _ (fun b ρ2 q2 u H2 R2 g2 d2 => ?_) q1⟩
  obtain ⟨Ω, a', b', e, e1, e2, q2⟩ := q2
  have I := R2.wIn e
  refine hp (fun _ => False) H2 v u a' b' Q (fun _ z => z.elim) (deref_dx I n a a' v e1 (d1.g g2)) (deref_dx I n b b' u e2 d2) (mp a' b' _ _ (fun d q3 x H3 m3 d3 => ?_) q2)
  exact q3.2 x H3 (R2.more m3) ((g1.trans g2).trans (more_grow m3)) (d3.plain q3.1)
section
variable {X : Cx} {a b e f : Expr} {es : List Expr} {ma mb m mf : M D} {ms : M (List D)} {pos apos cpos : Pos} {n w : Nat}
theorem em_cmpD {op : CmpOp} {r : R2} {p : P2} (ho : OpR X (compareOp op) r) (hp : Prim2 X.K r p) (mp : ∀ a b, Pm1 (p a b)) (hm : behindInMarks op b = false) (ha : EM X a ma) (hb : EM X b mb) : EM X (.Compare a [op] [b] pos) (mBinD p n w ma mb) :=
  ⟨mono_binD mp ha.mono hb.mono, pe_weak (pe_cmpR ho ha.run hb.run hm) fun _ _ _ h => two_valsD hp mp ha.mono hb.mono h⟩
theorem tm_cmpD {op : CmpOp} {r : R2} {p : P2} (ho : OpR X (compareOp op) r) (hp : Prim2 X.K r p) (mp : ∀ a b, Pm1 (p a b)) (hm : behindInMarks op b = false) (ha : EM X a ma) (hb : EM X b mb) : TM X (.Compare a [op] [b] pos) (mTest (mBinD p n w ma mb)) :=
  ⟨mono_test (mono_binD mp ha.mono hb.mono), pt_weak (pt_cmpR ho ha.run hb.run hm) fun σ H Q h => two_valsD hp mp ha.mono hb.mono (tt_te (mono_binD mp ha.mono hb.mono) h)⟩
theorem em_eqW (hu : X.A.units + 64 < cLine) (ha : EM X a ma) (hb : EM X b mb) : EM X (.Compare a [.Eq] [b] pos) (mBinD eqM n w ma mb) := em_cmpD (op_eqM hu) prim_eqM pm_eqM (nomark b) ha hb
theorem em_neW (hu : X.A.units + 64 < cLine) (ha : EM X a ma) (hb : EM X b mb) : EM X (.Compare a [.NotEq] [b] pos) (mBinD neM n w ma mb) := em_cmpD (op_neM hu) prim_neM pm_neM (nomark b) ha hb
theorem tm_eqW (hu : X.A.units + 64 < cLine) (ha : EM X a ma) (hb : EM X b mb) : TM X (.Compare a [.Eq] [b] pos) (mTest (mBinD eqM n w ma mb)) := tm_cmpD (op_eqM hu) prim_eqM pm_eqM (nomark b) ha hb
theorem tm_neW (hu : X.A.units + 64 < cLine) (ha : EM X a ma) (hb : EM X b mb) : TM X (.Compare a [.NotEq] [b] pos) (mTest (mBinD neM n w ma mb)) := tm_cmpD (op_neM hu) prim_neM pm_neM (nomark b) ha hb
/-- a new list as a thing of the world -/
def mNewC (w : Nat) (m : M (List D)) : M D := fun ρ k => m ρ fun ds ρ1 => ∃ Ω, ρ1[w]? = some (Slot.wld Ω) ∧ ∀ p, ¬ Kys Ω p → k (aD p) (ρ1.set w (.wld ((p, .lst ds) :: Ω)))
theorem em_newC (h : NM X e ms) : EM X e (mNewC w ms) := by
  refine ⟨fun ρ k k' wk q => h.mono ρ _ _ (fun ds ρ1 ⟨Ω, e, q1⟩ => ⟨Ω, e, fun p np => wk _ _ (q1 p np)⟩) q, pe_weak h.run ?_⟩
  rintro σ H Q ⟨G, loc, ρ, R, q⟩
  refine ⟨G, loc, ρ, R, h.mono ρ _ _ (fun ds ρ1 ⟨Ω, e, q1⟩ p vs H1 h0 np e1 R1 g1 d1 => ?_) q⟩
  -- the list at p goes into the world
  have wl : w < ρ1.length := (List.getElem?_eq_some_iff.mp e).1
  have nk : ¬ Kys Ω p := fun ⟨c, z⟩ => by
    rcases ((R1.raw.wat w Ω e).2 _ z).2 with y | y
    · exact y.2 (.inr rfl)
    · exact np (R.bwS p y)
  have gt : ∀ j s, (ρ1.set w (.wld ((p, .lst ds) :: Ω)))[j]? = some s → (j = w ∧ s = .wld ((p, .lst ds) :: Ω)) ∨ (j ≠ w ∧ ρ1[j]? = some s) := fun j s q => by
    by_cases hj : w = j
    · subst hj
      rw [List.getElem?_set_self wl] at q
      exact .inl ⟨rfl, (Option.some.inj q).symm⟩
    · rw [List.getElem?_set_ne hj] at q; exact .inr ⟨Ne.symm hj, q⟩
  have kc : ∀ b, Kys ((p, Cell.lst ds) :: Ω) b → b = p ∨ Kys Ω b := fun b ⟨x, z⟩ => by
    rcases List.mem_cons.mp z with z | z
    · cases z; exact .inl rfl
    · exact .inr ⟨x, z⟩
  have sub : ∀ b, Fb G.fb (ρ1.set w (.wld ((p, .lst ds) :: Ω))) loc b → Fb (G.plus p).fb ρ1 loc b := fun b z => by
    rcases z with z | ⟨i, s, q, m⟩ | ⟨i, c, es, q, l⟩
    · exact .inl (.inl z)
    · rcases gt i _ q with ⟨_, rfl⟩ | ⟨_, q⟩
      · rcases kc b m with m | m
        · exact .inl (.inr m)
        · exact .inr (.inl ⟨w, _, e, m⟩)
      · exact .inr (.inl ⟨i, s, q, m⟩)
    · rcases gt i _ q with ⟨_, q⟩ | ⟨_, q⟩
      · cases q
      · exact .inr (.inr ⟨i, c, es, q, l⟩)
  have offp : ∀ (j : Nat) (s : Slot), ρ1[j]? = some s → ¬ s.has p := fun j s q m => by
    rcases (R1.raw.here ⟨j, s, q, m⟩).2 with y | y
    · exact y.2 (.inr rfl)
    · exact np (R.bwS p y)
  have R2 : Rep X.K G (ρ1.set w (.wld ((p, .lst ds) :: Ω))) loc σ H1 := by
    refine ⟨by rw [List.length_set]; exact R1.len, fun j d q => ?_, fun j c es q => ?_, fun i j b c es fs q q' z => ?_, fun j es q => ?_, fun j es q => ?_, R1.ext, fun b z => R1.fbS b (.inl z), R.bwS, ⟨fun j v cs fs q => ?_, fun j Ω2 q => ?_, fun a z j c es q y => ?_, fun i j s s' a q q' m m' => ?_⟩⟩
    · rcases gt j _ q with ⟨_, q⟩ | ⟨_, q⟩
      · cases q
      · obtain ⟨v, h1, h2⟩ := R1.dat j d q
        exact ⟨v, h1, h2.weak sub⟩
    · rcases gt j _ q with ⟨_, q⟩ | ⟨_, q⟩
      · cases q
      · obtain ⟨h1, us, h2, h3⟩ := R1.own j c es q
        exact ⟨h1, us, h2, h3.weak sub⟩
    · rcases gt i _ q with ⟨_, q⟩ | ⟨_, q⟩
      · cases q
      · rcases gt j _ q' with ⟨_, q'⟩ | ⟨_, q'⟩
        · cases q'
        · exact R1.apart i j b c es fs q q' z
    · rcases gt j _ q with ⟨_, q⟩ | ⟨_, q⟩
      · cases q
      · exact R1.brw j es q
    · rcases gt j _ q with ⟨_, q⟩ | ⟨_, q⟩
      · cases q
      · exact ⟨(R1.new j es q).1, fun z => (R1.new j es q).2 (.inl z)⟩
    · rcases gt j _ q with ⟨_, q⟩ | ⟨_, q⟩
      · cases q
      · obtain ⟨a, b, c, d⟩ := R1.raw.at_ j v cs fs q
        exact ⟨a, b, fun x hx => ⟨(c x hx).1, (c x hx).2.imp (fun y => ⟨y.1, fun z => y.2 (.inl z)⟩) _root_.id⟩, fun f hf => (d f hf).weak sub⟩
    · rcases gt j _ q with ⟨_, q⟩ | ⟨_, q⟩
      · cases q
        obtain ⟨nd, at_⟩ := R1.raw.wat w Ω e
        refine ⟨?_, fun x hx => ?_⟩
        · rw [List.map_cons]
          refine List.nodup_cons.mpr ⟨fun z => ?_, nd⟩
          obtain ⟨y, hy, e2⟩ := List.mem_map.mp z
          exact nk ⟨y.2, by show (p, y.2) ∈ Ω; rw [← (show y.1 = p from e2)]; exact hy⟩
        · rcases List.mem_cons.mp hx with hx | hx
          · subst hx
            exact ⟨.lst e1 (d1.weak sub), .inl ⟨h0, np⟩⟩
          · exact ⟨(at_ x hx).1.weak sub, (at_ x hx).2.imp (fun y => ⟨y.1, fun z => y.2 (.inl z)⟩) _root_.id⟩
      · obtain ⟨nd, at_⟩ := R1.raw.wat j Ω2 q
        exact ⟨nd, fun x hx => ⟨(at_ x hx).1.weak sub, (at_ x hx).2.imp (fun y => ⟨y.1, fun z => y.2 (.inl z)⟩) _root_.id⟩⟩
    · rcases gt j _ q with ⟨_, q⟩ | ⟨_, q5⟩
      · cases q
      · obtain ⟨i, s, q2, m⟩ := z
        rcases gt i _ q2 with ⟨_, rfl⟩ | ⟨_, q2⟩
        · rcases kc a m with rfl | m
          · cases c with
            | false => exact (R1.new j es q5).2 (.inr y)
            | true => exact np (y ▸ R.bwS _ (R1.brw j es q5).2)
          · exact R1.raw.own a ⟨w, _, e, m⟩ j c es q5 y
        · exact R1.raw.own a ⟨i, s, q2, m⟩ j c es q5 y
    · have ex : ∀ j s, j ≠ w → ρ1[j]? = some s → s.has a → Kys ((p, Cell.lst ds) :: Ω) a → False := fun j s hj q m z => by
        rcases kc a z with y | z
        · exact offp j s q (y ▸ m)
        · exact hj (R1.raw.two j w s _ a q e m z)
      rcases gt i _ q with ⟨hi, rfl⟩ | ⟨hi, q⟩
      · rcases gt j _ q' with ⟨hj, rfl⟩ | ⟨hj, q'⟩
        · rw [hi, hj]
        · exact (ex j s' hj q' m' m).elim
      · rcases gt j _ q' with ⟨hj, rfl⟩ | ⟨hj, q'⟩
        · exact (ex i s hi q m m').elim
        · exact R1.raw.two i j s s' a q q' m m'
  exact q1 p nk _ H1 R2 (g1.trans fun b o e n => ⟨e, fun z => n (sub b z)⟩) dx_aD
end
end DL

/-! Lists of the world. -/
namespace DL
open PySem L2

def inL (d : D) (Ω : Wd) (f : Addr → List D → Prop) : Prop := ∃ a xs, d = aD a ∧ wget Ω a = some (.lst xs) ∧ f a xs
theorem inL_eq {Ω : Wd} {a : Addr} {xs : List D} {f : Addr → List D → Prop} (h : wget Ω a = some (.lst xs)) : inL (aD a) Ω f = f a xs := by
  unfold inL
  refine propext ⟨fun ⟨b, ys, e, e2, q⟩ => ?_, fun q => ⟨a, xs, rfl, h, q⟩⟩
  cases aD_inj e
  rw [h] at e2; cases e2
  exact q
theorem inL_mono {d : D} {Ω : Wd} {f g : Addr → List D → Prop} (h : ∀ a xs, f a xs → g a xs) (q : inL d Ω f) : inL d Ω g := by
  obtain ⟨a, xs, e, e2, q⟩ := q
  exact ⟨a, xs, e, e2, h a xs q⟩
abbrev PMW := D → List D → Wd → (D → Wd → Prop) → Prop
def KdS (K : PySem.W.Frag) (F : AS) (H : Hp) (Ω : Wd) (Q : VK) : D → Wd → Prop := fun e Ω' => ∀ v H', WStep K F H H' Ω Ω' → Dx K H' (fun x => F x ∨ Kys Ω' x) v e → Q v H'
def PrimWM (K : PySem.W.Frag) (r : V → List V → Hp → VK → Prop) (s : PMW) : Prop := ∀ (F : AS) (H : Hp) (Ω : Wd) (x : V) (vs : List V) (d : D) (ds : List D) (Q : VK), WIn K F H Ω → Dx K H F x d → DxAll K H F vs ds → s d ds Ω (KdS K F H Ω Q) → r x vs H Q
def PmWM (s : PMW) : Prop := ∀ d ds Ω k k', (∀ e Ω', k e Ω' → k' e Ω') → s d ds Ω k → s d ds Ω k'
def mMethW (kd : D → Wd → Prop) (s : PMW) (w : Nat) (mo : M D) (ma : M (List D)) : M D := fun ρ k => mo ρ fun d ρ1 => (∃ Ω, ρ1[w]? = some (Slot.wld Ω) ∧ kd d Ω) ∧ ma ρ1 fun ds ρ2 => ∃ Ω, ρ2[w]? = some (Slot.wld Ω) ∧ s d ds Ω fun e Ω' => k e (ρ2.set w (.wld Ω'))
theorem mono_methW {kd : D → Wd → Prop} {s : PMW} (ms : PmWM s) {w : Nat} {mo : M D} {ma : M (List D)} (ho : Mono mo) (ha : Mono ma) : Mono (mMethW kd s w mo ma) := fun ρ k k' wk q => ho ρ _ _ (fun d ρ1 q1 => ⟨q1.1, ha ρ1 _ _ (fun ds ρ2 ⟨Ω, e, q2⟩ => ⟨Ω, e, ms _ _ _ _ _ (fun _ _ q3 => wk _ _ q3) q2⟩) q1.2⟩) q
section
variable {X : Cx} {o e : Expr} {es : List Expr} {mo m : M D} {ma ms : M (List D)} {pos apos cpos p : Pos} {w : Nat} {kd : D → Wd → Prop} {s : PMW} {r : V → List V → Hp → VK → Prop} {T id : String} {name : Str}
theorem te_meth {t : TE} {ta : TA} (hr : PrimWM X.K r s) (hs : PmWM s) (tk : ∀ F H Ω x d, WIn X.K F H Ω → Dx X.K H F x d → kd d Ω → tyV X.K T x H) (ho : Mono mo) (ha : Mono ma) {σ : L2.St} {H : Hp} {Q : VK} (h : TEof X.K (mMethW kd s w mo ma) σ H Q) : tBM X.K T r (TEof X.K mo) (TAof X.K ma) σ H Q := by
  obtain ⟨G, loc, ρ, R, q⟩ := h
  refine ⟨G, loc, ρ, R, ho ρ _ _ (fun d ρ1 q1 v H1 R1 g1 d1 => ?_) q⟩
  obtain ⟨⟨Ω, e, k⟩, q1⟩ := q1
  refine ⟨tk _ _ _ _ _ (R1.wIn e) d1 k, G, loc, ρ1, R1, ha ρ1 _ _ (fun ds ρ2 q2 vs H2 R2 g2 d2 => ?_) q1⟩
  obtain ⟨Ω2, e2, q2⟩ := q2
  refine hr (Fb G.fb ρ2 loc) H2 Ω2 v vs d ds Q (R2.wIn e2) (d1.g g2) d2 (hs _ _ _ _ _ (fun x Ω' q3 u H3 S d3 => ?_) q2)
  obtain ⟨R3, g3, s3⟩ := R2.world e2 S
  exact q3 u H3 R3 ((g1.trans g2).trans g3) (d3.weak s3)
theorem em_bmW (pa : PlainAttrs T) (slot : PySem.Slot T name id) (hty : typeOf (.builtin id) = pure (.type "method_descriptor")) (hm : MtR X id r) (hr : PrimWM X.K r s) (hs : PmWM s) (tk : ∀ F H Ω x d, WIn X.K F H Ω → Dx X.K H F x d → kd d Ω → tyV X.K T x H) (ho : EM X o mo) (ha : AM X (e :: es) ma)
    (hbase : attributeBase o name X.env (eval o X.env) = eval o X.env := by rfl)
    (hfew : ((backTo cpos (starEach (e :: es) X.env)).all (fun x => !x.1) && (backToKw cpos (keywordEach [] X.env)).all (fun x => x.1.isSome)
      && decide ((e :: es).length + ([] : List Keyword).length + (if ([] : List Keyword).isEmpty then 0 else 1) < 30)) = true := by rfl)
    (hline : (apos.endLine == cpos.line) = true := by rfl) (hst : starEach (e :: es) X.env = (false, eval e X.env) :: starEach es X.env := by rfl) (hplain : (backTo cpos (starEach es X.env)).any (·.1) = false := by rfl) :
    EM X (.Call (.Attribute o name apos) (e :: es) [] cpos) (mMethW kd s w mo ma) :=
  ⟨mono_methW hs ho.mono ha.mono, pe_weak (pe_bm pa slot hty hm ho.run ha.run hbase hfew hline hst hplain) fun _ _ _ h => te_meth (t := TEof X.K mo) (ta := TAof X.K ma) hr hs tk ho.mono ha.mono h⟩
theorem em_bmW0 (pa : PlainAttrs T) (slot : PySem.Slot T name id) (hty : typeOf (.builtin id) = pure (.type "method_descriptor")) (hm : MtR X id r) (hr : PrimWM X.K r s) (hs : PmWM s) (tk : ∀ F H Ω x d, WIn X.K F H Ω → Dx X.K H F x d → kd d Ω → tyV X.K T x H) (ho : EM X o mo)
    (hbase : attributeBase o name X.env (eval o X.env) = eval o X.env := by rfl) (hline : (apos.endLine == cpos.line) = true := by rfl) :
    EM X (.Call (.Attribute o name apos) [] [] cpos) (mMethW kd s w mo (mPure [])) := by
  refine ⟨mono_methW hs ho.mono mono_pure, pe_weak (pe_bm0 pa slot hty hm ho.run hbase hline) ?_⟩
  rintro σ H Q ⟨G, loc, ρ, R, q⟩
  refine ⟨G, loc, ρ, R, ho.mono ρ _ _ (fun d ρ1 q1 v H1 R1 g1 d1 => ?_) q⟩
  obtain ⟨⟨Ω, e, k⟩, Ω2, e2, q2⟩ := q1
  refine ⟨tk _ _ _ _ _ (R1.wIn e) d1 k, ?_⟩
  refine hr (Fb G.fb ρ1 loc) H1 Ω2 v [] d [] Q (R1.wIn e2) d1 .nil (hs _ _ _ _ _ (fun x Ω' q3 u H3 S d3 => ?_) q2)
  obtain ⟨R3, g3, s3⟩ := R1.world e2 S
  exact q3 u H3 R3 (g1.trans g3) (d3.weak s3)
end
/-! ### methods of lists -/
def lKd (d : D) (Ω : Wd) : Prop := inL d Ω fun _ _ => True
theorem lKd_ty {K : PySem.W.Frag} (F : AS) (H : Hp) (Ω : Wd) (x : V) (d : D) (I : WIn K F H Ω) (h : Dx K H F x d) (k : lKd d Ω) : tyV K "list" x H := by
  obtain ⟨a, xs, rfl, e, _⟩ := k
  cases h.adr_at
  obtain ⟨c, _⟩ := I.get e
  cases c with
  | lst e _ => exact .inl ⟨rfl, _, .inl (.inl e)⟩
def appendW : PMW
  | d, [y], Ω, k => inL d Ω fun a xs => xs.length < sizeLine ∧ k .none (wset Ω a (.lst (xs ++ [y])))
  | _, _, _, _ => False
def popW : PMW
  | d, [], Ω, k => inL d Ω fun a xs => ∃ y, xs[xs.length - 1]? = some y ∧ k y (wset Ω a (.lst xs.dropLast))
  | _, _, _, _ => False
def popAtW : PMW
  | d, [.int i], Ω, k => inL d Ω fun a xs => (-(2 ^ 63) ≤ i ∧ i < 2 ^ 63) ∧ ∃ j y, seqIndex? i xs.length = some j ∧ xs[j]? = some y ∧ k y (wset Ω a (.lst (xs.eraseIdx j)))
  | _, _, _, _ => False
def reverseW : PMW
  | d, [], Ω, k => inL d Ω fun a xs => k .none (wset Ω a (.lst xs.reverse))
  | _, _, _, _ => False
def clearW : PMW
  | d, [], Ω, k => inL d Ω fun a xs => k .none (wset Ω a (.lst []))
  | _, _, _, _ => False
def extendW : PMW
  | d, [.list ys], Ω, k => inL d Ω fun a xs => xs.length + ys.length ≤ sizeLine ∧ k .none (wset Ω a (.lst (xs ++ ys)))
  | _, _, _, _ => False
theorem pm_appendW : PmWM appendW := fun d ds Ω k k' w q => by
  unfold appendW at q ⊢
  split at q
  · exact inL_mono (fun a xs q => ⟨q.1, w _ _ q.2⟩) q
  · exact q.elim
theorem pm_popW : PmWM popW := fun d ds Ω k k' w q => by
  unfold popW at q ⊢
  split at q
  · exact inL_mono (fun a xs ⟨y, e, q⟩ => ⟨y, e, w _ _ q⟩) q
  · exact q.elim
theorem pm_popAtW : PmWM popAtW := fun d ds Ω k k' w q => by
  unfold popAtW at q ⊢
  split at q
  · exact inL_mono (fun a xs ⟨b, j, y, e, e2, q⟩ => ⟨b, j, y, e, e2, w _ _ q⟩) q
  · exact q.elim
theorem pm_reverseW : PmWM reverseW := fun d ds Ω k k' w q => by
  unfold reverseW at q ⊢
  split at q
  · exact inL_mono (fun a xs q => w _ _ q) q
  · exact q.elim
theorem pm_clearW : PmWM clearW := fun d ds Ω k k' w q => by
  unfold clearW at q ⊢
  split at q
  · exact inL_mono (fun a xs q => w _ _ q) q
  · exact q.elim
theorem pm_extendW : PmWM extendW := fun d ds Ω k k' w q => by
  unfold extendW at q ⊢
  split at q
  · exact inL_mono (fun a xs q => ⟨q.1, w _ _ q.2⟩) q
  · exact q.elim
section
variable {K : PySem.W.Frag} {F : AS} {H : Hp} {Ω : Wd} {a : Addr} {xs ys : List D}
/-- a list of the world, written anew -/
theorem WIn.wrL {us : List V} (I : WIn K F H Ω) (e : wget Ω a = some (.lst xs)) (h : DxAll K H F us ys) : WStep K F H (upd H a (.lst us)) Ω (wset Ω a (.lst ys)) := by
  have ka : Kys Ω a := ⟨_, wget_mem e⟩
  refine .one I e (.lst upd_same (h.g fun b o q n => ⟨by rw [upd_ne fun z => n (by rw [z]; exact I.sub a ka)]; exact q, fun z => n (z.elim _root_.id fun z => I.sub b (kys_wset.mp z))⟩))
theorem WStep.dx {H' : Hp} {Ω' : Wd} (S : WStep K F H H' Ω Ω') (I : WIn K F H Ω) {v : V} {d : D} (h : Dx K H F v d) : Dx K H' (fun x => F x ∨ Kys Ω' x) v d := h.g (I.grow (fun b z => z.elim .inl fun z => (S.nw b z).imp (I.sub b) _root_.id) S.kp)
theorem WStep.dxs {H' : Hp} {Ω' : Wd} (S : WStep K F H H' Ω Ω') (I : WIn K F H Ω) {vs : List V} {ds : List D} (h : DxAll K H F vs ds) : DxAll K H' (fun x => F x ∨ Kys Ω' x) vs ds := h.g (I.grow (fun b z => z.elim .inl fun z => (S.nw b z).imp (I.sub b) _root_.id) S.kp)
theorem prim_appendW : PrimWM K rAppend appendW := by
  intro F H Ω x vs d ds Q I hx hv h
  unfold appendW at h
  split at h
  · obtain ⟨a, xs, rfl, e, l, q⟩ := h
    obtain ⟨v, rfl, dv⟩ := dx_one hv
    cases hx.adr_at
    obtain ⟨c, _⟩ := I.get e
    cases c with
    | lst e1 d1 =>
      exact ⟨a, _, v, rfl, rfl, e1, by rw [d1.length]; exact l, q _ _ (I.wrL e (d1.append (.cons dv .nil))) .non⟩
  · exact h.elim
theorem prim_popW : PrimWM K rPop popW := by
  intro F H Ω x vs d ds Q I hx hv h
  unfold popW at h
  split at h
  · obtain ⟨a, xs, rfl, e, y, ey, q⟩ := h
    cases hv
    cases hx.adr_at
    obtain ⟨c, _⟩ := I.get e
    cases c with
    | lst e1 d1 =>
      obtain ⟨v, ev, dv⟩ := d1.get ey
      have S := I.wrL e d1.dropLast
      exact ⟨a, _, v, rfl, rfl, e1, by rw [d1.length]; exact ev, q _ _ S (S.dx I dv)⟩
  · exact h.elim
theorem prim_popAtW : PrimWM K rPopAt popAtW := by
  intro F H Ω x vs d ds Q I hx hv h
  unfold popAtW at h
  split at h
  · obtain ⟨a, xs, rfl, e, ⟨b1, b2⟩, j, y, ej, ey, q⟩ := h
    obtain ⟨v, rfl, dv⟩ := dx_one hv
    cases dv
    cases hx.adr_at
    obtain ⟨c, _⟩ := I.get e
    cases c with
    | lst e1 d1 =>
      obtain ⟨v, ev, dv⟩ := d1.get ey
      have S := I.wrL e (d1.eraseIdx j)
      exact ⟨a, _, _, j, v, rfl, rfl, e1, b1, b2, by rw [d1.length]; exact ej, ev, q _ _ S (S.dx I dv)⟩
  · exact h.elim
theorem prim_reverseW : PrimWM K rReverse reverseW := by
  intro F H Ω x vs d ds Q I hx hv h
  unfold reverseW at h
  split at h
  · obtain ⟨a, xs, rfl, e, q⟩ := h
    cases hv
    cases hx.adr_at
    obtain ⟨c, _⟩ := I.get e
    cases c with
    | lst e1 d1 => exact ⟨a, _, rfl, rfl, e1, q _ _ (I.wrL e d1.rev) .non⟩
  · exact h.elim
theorem prim_clearW : PrimWM K rClear clearW := by
  intro F H Ω x vs d ds Q I hx hv h
  unfold clearW at h
  split at h
  · obtain ⟨a, xs, rfl, e, q⟩ := h
    cases hv
    cases hx.adr_at
    obtain ⟨c, _⟩ := I.get e
    cases c with
    | lst e1 d1 => exact ⟨a, _, rfl, rfl, e1, q _ _ (I.wrL e .nil) .non⟩
  · exact h.elim
theorem prim_extendW : PrimWM K rExtend extendW := by
  intro F H Ω x vs d ds Q I hx hv h
  unfold extendW at h
  split at h
  · obtain ⟨a, xs, rfl, e, l, q⟩ := h
    obtain ⟨v, rfl, dv⟩ := dx_one hv
    obtain ⟨p, us, rfl, ep, np, du⟩ := dv.sql
    cases hx.adr_at
    obtain ⟨c, _⟩ := I.get e
    cases c with
    | lst e1 d1 => exact ⟨a, p, _, us, rfl, rfl, e1, ep, by rw [d1.length, du.length]; exact l, q _ _ (I.wrL e (d1.append du)) .non⟩
  · exact h.elim
end
section
variable {X : Cx} {o e b : Expr} {mo m mb : M D} {ma ms : M (List D)} {pos apos cpos p p2 : Pos} {w : Nat} {lo hi : Option Expr} {l h : M (Option Int)}
theorem em_appendW (ho : EM X o mo) (ha : EM X e m) (hbase : attributeBase o "append" X.env (eval o X.env) = eval o X.env := by rfl)
    (hfew : ((backTo cpos (starEach [e] X.env)).all (fun x => !x.1) && (backToKw cpos (keywordEach [] X.env)).all (fun x => x.1.isSome)
      && decide ([e].length + ([] : List Keyword).length + (if ([] : List Keyword).isEmpty then 0 else 1) < 30)) = true := by rfl)
    (hline : (apos.endLine == cpos.line) = true := by rfl) (hst : starEach [e] X.env = (false, eval e X.env) :: starEach [] X.env := by rfl) (hplain : (backTo cpos (starEach [] X.env)).any (·.1) = false := by rfl) :
    EM X (.Call (.Attribute o "append" apos) [e] [] cpos) (mMethW lKd appendW w mo (mCons m mNil)) :=
  em_bmW PySem.F.plainAttrs_list PySem.F.slot_list_append PySem.F.type_list_append mt_append prim_appendW pm_appendW lKd_ty ho (am_cons ha am_nil hst) hbase hfew hline hst hplain
theorem em_popAtW (ho : EM X o mo) (ha : EM X e m) (hbase : attributeBase o "pop" X.env (eval o X.env) = eval o X.env := by rfl)
    (hfew : ((backTo cpos (starEach [e] X.env)).all (fun x => !x.1) && (backToKw cpos (keywordEach [] X.env)).all (fun x => x.1.isSome)
      && decide ([e].length + ([] : List Keyword).length + (if ([] : List Keyword).isEmpty then 0 else 1) < 30)) = true := by rfl)
    (hline : (apos.endLine == cpos.line) = true := by rfl) (hst : starEach [e] X.env = (false, eval e X.env) :: starEach [] X.env := by rfl) (hplain : (backTo cpos (starEach [] X.env)).any (·.1) = false := by rfl) :
    EM X (.Call (.Attribute o "pop" apos) [e] [] cpos) (mMethW lKd popAtW w mo (mCons m mNil)) :=
  em_bmW PySem.F.plainAttrs_list PySem.F.slot_list_pop PySem.F.type_list_pop mt_popAt prim_popAtW pm_popAtW lKd_ty ho (am_cons ha am_nil hst) hbase hfew hline hst hplain
theorem em_extendW (ho : EM X o mo) (ha : EM X e m) (hbase : attributeBase o "extend" X.env (eval o X.env) = eval o X.env := by rfl)
    (hfew : ((backTo cpos (starEach [e] X.env)).all (fun x => !x.1) && (backToKw cpos (keywordEach [] X.env)).all (fun x => x.1.isSome)
      && decide ([e].length + ([] : List Keyword).length + (if ([] : List Keyword).isEmpty then 0 else 1) < 30)) = true := by rfl)
    (hline : (apos.endLine == cpos.line) = true := by rfl) (hst : starEach [e] X.env = (false, eval e X.env) :: starEach [] X.env := by rfl) (hplain : (backTo cpos (starEach [] X.env)).any (·.1) = false := by rfl) :
    EM X (.Call (.Attribute o "extend" apos) [e] [] cpos) (mMethW lKd extendW w mo (mCons m mNil)) :=
  em_bmW PySem.F.plainAttrs_list PySem.F.slot_list_extend PySem.F.type_list_extend mt_extend prim_extendW pm_extendW lKd_ty ho (am_cons ha am_nil hst) hbase hfew hline hst hplain
theorem em_popW (ho : EM X o mo) (hbase : attributeBase o "pop" X.env (eval o X.env) = eval o X.env := by rfl) (hline : (apos.endLine == cpos.line) = true := by rfl) :
    EM X (.Call (.Attribute o "pop" apos) [] [] cpos) (mMethW lKd popW w mo (mPure [])) :=
  em_bmW0 PySem.F.plainAttrs_list PySem.F.slot_list_pop PySem.F.type_list_pop mt_pop prim_popW pm_popW lKd_ty ho hbase hline
theorem em_reverseW (ho : EM X o mo) (hbase : attributeBase o "reverse" X.env (eval o X.env) = eval o X.env := by rfl) (hline : (apos.endLine == cpos.line) = true := by rfl) :
    EM X (.Call (.Attribute o "reverse" apos) [] [] cpos) (mMethW lKd reverseW w mo (mPure [])) :=
  em_bmW0 PySem.F.plainAttrs_list PySem.F.slot_list_reverse PySem.F.type_list_reverse mt_reverse prim_reverseW pm_reverseW lKd_ty ho hbase hline
theorem em_clearW (ho : EM X o mo) (hbase : attributeBase o "clear" X.env (eval o X.env) = eval o X.env := by rfl) (hline : (apos.endLine == cpos.line) = true := by rfl) :
    EM X (.Call (.Attribute o "clear" apos) [] [] cpos) (mMethW lKd clearW w mo (mPure [])) :=
  em_bmW0 PySem.F.plainAttrs_list PySem.F.slot_list_clear PySem.F.type_list_clear mt_clear prim_clearW pm_clearW lKd_ty ho hbase hline
/-- xs[i] -/
def mIxW (w : Nat) (mo mi : M D) : M D := fun ρ k => mo ρ fun d ρ1 => mi ρ1 fun i ρ2 => ∃ Ω, ρ2[w]? = some (Slot.wld Ω) ∧ inL d Ω fun _ xs => ixD (.list xs) i fun e => k e ρ2
theorem em_ixW (ha : EM X e m) (hb : EM X b mb) (hs : PlainIx b) : EM X (.Subscript e b pos) (mIxW w m mb) := by
  refine ⟨fun ρ k k' wk q => ha.mono ρ _ _ (fun d ρ1 q1 => hb.mono ρ1 _ _ (fun i ρ2 ⟨Ω, e, q2⟩ => ⟨Ω, e, inL_mono (fun _ xs q3 => pm_ix _ _ _ _ (fun _ q4 => wk _ _ q4) q3) q2⟩) q1) q, pe_weak (pe_ix ix_seq ha.run hb.run hs) ?_⟩
  rintro σ H Q ⟨G, loc, ρ, R, q⟩
  refine ⟨G, loc, ρ, R, ha.mono ρ _ _ (fun d ρ1 q1 v H1 R1 g1 d1 => ?_) q⟩
  refine ⟨G, loc, ρ1, R1, hb.mono ρ1 _ _ (fun i ρ2 q2 u H2 R2 g2 d2 => ?_) q1⟩
  obtain ⟨Ω, e, a, xs, rfl, e2, q3⟩ := q2
  have hv := (d1.g g2).adr_at
  subst hv
  obtain ⟨c, _⟩ := (R2.wIn e).get e2
  cases c with
  | lst e3 d3 =>
    cases i <;> first | exact (show False from q3).elim | skip
    cases d2
    obtain ⟨y, ey, q4⟩ := q3
    obtain ⟨u, e4, d4⟩ := dx_atI d3 ey
    exact .inl ⟨a, _, _, u, rfl, rfl, .inl (.inl e3), e4, q4 _ _ R2 (g1.trans g2) d4⟩
/-- xs[i:j] -/
def mSlW (w : Nat) (m : M D) (l h : M (Option Int)) : M D := fun ρ k => m ρ fun d ρ1 => l ρ1 fun lo ρ2 => h ρ2 fun hi ρ3 => ∃ Ω, ρ3[w]? = some (Slot.wld Ω) ∧ inL d Ω fun _ xs => k (.list (cutL xs lo hi)) ρ3
theorem em_slW (ha : EM X e m) (hl : OM X lo l) (hh : OM X hi h) : EM X (.Subscript e (.Slice lo hi none p2) pos) (mSlW w m l h) := by
  refine ⟨fun ρ k k' wk q => ha.mono ρ _ _ (fun d ρ1 q1 => hl.mono ρ1 _ _ (fun lo ρ2 q2 => hh.mono ρ2 _ _ (fun hi ρ3 ⟨Ω, e, q3⟩ => ⟨Ω, e, inL_mono (fun _ xs q4 => wk _ _ q4) q3⟩) q2) q1) q, pe_weak (pe_slice (sl_list.or (sl_tupA.or sl_str)) ha.run hl.run hh.run) ?_⟩
  rintro σ H Q ⟨G, loc, ρ, R, q⟩
  refine ⟨G, loc, ρ, R, ha.mono ρ _ _ (fun d ρ1 q1 v H1 R1 g1 d1 => ?_) q⟩
  refine ⟨G, loc, ρ1, R1, hl.mono ρ1 _ _ (fun lo ρ2 q2 H2 R2 g2 => ?_) q1⟩
  refine ⟨G, loc, ρ2, R2, hh.mono ρ2 _ _ (fun hi ρ3 q3 H3 R3 g3 => ?_) q2⟩
  obtain ⟨Ω, e, a, xs, rfl, e2, q4⟩ := q3
  have hv := (d1.g (g2.trans g3)).adr_at
  subst hv
  obtain ⟨c, _⟩ := (R3.wIn e).get e2
  cases c with
  | lst e3 d3 =>
    refine .inl ⟨a, _, rfl, .inl (.inl e3), ?_⟩
    exact new_lst R3.fbE (dx_cut d3 lo hi) fun w H4 m4 d4 => q4 w H4 (R3.more m4) (((g1.trans g2).trans g3).trans (more_grow m4)) d4
/-- a builtin asked of things as data -/
theorem mono_callD {p : PC1} {n w : Nat} {m : M (List D)} (mp : ∀ ds, Pm1 (p ds)) (h : Mono m) : Mono (mCallD p n w m) := fun ρ k k' wk q => h ρ _ _ (fun ds ρ1 ⟨Ω, es, e, e2, q1⟩ => ⟨Ω, es, e, e2, mp es _ _ (fun d q2 => ⟨q2.1, wk _ _ q2.2⟩) q1⟩) q
theorem call_valsD {K : PySem.W.Frag} {m : M (List D)} {r : List V → Hp → VK → Prop} {p : PC1} {n w : Nat} (hp : PrimC K r p) (mp : ∀ ds, Pm1 (p ds)) (mm : Mono m) {σ : L2.St} {H : Hp} {Q : VK} (h : TEof K (mCallD p n w m) σ H Q) : tCB r (TAof K m) σ H Q := by
  obtain ⟨G, loc, ρ, R, q⟩ := h
  refine ⟨G, loc, ρ, R, mm ρ _ _ (fun ds ρ1 q1 vs H1 R1 g1 d1 => ?_) q⟩
  obtain ⟨Ω, es, e, e2, q1⟩ := q1
  refine hp (fun _ => False) H1 vs es Q (fun _ z => z.elim) (derefs_dx (R1.wIn e) n ds es vs e2 d1) (mp es _ _ (fun d q2 v H2 m2 d2 => q2.2 v H2 (R1.more m2) (g1.trans (more_grow m2)) (d2.plain q2.1)) q1)
theorem em_lenW {n : Nat} (hm : X.mg "len" = none) (ha : AM X [e] ms) (hg : Gl X "len" := by rfl) (he : starEach [e] X.env = (false, eval e X.env) :: starEach [] X.env := by rfl) (hpl : (backTo pos (starEach [] X.env)).any (·.1) = false := by rfl) : EM X (.Call (.Name "len" p) [e] [] pos) (mCallD lenD n w ms) :=
  ⟨mono_callD pm_len ha.mono, pe_weak (pe_callB call_len hg hm PySem.boot_len ha.run (by decide) (by decide) he hpl) fun _ _ _ h => call_valsD prim_len pm_len ha.mono h⟩
end
end DL

namespace DL
open PySem L2
section
variable {X : Cx} {a b c : Expr} {ma mb mc : M D} {pos : Pos}
theorem em_ltLt (ha : EM X a ma) (hb : EM X b mb) (hc : EM X c mc) (hm : lastMarks [.Lt, .Lt] [b, c] = false := by with_unfolding_all rfl) : EM X (.Compare a [.Lt, .Lt] [b, c] pos) (mChain ltD ltD ma mb mc) := em_chain op_ltU op_ltU prim_lt prim_lt pm_lt pm_lt ha hb hc hm
theorem tm_ltLt (ha : EM X a ma) (hb : EM X b mb) (hc : EM X c mc) (hm : lastMarks [.Lt, .Lt] [b, c] = false := by with_unfolding_all rfl) : TM X (.Compare a [.Lt, .Lt] [b, c] pos) (mTest (mChain ltD ltD ma mb mc)) := tm_chain op_ltU op_ltU prim_lt prim_lt pm_lt pm_lt ha hb hc hm
theorem em_ltLe (ha : EM X a ma) (hb : EM X b mb) (hc : EM X c mc) (hm : lastMarks [.Lt, .LtE] [b, c] = false := by with_unfolding_all rfl) : EM X (.Compare a [.Lt, .LtE] [b, c] pos) (mChain ltD leD ma mb mc) := em_chain op_ltU op_leU prim_lt prim_le pm_lt pm_le ha hb hc hm
theorem tm_ltLe (ha : EM X a ma) (hb : EM X b mb) (hc : EM X c mc) (hm : lastMarks [.Lt, .LtE] [b, c] = false := by with_unfolding_all rfl) : TM X (.Compare a [.Lt, .LtE] [b, c] pos) (mTest (mChain ltD leD ma mb mc)) := tm_chain op_ltU op_leU prim_lt prim_le pm_lt pm_le ha hb hc hm
end
end DL

/-! isinstance of a caught error of an own class, with its field. -/
namespace DL
open PySem L2

/-- what the class at C must say -/
structure IsxC (K : PySem.W.Frag) (C : Addr) : Prop where
  hcl : (PySem.W.clsIn K C).isSome = true
  hga : PySem.W.findIn K (.ref C) "__getattribute__" = some (some (.builtin "BaseException.__getattribute__"))
  hgt : PySem.W.findIn K (.ref C) "__getattr__" = some none
  hsub : PySem.W.subIn K (.ref C) (.type "BaseException") = some true
  ha : PySem.W.findIn K (.ref C) "__class__" = some (some (.builtin "object.__class__"))
  hn : PySem.W.specialIn K (.builtin "object.__class__") "__get__" = some (some (.builtin "getset_descriptor.__get__"))
  htk : PySem.W.takesIn K (.builtin "object.__class__") = some true
  hm : PySem.W.mroIn K C (.type "object") = some true
section
variable {X : Cx}
theorem exc_inst {pins : List (Addr × Obj)} {σ : L2.St} {H : Hp} {s : Shared} {a C dd : Addr} {fl : List (Str × V)} (I : Inv X pins σ H s) (ha : H a = some (exK (.ref C) (some dd) a)) (hd : H dd = some (.xd fl)) : ∃ oe od, PySem.W.InstAt s.heap a oe C (some od) := by
  obtain ⟨oe, vs, e1, ⟨z1, z2⟩, e2⟩ := (show ∃ (oe : Obj) (vs : Array Value), s.heap.get? a = some oe ∧ Zc (.ref C) (some dd) oe ∧ oe.data = .fields vs from (I.hok a _ ha).1)
  have hdd : ∃ od, s.heap.get? dd = some od := by
    obtain ⟨mA, h, _⟩ := I.hok dd _ hd
    obtain ⟨od, _, _, h, _⟩ := h
    exact ⟨od, h⟩
  obtain ⟨od, h⟩ := hdd
  refine ⟨oe, od, e1, z1, by unfold PySem.W.notCls; rw [e2], ?_⟩
  rw [z2]
  exact h
theorem call_isX1 {C : Addr} (Z : IsxC X.K C) : CallR X (.builtin "isinstance") (fun xs H Q => ∃ (a dd : Addr) (fl : List (Str × V)) (c : V) (u : Value) (b : Bool), xs = [.ref a, c] ∧ ClsV c u ∧ H a = some (exK (.ref C) (some dd) a) ∧ H dd = some (.xd fl) ∧ PySem.W.kitOne X.K (.ref C) u = some b ∧ Q (.bl b) H) := by
  intro pins s σ H xs us Q I r h
  obtain ⟨a, dd, fl, c, u, b, rfl, k, ha, hd, e, q⟩ := h
  obtain ⟨u1, u2, rfl, r1, r2⟩ := vals2 r
  have e2 := k.eq r2
  subst e2
  cases (show u1 = Value.ref a from r1)
  obtain ⟨oe, od, J⟩ := exc_inst I ha hd
  exact PySem.W.kia_one (PySem.W.kitx_exc Z.hcl Z.hga Z.hgt Z.hsub Z.ha Z.hn Z.htk Z.hm) I.kIn J e (fun z => nomatch z) fun tk => ⟨.bl b, H, I.tok tk, rfl, q⟩
theorem call_isXT {C : Addr} (Z : IsxC X.K C) : CallR X (.builtin "isinstance") (fun xs H Q => ∃ (a dd tp : Addr) (fl : List (Str × V)) (cs : List V) (us : List Value) (b : Bool), xs = [.ref a, .ref tp] ∧ H tp = some (.tup cs) ∧ Paired ClsV cs us ∧ H a = some (exK (.ref C) (some dd) a) ∧ H dd = some (.xd fl) ∧ PySem.W.kitAny X.K (.ref C) us = some b ∧ Q (.bl b) H) := by
  intro pins s σ H xs us Q I r h
  obtain ⟨a, dd, tp, fl, cs, ws, b, rfl, hT, k, ha, hd, e, q⟩ := h
  obtain ⟨u1, u2, rfl, r1, r2⟩ := vals2 r
  cases (show u1 = Value.ref a from r1)
  cases (show u2 = Value.ref tp from r2)
  obtain ⟨oe, od, J⟩ := exc_inst I ha hd
  obtain ⟨_, its, rv, o, h1, h2, n, h3⟩ := (show ObjOk X.prog X.w H s.heap tp (.tup cs) from I.hok tp _ hT)
  have e3 := ClsV.all k rv
  subst e3
  obtain ⟨oc, od2, dt, sl⟩ := o
  simp only at h2 h3
  subst h2 h3
  exact PySem.W.kia_tup (PySem.W.kitx_exc Z.hcl Z.hga Z.hgt Z.hsub Z.ha Z.hn Z.htk Z.hm) I.kIn J h1 e (fun z => nomatch z) fun tk => ⟨.bl b, H, I.tok tk, rfl, q⟩
end
/-- whether an exception of the class x is of some classes: b -/
def mIsiX (x : Str) (b : Bool) (m : M D) : M D := fun ρ k => m ρ fun d ρ1 => (∃ w, d = .dict (excD x w)) ∧ k (.bool b) ρ1
def GRefs (mg : Str → Option Value) : List Str → List Addr → Prop
  | [], [] => True
  | n :: ns, c :: cs => mg n = some (.ref c) ∧ GRefs mg ns cs
  | _, _ => False
/-- names of classes, one behind the other -/
inductive ClsNames (X : Cx) (mg : Str → Option Value) : List Expr → List Addr → Prop
  | nil : ClsNames X mg [] []
  | cons {n : Str} {p : Pos} {c : Addr} {es : List Expr} {cs : List Addr} : mg n = some (.ref c) → Gl X n → (n == ("__debug__" : Str)) = false → starEach (.Name n p :: es) X.env = (false, eval (.Name n p) X.env) :: starEach es X.env → ClsNames X mg es cs → ClsNames X mg (.Name n p :: es) (c :: cs)
section
variable {X : Cx} {x qual : Str} {C fI : Addr} {fdI : FuncData} {st : Stmt} {e : Expr} {m : M D} {p p2 p3 p4 pos : Pos} {b : Bool}
theorem ClsNames.pa {es : List Expr} {cs : List Addr} (h : ClsNames X X.mg es cs) {t : TA} (ht : ∀ σ H Q, t σ H Q → Q (cs.map V.ref) H) : PA X es t := by
  induction h generalizing t with
  | nil => exact pa_weak pa_nil fun σ H Q q => ht σ H Q q
  | cons hm hg hd he _ ih => exact pa_weak (pa_cons (pe_glob hg hm (show RelV (.ref _) (.ref _) from rfl) hd) (ih (t := fun σ H Q => Q _ H) fun σ H Q q => q) he) fun σ H Q q => ht σ H Q q
theorem clsV_refs {cs : List Addr} : Paired ClsV (cs.map V.ref) (cs.map Value.ref) := by
  induction cs with
  | nil => exact .nil
  | cons c cs ih => exact .cons (.own c) ih
theorem em_isiX {n : Str} {T : String} (Tc : XCls X.K X.mg x qual C fI fdI st) (Z : IsxC X.K C) (hk : PySem.W.kitOne X.K (.ref C) (.type T) = some b) (hm : X.mg "isinstance" = none) (hmT : X.mg n = none) (hT : bootBuiltins n = some (.type T)) (ha : EM X e m) (hg : Gl X "isinstance" := by rfl) (hgT : Gl X n := by rfl) (hn : n ≠ "__name__" := by decide) (hd : (n == ("__debug__" : Str)) = false := by decide)
    (he : starEach [e, .Name n p2] X.env = (false, eval e X.env) :: starEach [.Name n p2] X.env := by rfl) (he2 : starEach [.Name n p2] X.env = (false, eval (.Name n p2) X.env) :: starEach [] X.env := by rfl) (hpl : (backTo pos (starEach [.Name n p2] X.env)).any (·.1) = false := by rfl) :
    EM X (.Call (.Name "isinstance" p) [e, .Name n p2] [] pos) (mIsiX x b m) := by
  refine ⟨fun ρ k k' w q => ha.mono ρ _ _ (fun d ρ1 q1 => ⟨q1.1, w _ _ q1.2⟩) q, pe_weak (pe_callB (call_isX1 Z) hg hm PyProof.Rows.boot_isinstance (pa_cons ha.run (pa_cons (pe_bltn (v := .ty T) hgT hmT hT rfl hn hd) pa_nil he2) he) (he := he) (hpl := hpl)) ?_⟩
  rintro σ H Q ⟨G, loc, ρ, R, q⟩
  refine ⟨G, loc, ρ, R, ha.mono ρ _ _ (fun d ρ1 q1 v H1 R1 g1 d1 => ?_) q⟩
  obtain ⟨⟨w, rfl⟩, q1⟩ := q1
  obtain ⟨a, C', dd, u, rfl, fl, at_, _, _, h1, h2⟩ := d1.excA
  obtain rfl := fnAt_one at_ Tc.at_
  exact ⟨a, dd, _, .ty T, _, b, rfl, .ty T, h1, h2, hk, q1 _ _ R1 g1 (.bl b)⟩
theorem em_isiXT {cs : List Addr} {es : List Expr} {kk : Nat} (Tc : XCls X.K X.mg x qual C fI fdI st) (Z : IsxC X.K C) (hk : PySem.W.kitAny X.K (.ref C) (cs.map .ref) = some b) (hs : cs.length ≤ sizeLine) (hm : X.mg "isinstance" = none) (hc : ClsNames X X.mg es cs) (ha : EM X e m) (hg : Gl X "isinstance" := by rfl)
    (he : starEach [e, .Tuple es kk p4] X.env = (false, eval e X.env) :: starEach [.Tuple es kk p4] X.env := by rfl) (he2 : starEach [.Tuple es kk p4] X.env = (false, eval (.Tuple es kk p4) X.env) :: starEach [] X.env := by rfl) (hpl : (backTo pos (starEach [.Tuple es kk p4] X.env)).any (·.1) = false := by rfl) :
    EM X (.Call (.Name "isinstance" p) [e, .Tuple es kk p4] [] pos) (mIsiX x b m) := by
  refine ⟨fun ρ k k' w q => ha.mono ρ _ _ (fun d ρ1 q1 => ⟨q1.1, w _ _ q1.2⟩) q, pe_weak (pe_callB (call_isXT Z) hg hm PyProof.Rows.boot_isinstance (pa_cons ha.run (pa_cons (pe_tup (hc.pa (t := fun σ H Q => Q (cs.map V.ref) H) fun σ H Q q => q)) pa_nil he2) he) (he := he) (hpl := hpl)) ?_⟩
  rintro σ H Q ⟨G, loc, ρ, R, q⟩
  refine ⟨G, loc, ρ, R, ha.mono ρ _ _ (fun d ρ1 q1 v H1 R1 g1 d1 => ?_) q⟩
  refine ⟨by rw [List.length_map]; exact hs, fun tp htp => ?_⟩
  obtain ⟨⟨w, rfl⟩, q1⟩ := q1
  obtain ⟨a, C', dd, u, rfl, fl, at_, _, _, h1, h2⟩ := d1.excA
  obtain rfl := fnAt_one at_ Tc.at_
  have m := upd_more (o := .tup (cs.map V.ref)) htp
  exact ⟨a, dd, tp, _, _, _, b, rfl, upd_same, clsV_refs, m _ _ h1, m _ _ h2, hk, q1 _ _ (R1.more m) (g1.trans (more_grow m)) (.bl b)⟩
end
end DL

/-! == and != where one side alone is shallow. -/
namespace DL
open PySem L2
variable {X : Cx} {a b : Expr} {ma mb : M D} {pos : Pos}
theorem em_eqS (hu : X.A.units + 64 < cLine) (ha : EM X a ma) (hb : EM X b mb) : EM X (.Compare a [.Eq] [b] pos) (mBin eqM ma mb) := em_cmp (op_eqM hu) prim_eqM pm_eqM (nomark b) ha hb
theorem em_neS (hu : X.A.units + 64 < cLine) (ha : EM X a ma) (hb : EM X b mb) : EM X (.Compare a [.NotEq] [b] pos) (mBin neM ma mb) := em_cmp (op_neM hu) prim_neM pm_neM (nomark b) ha hb
theorem tm_eqS (hu : X.A.units + 64 < cLine) (ha : EM X a ma) (hb : EM X b mb) : TM X (.Compare a [.Eq] [b] pos) (mTest (mBin eqM ma mb)) := tm_cmp (op_eqM hu) prim_eqM pm_eqM (nomark b) ha hb
theorem tm_neS (hu : X.A.units + 64 < cLine) (ha : EM X a ma) (hb : EM X b mb) : TM X (.Compare a [.NotEq] [b] pos) (mTest (mBin neM ma mb)) := tm_cmp (op_neM hu) prim_neM pm_neM (nomark b) ha hb
end DL

/-! except (A, B, C) as e; isinstance of a caught error and one own class; len(set(texts)). -/
namespace DL
open PySem PySem.Spec PyProof.Rows L2
section
variable {X : Cx} {x qual : Str} {C fI : Addr} {fdI : FuncData} {st : Stmt} {e : Expr} {m : M D} {p p2 p3 p4 pos : Pos} {b : Bool}
theorem em_isiXO {n : Str} {C2 : Addr} (Tc : XCls X.K X.mg x qual C fI fdI st) (Z : IsxC X.K C) (hk : PySem.W.kitOne X.K (.ref C) (.ref C2) = some b) (hm : X.mg "isinstance" = none) (hmT : X.mg n = some (.ref C2)) (ha : EM X e m) (hg : Gl X "isinstance" := by rfl) (hgT : Gl X n := by rfl) (hd : (n == ("__debug__" : Str)) = false := by decide)
    (he : starEach [e, .Name n p2] X.env = (false, eval e X.env) :: starEach [.Name n p2] X.env := by rfl) (he2 : starEach [.Name n p2] X.env = (false, eval (.Name n p2) X.env) :: starEach [] X.env := by rfl) (hpl : (backTo pos (starEach [.Name n p2] X.env)).any (·.1) = false := by rfl) :
    EM X (.Call (.Name "isinstance" p) [e, .Name n p2] [] pos) (mIsiX x b m) := by
  refine ⟨fun ρ k k' w q => ha.mono ρ _ _ (fun d ρ1 q1 => ⟨q1.1, w _ _ q1.2⟩) q, pe_weak (pe_callB (call_isX1 Z) hg hm PyProof.Rows.boot_isinstance (pa_cons ha.run (pa_cons (pe_glob (v := .ref C2) hgT hmT rfl hd) pa_nil he2) he) (he := he) (hpl := hpl)) ?_⟩
  rintro σ H Q ⟨G, loc, ρ, R, q⟩
  refine ⟨G, loc, ρ, R, ha.mono ρ _ _ (fun d ρ1 q1 v H1 R1 g1 d1 => ?_) q⟩
  obtain ⟨⟨w, rfl⟩, q1⟩ := q1
  obtain ⟨a, C', dd, u, rfl, fl, at_, _, _, h1, h2⟩ := d1.excA
  obtain rfl := fnAt_one at_ Tc.at_
  exact ⟨a, dd, _, .ref C2, _, b, rfl, .own C2, h1, h2, hk, q1 _ _ R1 g1 (.bl b)⟩
end
/-- what 'except (..) as n' wishes, its suite ending with the exception held on -/
def wKeepT (K : PySem.W.Frag) (cs : List Value) (i : Nat) (ts : Addr → Value → Option Addr → TS) (D : Ends) : WX := fun cls d σ H => PySem.W.exmAny K cls cs = some true ∧ ∀ a, H a = none →
  ts a cls d { nx := fun σ' H' => D.nx (σ'.set i none) (upd H' a (exK cls d a)), rt := fun _ _ => False, bk := fun _ _ => False, ct := fun _ _ => False } (σ.set i (some (.ref a))) H

theorem spliced_names {X : Cx} {pins : List (Addr × Obj)} {s : Shared} {σ : L2.St} {H : Hp} {pos : Pos} {E : Value → Shared → Prop} (I : Inv X pins σ H s) : ∀ {es : List Expr} {cs : List Addr}, ClsNames X X.mg es cs → ∀ {Q : List Value → Shared → Prop}, Q (cs.map .ref) s →
    wpAny (model X.prog X.w) X.A (spliced (backTo pos (starEach es X.env))) Q E s := by
  intro es cs h
  induction h with
  | nil => exact fun q => Calls.spliced_nil q
  | cons hm hg hd he _ ih =>
    intro Q q
    rw [he]
    refine Calls.spliced_cons ?_
    exact ld_glob I hg hm (ih q) hd
theorem fly_more {B h h' : Heap} {l : List Env} {a : Addr} {Z : Obj → Prop} (f : HandSPX.FlyingZ B l a Z h) (k : ∀ b o, h.get? b = some o → h'.get? b = some o) : HandSPX.FlyingZ B l a Z h' := by
  obtain ⟨f1, f2, f3, f4⟩ := f
  refine ⟨fun b o e => k b o (f1 b o e), f2, ?_, ?_⟩
  · clear f4
    induction l with
    | nil => trivial
    | cons e l ih =>
      obtain ⟨q1, ⟨L, o, z1, z2, z3, z4⟩, q2⟩ := f3
      exact ⟨q1, ⟨L, o, z1, z2, k _ _ z3, z4⟩, ih q2⟩
  · obtain ⟨oe, vs, T, oT, ts, e1, e2, e3, e4, e5, e6, e7, e8, e9⟩ := f4
    exact ⟨oe, vs, T, oT, ts, k _ _ e1, e2, e3, e4, e5, e6, k _ _ e7, e8, e9⟩
theorem clsNames_suite {X : Cx} {a : Addr} {pn : List (Addr × Obj)} {es : List Expr} {cs : List Addr} (h : ClsNames X X.mg es cs) : ClsNames (X.suite a pn) (X.suite a pn).mg es cs := by
  induction h with
  | nil => exact .nil
  | cons hm hg hd he _ ih => exact .cons hm hg hd he ih
section
variable {X : Cx} {n : Str} {cs : List Addr} {es : List Expr} {i kk : Nat} {body suite : List Stmt} {b₀ : Stmt} {tpos pos pos' : Pos} {tb : WX → TS} {ts : Addr → Value → Option Addr → TS}
theorem ps_try_keepT (hx : X.ex = []) (hs : X.stack = X.env :: X.outer) (hf : X.env.frame = some X.env.locals) (hN : X.N.Nodup) (hi : X.N[i]? = some n) (hln : X.env.kindOf n = some .local) (hc : ClsNames X X.mg es cs) (hcl : cs.length ≤ sizeLine)
    (hm : ∀ (h : Heap) (tp a : Addr) (cls : Value), X.K.In h → PySem.W.Looks (model X.prog X.w) h (typeOf (.ref a)) cls → h.get? tp = some { cls := .type "tuple", data := .seq (cs.map Value.ref).toArray } → PySem.W.exmAny X.K cls (cs.map Value.ref) = some true → PySem.W.Looks (model X.prog X.w) h (excMatches (.ref a) (.ref tp)) true)
    (hb : ∀ (W : WX) (pn : List (Addr × Obj)) (xe : Value → Shared → Prop), Takes (X.tr pn xe) W → PassesOwn (model X.prog X.w) X.A X.env xe → PSs (X.tr pn xe) body (tb W))
    (hsu : ∀ (a : Addr) (oe : Obj) (cls : Value) (d : Option Addr) (pn : List (Addr × Obj)), Zc cls d oe → (∃ vs, oe.data = .fields vs) → PSs (X.suite a ((a, oe) :: pn)) (b₀ :: suite) (ts a cls d)) :
    PS X (.Try body [.ExceptHandler (some (.Tuple es kk tpos)) (some n) (b₀ :: suite) pos'] [] [] pos) (fun D σ H => tb (wKeepT X.K (cs.map Value.ref) i ts D) D σ H) := by
  constructor
  intro pins s σ H D I h
  have ok := I.ok
  have frames : X.A.frames = some (X.env :: X.outer) := ok.frames.trans (congrArg some hs)
  have isLoc : Loc X.env.scope n := .inl hln
  have run := (hb (wKeepT X.K (cs.map Value.ref) i ts D) (X.pn ++ pins)
    (fun e t1 => wpAny (model X.prog X.w) X.A (noteFrame e X.env)
      (fun _ t2 => wpAny (model X.prog X.w) X.A (setFlight e none)
        (fun _ t3 => wpAny (model X.prog X.w) X.A
          (handleBy e X.env [.ExceptHandler (some (.Tuple es kk tpos)) (some n) (b₀ :: suite) pos'])
          (SP X pins D) X.xe t3) X.xe t2) X.xe t1) ?_ PassesOwn.looking).run [] s σ H D (I.toTry _) h
  · refine wpAny_Try_except (wpAny_mono run (fun f t hsp => ?_) fun _ _ z => z)
    match f, hsp with
    | .next, ⟨σ1, H1, J1, q⟩ => exact wpAny_execs_nil ⟨σ1, H1, J1.ofTry ok, q⟩
    | .brk, ⟨σ1, H1, J1, q⟩ => exact ⟨σ1, H1, J1.ofTry ok, q⟩
    | .cont, ⟨σ1, H1, J1, q⟩ => exact ⟨σ1, H1, J1.ofTry ok, q⟩
    | .ret u, ⟨v, σ1, H1, J1, r, q⟩ => exact ⟨v, σ1, H1, J1.ofTry ok, r, q⟩
  · rintro u t ⟨a, B, sI, pins1, σ1, H1, cls, d, rfl, J0, nb, up, sky, na, os, ag, yes, go⟩
    have J := J0.ofTry (pins := pins) ok
    rw [hs] at sky
    show wpAny (model X.prog X.w) X.A (noteFrame (.ref a) X.env) _ _ _
    refine Sky.land Zc.steady frames hf sky fun ha fa ua => ?_
    have Ja : Inv X pins σ1 H1 { t with heap := ha } := J.landed nb fa.1 (up.trans ua) os ag
    obtain ⟨oa, va, ea, za, da⟩ := fa.there
    have Bn : B.get? a = none := fa.2.1
    -- not among the frames
    have notin : a ∉ frs (X.env :: X.outer) := fun hm => by
      obtain ⟨_, o1, e1, nf⟩ := fa.2.2.1.mem hm
      rw [ea] at e1
      cases e1
      exact nf _ da
    have nL : a ≠ X.env.locals := fun z => notin (List.mem_filterMap.mpr ⟨X.env, by simp, by rw [hf, z]⟩)
    have nF : a ∉ X.fs := fun hm => by
      obtain ⟨e, he, q⟩ := List.mem_filterMap.mp hm
      exact notin (List.mem_filterMap.mpr ⟨e, by simp [he], q⟩)
    have nI : sI.heap.get? a = none := by
      cases z : sI.heap.get? a with
      | none => rfl
      | some o =>
        have := nb a o z (by rw [hs]; exact notin)
        rw [Bn] at this
        cases this
    have n0 : X.s_0.heap.get? a = none := by
      cases z : X.s_0.heap.get? a with
      | none => rfl
      | some o =>
        obtain ⟨o1, z1⟩ := J.base.there a o z (by rw [hx]; exact fun z => nomatch z)
        rw [nI] at z1
        cases z1
    have nP : ∀ p ∈ X.pn ++ pins, p.1 ≠ a := fun p hp z => by
      have z1 := (J.pin p hp).1
      rw [z, nI] at z1
      cases z1
    have nC : ∀ y k, X.env.cells.lookup y = some k → k ≠ a := fun y k e z => by
      obtain ⟨v, o, z1, _⟩ := J.cell y k e
      rw [z, nI] at z1
      cases z1
    have Sa := Ja.suite ea da na nL nF
    have hc' := clsNames_suite (a := a) (pn := (a, oa) :: (X.pn ++ pins)) hc
    refine wpAny_handleBy_cons (codeAny_handlers_test ?_) fun q => nomatch q
    refine wpAny_Tuple (spliced_names (X := X.suite a ((a, oa) :: (X.pn ++ pins))) Sa hc' ?_)
    refine ⟨by rw [List.length_map]; exact hcl, ?_⟩
    have kc : ∀ b o, ha.get? b = some o → (ha.push { cls := Value.type "tuple", data := Data.seq (cs.map Value.ref).toArray }).get? b = some o := fun b o e => Heap.get?_push_of_some _ e
    have tpAt : (ha.push { cls := Value.type "tuple", data := Data.seq (cs.map Value.ref).toArray }).get? ha.objs.size = some { cls := Value.type "tuple", data := Data.seq (cs.map Value.ref).toArray } := Heap.get?_push_size _ rfl
    generalize hHc : ha.push { cls := Value.type "tuple", data := Data.seq (cs.map Value.ref).toArray } = hc2 at kc tpAt ⊢
    have fc := fly_more fa kc
    have Jc : Inv X pins σ1 H1 { t with heap := hc2 } := Ja.kept (t' := t.toks) kc
    have types : PySem.W.Looks (model X.prog X.w) hc2 (typeOf (.ref a)) cls := fun A Q E s k q => by
      refine wpAny_typeOf_ref (k _ _ (kc _ _ ea)) ?_
      rw [za.1]
      exact q
    have match1 := hm hc2 _ a cls Jc.kIn types tpAt yes
    refine match1.here (codeAny_handlers_suite_as (HandSPX.lands_againZ fc fun hb fb ub => ?_))
    have ub' : ha.UpToSlots hb := fun b o e nf => ub b o (kc b o e) nf
    have Jb : Inv X pins σ1 H1 { t with heap := hb } := J.landed nb fb.1 ((up.trans ua).trans ub') os ag
    obtain ⟨ob, vb, eb, zb, db⟩ := fb.there
    have Sb := Jb.suite eb db na nL nF
    refine store_ok (X := X.suite a ((a, ob) :: (X.pn ++ pins))) (v := .ref a) Sb hN hi isLoc rfl (fun s5 S5 => ?_) (.inr hln)
    have R := (hsu a ob cls d (X.pn ++ pins) zb ⟨_, db⟩).run [] s5 _ H1 _ S5 (go a na)
    refine wpAny_mono R (fun f s6 hsp => ?_) fun _ _ z => z.elim
    match f, hsp with
    | .next, ⟨σ6, H6, S6, q6⟩ =>
      obtain ⟨e6, m6, _⟩ := S6.pin (a, ob) (by simp)
      have A6 := adopt (S6.unsuite ok) m6 n0 nL nP nC (exK_ok (cls := cls) (d := d) e6 zb db)
      exact gone_ok A6 hN hi hln fun s7 J7 => ⟨_, _, J7, q6⟩
    | .brk, ⟨_, _, _, z⟩ => exact z.elim
    | .cont, ⟨_, _, _, z⟩ => exact z.elim
    | .ret _, ⟨_, _, _, _, _, z⟩ => exact z.elim
end
section
variable {X : Cx} {k n i j z hk2 : Nat} {f C fI : Addr} {fd fdI : FuncData} {st : Stmt} {ps : List Str} {x cn qual nm y zn : Str} {F : FX} {p pos pe pt ph pc py pn pa pz : Pos} {e : Expr} {es hes : List Expr} {hcs : List Addr} {ma : M (List D)}
theorem sm_tryAT (hij : i ≠ j) (T : XCls X.K X.mg cn qual C fI fdI st) (Gf : FnG X.prog X.w X.K X.mg X.base (L2.CX X.prog X.w) k f fd ps (spX X.K n C F)) (mF : PmX F) (hr : Rm k X.A) (hg : Gl X x) (hm : X.mg x = some (.ref f)) (hk : PySem.W.keepIn X.K (.ref f) = true) (hb : Binds X.K fd ps [])
    (hx : X.ex = []) (hs : X.stack = X.env :: X.outer) (hfr : X.env.frame = some X.env.locals) (hN : X.N.Nodup) (hi : X.N[i]? = some nm) (hj : X.N[j]? = some y) (hz : X.N[z]? = some zn) (hln : X.env.kindOf nm = some .local) (hv : Vis X.env.scope nm) (hy : Loc X.env.scope y) (hyl : X.env.scope.names.lookup y = some .local)
    (hzL : Loc X.env.scope zn) (hzl : X.env.scope.names.lookup zn = some .local)
    (hC : ClsNames X X.mg hes hcs) (hCl : hcs.length ≤ sizeLine) (hany : PySem.W.exmAny X.K (.ref C) (hcs.map Value.ref) = some true)
    (hmt : ∀ (h : Heap) (tp a : Addr) (cls : Value), X.K.In h → PySem.W.Looks (model X.prog X.w) h (typeOf (.ref a)) cls → h.get? tp = some { cls := .type "tuple", data := .seq (hcs.map Value.ref).toArray } → PySem.W.exmAny X.K cls (hcs.map Value.ref) = some true → PySem.W.Looks (model X.prog X.w) h (excMatches (.ref a) (.ref tp)) true) (ha : ∀ pn xe, AM (X.tr pn xe) (e :: es) ma)
    (hd1 : (nm == ("__debug__" : Str)) = false := by decide) (hd2 : (nm == ("__classdict__" : Str)) = false := by decide)
    (hdb : (x == ("__debug__" : Str)) = false := by decide) (he : starEach (e :: es) X.env = (false, eval e X.env) :: starEach es X.env := by rfl) (hpl : (backTo pos (starEach es X.env)).any (·.1) = false := by rfl)
    (hsw : swapsWith (.Call (.Name x p) (e :: es) [] pos) (some (.Name zn pz)) pe.line X.env = pure false := by rfl) (hsa : swapsWith (.Name nm pn) (some (.Name y py)) pa.line X.env = pure false := by rfl) :
    SM X (.Try [.Assign [.Name zn pz] (.Call (.Name x p) (e :: es) [] pos) pe] [.ExceptHandler (some (.Tuple hes hk2 pc)) (some nm) [.Assign [.Name y py] (.Name nm pn) pa] ph] [] [] pt) (sTryA i j z n cn F ma) := by
  have am : Mono ma := (ha [] fun _ _ => True).mono
  refine ⟨fun kk kk' ρ l q => am ρ _ _ (fun ds ρ1 ⟨a, b⟩ => ⟨a, mF _ _ _ _ _ (fun _ _ z => l.nx _ z) (fun _ z => l.nx _ z) b⟩) q, ?_⟩
  refine ps_weak (ps_try_keepT (tb := fun W => tAsg (tCallS (spX X.K n C F) (WE W) (TAof X.K ma)) (gName z)) (ts := fun a cls d => tAsg (tVar i) (gName j)) hx hs hfr hN hi hln hC hCl hmt (fun W pn xe tk _ => ?_) (fun a oe cls d pn hz hf => ?_)) ?_
  · exact pss_one (ps_set (X := X.tr pn xe) hN hz hzL (pe_callSG (X := X.tr pn xe) Gf hr hg hm hk hb (fun σ => passAt tk σ) (ha pn xe).run hdb he hpl) hsw (.inr hzl))
  · exact pss_one (ps_set (X := X.suite a ((a, oe) :: pn)) hN hj hy (pe_var hi hv hd1 hd2) hsa (.inr hyl))
  · rintro D σ H ⟨G, loc, ρ, kk, R, q, l1, l2, l3, l4⟩
    refine ⟨G, loc, ρ, R, am ρ _ _ (fun ds ρ1 q1 vs H1 R1 g1 d1 => ?_) q⟩
    refine ⟨Fb G.fb ρ1 loc, ds, R1.fbE, d1, q1.1.1, mF _ _ _ _ _ (fun b d q2 v H2 m2 d2 _ => ?_) (fun w q2 v dd H2 m2 fl hn e2 => ?_) q1.2⟩
    · exact l1 _ _ _ _ ((R1.more m2).put z d2) ((g1.trans (more_grow m2)).trans put_grow) q2
    · refine ⟨hany, fun a na => ?_⟩
      have hlt : i < σ.length := by rw [R1.len]; exact q1.1.2
      refine ⟨.ref a, List.getElem?_set_self hlt, ?_⟩
      obtain ⟨R3, g3⟩ := kept_rep R1 hij m2 na fl hn e2 T.at_
      exact l1 _ _ _ _ R3 (g1.trans g3) q2
end
/-! ### len(set(texts)) -/
def mLenSet (m : M D) : M D := fun ρ k => m ρ fun d ρ1 => match d with
  | .list xs => ∃ zs, strsOf xs = some zs ∧ zs.length ≤ 4000 ∧ k (.int ((dedS zs).length : Nat)) ρ1
  | _ => False
section
variable {X : Cx} {p pos p2 pos2 : Pos} {e : Expr} {m : M D}
theorem em_lenSet (hc : X.calm = true) (hm : X.mg "len" = none) (hm2 : X.mg "set" = none) (ha : EM X e m) (hg : Gl X "len" := by rfl) (hg2 : Gl X "set" := by rfl)
    (he : starEach [.Call (.Name "set" p2) [e] [] pos2] X.env = (false, eval (.Call (.Name "set" p2) [e] [] pos2) X.env) :: starEach [] X.env := by rfl) (he2 : starEach [e] X.env = (false, eval e X.env) :: starEach [] X.env := by rfl)
    (hpl : (backTo pos (starEach [] X.env)).any (·.1) = false := by rfl) (hpl2 : (backTo pos2 (starEach [] X.env)).any (·.1) = false := by rfl) :
    EM X (.Call (.Name "len" p) [.Call (.Name "set" p2) [e] [] pos2] [] pos) (mLenSet m) := by
  have mono : Mono (mLenSet m) := fun ρ k k' w q => ha.mono ρ _ _ (fun d ρ1 q1 => by
    cases d <;> first | exact q1.elim | skip
    obtain ⟨zs, h1, h2, h3⟩ := q1
    exact ⟨zs, h1, h2, w _ _ h3⟩) q
  refine ⟨mono, pe_weak (pe_callB cr_lenW hg hm (by decide +kernel) (pa_cons (pe_callTy (cr_setW hc) hg2 hm2 (by decide +kernel) (pa_cons ha.run pa_nil he2) (by decide) (by decide) he2 hpl2) pa_nil he) (by decide) (by decide) he hpl) ?_⟩
  rintro σ H Q ⟨G, loc, ρ, R, q⟩
  refine ⟨G, loc, ρ, R, ha.mono ρ _ _ (fun d ρ1 q1 v H1 R1 g1 d1 => ?_) q⟩
  cases d <;> first | exact (show False from q1).elim | skip
  obtain ⟨zs, hz, few, q2⟩ := q1
  rw [strsOf_eq hz] at d1
  obtain ⟨l, vs, rfl, e1, n1, dd⟩ := d1.sql
  rw [DxAll.strs dd] at e1
  refine ⟨l, zs.map V.str, zs.map Sum.inr, rfl, .inl (.inl e1), by rw [List.map_map, List.map_map]; rfl, by rw [List.length_map]; show zs.length + 1 < 4096; omega, fun a hD => ?_⟩
  obtain ⟨h0, np, RD, gD⟩ := new_any (o := SetWO X.w a (dedK (zs.map Sum.inr))) R1 hD
  have bs := R.bwS
  refine ⟨a, dedS zs, rfl, by rw [upd_same, dedK_inr], ?_⟩
  obtain ⟨R3, n3⟩ := RD.unplus bs np
  have g3 : Grow (Fb G.fb ρ1 loc) (Fb G.fb ρ1 loc) H1 (upd H1 a (SetWO X.w a (dedK (zs.map Sum.inr)))) := gD.weak fun b z => by
    rcases z with z | z
    · exact .inl (.inl z)
    · exact .inr z
  exact q2 _ _ R3 (g1.trans g3) (.int _)
end
end DL

/-! x in d, where d is a dict of texts to ints. -/
namespace DL
open PySem PySem.Spec PyProof.Rows L2
def dinD : P2 := fun a b k => ∃ (l : List (Str × Int)) (x : Str), a = .str x ∧ b = .dict (dsiD l) ∧ k (.bool (l.find? fun kv => decide (kv.1 = x)).isSome)
theorem pm_din (a b : D) : Pm1 (dinD a b) := fun k k' w ⟨l, x, e1, e2, q⟩ => ⟨l, x, e1, e2, w _ q⟩
theorem te_din {K : PySem.W.Frag} {ma mb : M D} (mba : Mono ma) (mbb : Mono mb) {σ : L2.St} {H : Hp} {Q : VK} (h : TEof K (mBin dinD ma mb) σ H Q) : tDIn (TEof K ma) (TEof K mb) σ H Q := by
  obtain ⟨G, loc, ρ, R, q⟩ := h
  refine ⟨G, loc, ρ, R, mba ρ _ _ (fun a ρ1 q1 v H1 R1 g1 d1 => ?_) q⟩
  refine ⟨G, loc, ρ1, R1, mbb ρ1 _ _ (fun b ρ2 q2 u H2 R2 g2 d2 => ?_) q1⟩
  obtain ⟨l, x, rfl, rfl, q3⟩ := q2
  cases d1
  obtain ⟨p, rfl, e1, _⟩ := d2.dsiA
  refine ⟨p, valV (dsiV l) (Sum.inr x : Key), rfl, .inl ⟨_, Sum.inr x, .inl e1, rfl, rfl⟩, ?_⟩
  have e2 : (valV (dsiV l) (Sum.inr x : Key)).isSome = (l.find? fun kv => decide (kv.1 = x)).isSome := by
    rw [dsiV_valO]
    cases l.find? fun kv => decide (kv.1 = x) <;> rfl
  rw [e2]
  exact q3 _ H2 R2 (g1.trans g2) (.bl _)
theorem em_din {X : Cx} {a b : Expr} {ma mb : M D} {pos : Pos} (hu : X.A.units + 1 < cLine) (ha : EM X a ma) (hb : EM X b mb) (h1 : behindInMarks .In b = false := by rfl) : EM X (.Compare a [.In] [b] pos) (mBin dinD ma mb) :=
  ⟨mono_bin pm_din ha.mono hb.mono, pe_weak (pe_cmp (pc_din hu ha.run hb.run) h1) fun σ H Q h => te_din ha.mono hb.mono h⟩
theorem tm_din {X : Cx} {a b : Expr} {ma mb : M D} {pos : Pos} (hu : X.A.units + 1 < cLine) (ha : EM X a ma) (hb : EM X b mb) (h1 : behindInMarks .In b = false := by rfl) : TM X (.Compare a [.In] [b] pos) (mTest (mBin dinD ma mb)) := by
  have mm : Mono (mBin dinD ma mb) := mono_bin pm_din ha.mono hb.mono
  exact ⟨mono_test mm, pt_weak (pt_cmp (pc_din hu ha.run hb.run) h1) fun σ H Q h => te_din ha.mono hb.mono (tt_te mm h)⟩
/-- a new list by an if -/
theorem nm_if {X : Cx} {c a b : Expr} {m : M Bool} {x y : M (List D)} {pos : Pos} (h : TM X c m) (ha : NM X a x) (hb : NM X b y) : NM X (.IfExp c a b pos) (mIf m x y) := by
  refine ⟨mono_if h.mono ha.mono hb.mono, pe_weak (pe_ifExp h.run ha.run hb.run) ?_⟩
  rintro σ H Q ⟨G, loc, ρ, R, q⟩
  refine ⟨G, loc, ρ, R, h.mono ρ _ _ (fun c ρ1 q1 H1 R1 g1 => ?_) q⟩
  cases c with
  | true =>
    rw [if_pos rfl] at q1 ⊢
    exact ⟨G, loc, ρ1, R1, ha.mono ρ1 _ _ (fun d ρ2 q2 p vs H2 a1 a2 a3 a4 a5 a6 => q2 p vs H2 a1 a2 a3 a4 (g1.trans a5) a6) q1⟩
  | false =>
    rw [if_neg Bool.false_ne_true] at q1 ⊢
    exact ⟨G, loc, ρ1, R1, hb.mono ρ1 _ _ (fun d ρ2 q2 p vs H2 a1 a2 a3 a4 a5 a6 => q2 p vs H2 a1 a2 a3 a4 (g1.trans a5) a6) q1⟩
end DL

/-! Owned lists: remove over data, compared with [], walked while they stay owned. -/
namespace DL
open PySem PySem.Spec PyProof.Rows L2
def rRemD (K : PySem.W.Frag) : V → List V → Hp → VK → Prop := fun x xs H Q => ∃ (l : Addr) (ys : List V) (ds : List D) (y : V) (d : D) (j : Nat), x = .ref l ∧ xs = [y] ∧ H l = some (.lst ys) ∧ DpAll K H ys ds ∧ Dp K H y d ∧ PyData.canLayAll0 ds = true ∧ d.canLay0 = true ∧ min (PyData.depthAll ds) d.depth ≤ 60 ∧ SeqAt.dataPlace ds d = some j ∧ Q .non (upd H l (.lst (ys.eraseIdx j)))
theorem vals_erase : ∀ {xs : List V} {us : List Value} (j : Nat), Vals xs us → Vals (xs.eraseIdx j) (us.eraseIdx j)
  | [], _, _, h => by cases h; exact .nil
  | x :: xs, _, 0, h => by
    cases h with
    | cons a b => exact b
  | x :: xs, _, j + 1, h => by
    cases h with
    | cons a b => exact .cons a (vals_erase j b)
theorem plainAll_of {ds : List D} (h : PyData.canLayAll0 ds = true) : PyData.plainAll ds = true := by
  have := PyData.plain_of_canLay0 (.list ds) h
  exact this
theorem mt_removeD {X : Cx} (hu : X.A.units + 64 < cLine) : MtM X "list.remove" (rRemD X.K) := by
  intro pins s σ H x xs v us Q I rx r h
  obtain ⟨l, ys, ds, y, d, j, rfl, rfl, hl, hds, hd, c1, c2, c3, hp, q⟩ := h
  obtain ⟨u, rfl, ru⟩ := vals1 r
  cases rx
  obtain ⟨lz, its, n, rv, ll, e⟩ := I.lstM hl
  obtain ⟨bs, r2⟩ := Dp.reads I d y u hd ru
  obtain ⟨as, r1⟩ := Dp.reads I (.list ds) (.ref l) (.ref l) (.lst (.inl (.inl hl)) hds) rfl
  cases r1
  rename_i ol vs m as g1 g2 g3 g4
  rw [e] at g3
  cases g3
  cases g2
  have hlist : s.heap.IsList l its.toArray := ⟨_, e, rfl, n, rfl⟩
  refine SeqAt.remove_list_data hlist g4 r2 (plainAll_of c1) (PyData.plain_of_canLay0 _ c2) (by omega) hp (by rw [List.size_toArray, ← ll]; exact lz) ?_
  have at_ := Heap.get?_update_self (h := s.heap) (a := l) (Obj.mapSeq fun (zs : Array Value) => zs.eraseIdxIfInBounds j) e rfl
  have er : (its.toArray.eraseIdxIfInBounds j) = (its.eraseIdx j).toArray := by simp
  refine ⟨.non, _, I.write (x := l) (e := l) (o := .lst (ys.eraseIdx j)) (t' := s.toks) (by rw [hl]; trivial) (.inl rfl) (fun b o hb hg => (Heap.get?_update_ne _ _ _ _ hb).trans hg) ⟨_, at_⟩ ?_, rfl, q⟩
  have at2 : ∃ n', (s.heap.update l (Obj.mapSeq fun zs => zs.eraseIdxIfInBounds j)).get? l = some { cls := Value.type "list", data := Data.seq (its.eraseIdx j).toArray n' } := by
    rw [← er]
    exact ⟨_, at_⟩
  obtain ⟨n', at3⟩ := at2
  exact ⟨Nat.le_trans (List.length_eraseIdx_le ys j) lz, its.eraseIdx j, n', vals_erase j rv, at3⟩
end DL

/-! f-strings; list(range(n)). -/
namespace DL
open PySem PySem.Spec PyProof.Rows L2
def mFmt (m : M D) : M D := fun ρ k => m ρ fun d ρ1 => match d with
  | .str y => y.length ≤ sizeLine ∧ k (.str y) ρ1
  | .int i => i.natAbs.log2 < 1920 ∧ k (.str (toString i)) ρ1
  | _ => False
def mJoinF : List (M D) → Str → M D
  | [], acc => fun ρ k => k (.str acc) ρ
  | m :: ms, acc => fun ρ k => m ρ fun d ρ1 => match d with
    | .str y => (acc ++ y).length ≤ sizeLine ∧ mJoinF ms (acc ++ y) ρ1 k
    | _ => False
theorem mono_joinF : ∀ {ms : List (M D)} {acc : Str}, (∀ m ∈ ms, Mono m) → Mono (mJoinF ms acc)
  | [], acc, _ => fun ρ k k' w q => w _ _ q
  | m :: ms, acc, h => fun ρ k k' w q => h m (by simp) ρ _ _ (fun d ρ1 q1 => by
    cases d <;> first | exact (show False from q1).elim | skip
    exact ⟨q1.1, mono_joinF (fun m' h' => h m' (by simp [h'])) ρ1 _ _ w q1.2⟩) q
inductive FJ (X : Cx) : List Expr → List (M D) → Prop where
  | nil : FJ X [] []
  | cons {e : Expr} {m : M D} {es : List Expr} {ms : List (M D)} (h : EM X e m) (r : FJ X es ms) : FJ X (e :: es) (m :: ms)
theorem FJ.mono {X : Cx} {es : List Expr} {ms : List (M D)} (h : FJ X es ms) : ∀ m ∈ ms, Mono m := by
  induction h with
  | nil => intro m hm; cases hm
  | cons h r ih =>
    intro m hm
    rcases List.mem_cons.mp hm with rfl | hm
    · exact h.mono
    · exact ih m hm
theorem FJ.pj {X : Cx} {es : List Expr} {ms : List (M D)} (h : FJ X es ms) : PJ X es (ms.map (TEof X.K)) := by
  induction h with
  | nil => exact .nil
  | cons h r ih => exact .cons h.run ih
theorem tjs_of {K : PySem.W.Frag} {G : Fr} {loc : Nat → Addr} {σ : L2.St} : ∀ (ms : List (M D)), (∀ m ∈ ms, Mono m) → ∀ (acc : Str) (ρ : List Slot) (H : Hp) (Q : Str → Hp → Prop), Rep K G ρ loc σ H →
    mJoinF ms acc ρ (fun d ρ' => ∀ y H', d = .str y → Rep K G ρ' loc σ H' → Grow (Fb G.fb ρ loc) (Fb G.fb ρ' loc) H H' → Q y H') → tJs (ms.map (TEof K)) acc σ H Q
  | [], _, acc, ρ, H, Q, R, q => q acc H rfl R Grow.refl
  | m :: ms, hm, acc, ρ, H, Q, R, q => by
    refine ⟨G, loc, ρ, R, hm m (by simp) ρ _ _ (fun d ρ1 q1 v H1 R1 g1 d1 => ?_) q⟩
    cases d <;> first | exact (show False from q1).elim | skip
    cases d1
    obtain ⟨z, q2⟩ := q1
    refine ⟨_, rfl, z, tjs_of ms (fun m' h' => hm m' (by simp [h'])) _ ρ1 H1 Q R1 (mono_joinF (fun m' h' => hm m' (by simp [h'])) ρ1 _ _ (fun d ρ2 q3 y H2 e R2 g2 => q3 y H2 e R2 (g1.trans g2)) q2)⟩
section
variable {X : Cx} {e v1 v2 : Expr} {rest : List Expr} {m : M D} {ms : List (M D)} {pos : Pos}
theorem em_fmt (h : EM X e m) : EM X (.FormattedValue e (-1) none pos) (mFmt m) := by
  refine ⟨fun ρ k k' w q => h.mono ρ _ _ (fun d ρ1 q1 => by
    cases d <;> first | exact (show False from q1).elim | exact ⟨q1.1, w _ _ q1.2⟩) q, pe_weak (pe_fmt h.run) ?_⟩
  rintro σ H Q ⟨G, loc, ρ, R, q⟩
  refine ⟨G, loc, ρ, R, h.mono ρ _ _ (fun d ρ1 q1 v H1 R1 g1 d1 => ?_) q⟩
  cases d <;> first | exact (show False from q1).elim | skip
  · cases d1
    exact .inr ⟨_, rfl, q1.1, q1.2 _ H1 R1 g1 (.str _)⟩
  · cases d1
    exact .inl ⟨_, rfl, q1.1, q1.2 _ H1 R1 g1 (.str _)⟩
theorem em_joinF (h : FJ X (v1 :: v2 :: rest) ms) : EM X (.JoinedStr (v1 :: v2 :: rest) pos) (mJoinF ms Str.empty) := by
  refine ⟨mono_joinF h.mono, pe_weak (pe_joined h.pj) ?_⟩
  rintro σ H Q ⟨G, loc, ρ, R, q⟩
  refine tjs_of ms h.mono _ ρ H _ R (mono_joinF h.mono ρ _ _ (fun d ρ1 q1 y H1 e R1 g1 => ?_) q)
  subst e
  exact q1 _ H1 R1 g1 (.str _)
end
def mListRng (m : M (List D)) : M (List D) := fun ρ k => m ρ fun ds ρ1 => match ds with
  | [.int j] => -(2 ^ 62) ≤ j ∧ j < 2 ^ 24 ∧ k (rngD 0 j.toNat) ρ1
  | _ => False
theorem cr_range1 {X : Cx} : CallR X (.type "range") (fun vs H Q => ∃ j, vs = [V.int j] ∧ ∀ p, H p = none → Q (.ref p) (upd H p (.rng 0 j))) := by
  intro pins s σ H vs us Q I r h
  obtain ⟨j, rfl, q⟩ := h
  obtain ⟨u1, rfl, rj⟩ := vals1 r
  obtain ⟨t, rfl⟩ := rj
  refine call_range_1 ⟨.ref s.heap.objs.size, upd H s.heap.objs.size (.rng 0 j), I.laid (t' := s.toks + 1 + 1) (fun b o e => Heap.get?_push_of_some _ e) (Nat.le_refl _) ?_, rfl, q _ (I.hok.fresh (Nat.le_refl _))⟩
  exact ⟨s.toks, t, s.toks + 1, Heap.get?_push_size _ rfl⟩
theorem vals_rng : ∀ (n : Nat) (acc : List Value) (lo : Nat), acc.length = n → (∀ j v, acc[j]? = some v → ∃ t : Tok, v = Value.int ((lo + j : Nat) : Int) t) → Vals ((List.range' lo n).map fun i => V.int (i : Nat)) acc
  | 0, acc, lo, h, _ => by
    cases acc with
    | nil => exact .nil
    | cons _ _ => cases h
  | n + 1, acc, lo, h, f => by
    cases acc with
    | nil => cases h
    | cons v acc =>
      rw [List.range'_succ, List.map_cons]
      obtain ⟨t, e⟩ := f 0 v rfl
      refine .cons ⟨t, by simpa using e⟩ (vals_rng n acc (lo + 1) (by simpa using h) fun j v hj => ?_)
      obtain ⟨t, e⟩ := f (j + 1) v (by simpa using hj)
      exact ⟨t, by rw [e]; congr 1; omega⟩
theorem cr_listRng {X : Cx} (hc : X.calm = true) : CallR X (.type "list") (fun vs H Q => ∃ (p : Addr) (j : Int), vs = [V.ref p] ∧ H p = some (.rng 0 j) ∧ -(2 ^ 62) ≤ j ∧ j < 2 ^ 24 ∧ ∀ l, H l = none → Q (.ref l) (upd H l (.lst ((List.range' 0 j.toNat).map fun i => V.int (i : Nat))))) := by
  intro pins s σ H vs us Q I r h
  obtain ⟨p, j, rfl, hp, h1, h2, q⟩ := h
  obtain ⟨u1, rfl, rj⟩ := vals1 r
  obtain rfl : u1 = Value.ref p := rj
  obtain ⟨t, u, v, e⟩ := I.hok p _ hp
  have hn : Builtin.Range.rangeSize 0 j 1 = (j.toNat : Int) := by rw [rangeSize_nat]; congr 2; omega
  refine call_list_range (n := j.toNat) (I.ok.hd hc) (show IsRange s.heap p 0 j 1 t u v from e) ?_ hn (by omega) fun h' tk acc' c' kp e' it => ?_
  · exact small_one (by decide) (by decide) (by omega) (by omega)
  · obtain ⟨i1, i2⟩ := it
    refine ⟨.ref s.heap.objs.size, _, I.laid (t' := tk) kp (Nat.le_refl _) (show ObjOk X.prog X.w _ h' _ (.lst ((List.range' 0 j.toNat).map fun i => V.int (i : Nat))) from ⟨?_, acc'.toList, c', vals_rng _ _ _ (by simpa using i1) fun k v hk => ?_, by simpa using e'⟩), rfl, q _ (I.hok.fresh (Nat.le_refl _))⟩
    · have := line63
      rw [List.length_map, List.length_range']
      have : 2 ^ 24 ≤ sizeLine := by decide
      omega
    · obtain ⟨t, e⟩ := i2 k v (by simpa using hk)
      exact ⟨t, by rw [e]; congr 1; omega⟩
section
variable {X : Cx} {p p2 pos pos2 : Pos} {a : Expr} {ms : M (List D)}
theorem nm_listRng (hc : X.calm = true) (hm : X.mg "list" = none) (hm2 : X.mg "range" = none) (ha : AM X [a] ms) (hg : Gl X "list" := by rfl) (hg2 : Gl X "range" := by rfl)
    (he : starEach [.Call (.Name "range" p2) [a] [] pos2] X.env = (false, eval (.Call (.Name "range" p2) [a] [] pos2) X.env) :: starEach [] X.env := by rfl) (hpl : (backTo pos (starEach [] X.env)).any (·.1) = false := by rfl)
    (he2 : starEach [a] X.env = (false, eval a X.env) :: starEach [] X.env := by rfl) (hpl2 : (backTo pos2 (starEach [] X.env)).any (·.1) = false := by rfl) :
    NM X (.Call (.Name "list" p) [.Call (.Name "range" p2) [a] [] pos2] [] pos) (mListRng ms) := by
  refine ⟨fun ρ k k' w q => ha.mono ρ _ _ (fun ds ρ1 q1 => ?_) q, pe_weak (pe_callTy (cr_listRng hc) hg hm PyProof.Rows.boot_list (pa_cons (pe_callTy cr_range1 hg2 hm2 PyProof.Rows.boot_range ha.run (he := he2) (hpl := hpl2)) pa_nil he) (he := he) (hpl := hpl)) ?_⟩
  · split at q1
    · exact ⟨q1.1, q1.2.1, w _ _ q1.2.2⟩
    · exact q1.elim
  rintro σ H Q ⟨G, loc, ρ, R, q⟩
  refine ⟨G, loc, ρ, R, ha.mono ρ _ _ (fun ds ρ1 q1 vs H1 R1 g1 d1 => ?_) q⟩
  split at q1
  · obtain ⟨v, rfl, dv⟩ := dx_one d1
    cases dv
    refine ⟨_, rfl, fun r hr => ?_⟩
    refine ⟨r, _, rfl, upd_same, q1.1, q1.2.1, fun l hl => ?_⟩
    rename_i _ j
    have m2 := upd_more (o := .rng 0 j) hr
    have R2 := R1.more m2
    obtain ⟨a1, a2, a3, a4, a5, a6⟩ := new_list R2 (xs := (List.range' 0 j.toNat).map fun i => V.int (i : Nat)) (ds := rngD 0 j.toNat) (by
      unfold rngD
      rw [List.range_eq_range']
      generalize List.range' 0 j.toNat = l0
      induction l0 with
      | nil => exact .nil
      | cons i l0 ih => rw [List.map_cons, List.map_cons]; exact .cons (by rw [Int.zero_add]; exact .int _) ih) hl
    exact q1.2.2 l _ _ a1 a2 a3 a4 (g1.trans ((more_grow m2).trans a5)) a6
  · exact q1.elim
end
end DL

/-! A dict of one's own, in a raw slot. -/
namespace DL
open PySem PySem.Spec PyProof.Rows L2
section
variable {K : PySem.W.Frag} {G : Fr} {ρ : List Slot} {loc : Nat → Addr} {σ : L2.St} {H : Hp} {i : Nat} {p : Addr} {o o' : HO} {fs fs' : List (V × D)}
theorem raw_has {v : V} {a : Addr} : (Slot.raw v [(p, o)] fs).has a ↔ a = p := by
  constructor
  · rintro ⟨u, h⟩
    have := List.mem_singleton.mp h
    cases this; rfl
  · rintro rfl
    exact ⟨o, by simp⟩
theorem Rep.putRaw (R : Rep K G ρ loc σ H) (hi : i < ρ.length) (hp : H p = none) :
    Rep K G (ρ.set i (.raw (.ref p) [(p, o)] [])) loc (σ.set i (some (.ref p))) (upd H p o) ∧ Grow (Fb G.fb ρ loc) (Fb G.fb (ρ.set i (.raw (.ref p) [(p, o)] [])) loc) H (upd H p o) := by
  have up := upd_more (o := o) hp
  have gt : ∀ j s, (ρ.set i (.raw (.ref p) [(p, o)] []))[j]? = some s → (j = i ∧ s = .raw (.ref p) [(p, o)] []) ∨ (j ≠ i ∧ ρ[j]? = some s) := fun j s q => by
    by_cases hj : i = j
    · subst hj
      rw [List.getElem?_set_self hi] at q
      exact .inl ⟨rfl, (Option.some.inj q).symm⟩
    · rw [List.getElem?_set_ne hj] at q; exact .inr ⟨Ne.symm hj, q⟩
  have sub : ∀ b, Fb G.fb (ρ.set i (.raw (.ref p) [(p, o)] [])) loc b → Fb G.fb ρ loc b ∨ b = p := fun b z => by
    rcases z with z | ⟨j, s, q, m⟩ | ⟨j, c, ds, q, l⟩
    · exact .inl (.inl z)
    · rcases gt j _ q with ⟨_, rfl⟩ | ⟨_, q⟩
      · exact .inr (raw_has.mp m)
      · exact .inl (.inr (.inl ⟨j, s, q, m⟩))
    · rcases gt j _ q with ⟨_, q⟩ | ⟨_, q⟩
      · cases q
      · exact .inl (.inr (.inr ⟨j, c, ds, q, l⟩))
  have gr : Grow (Fb G.fb ρ loc) (Fb G.fb (ρ.set i (.raw (.ref p) [(p, o)] [])) loc) H (upd H p o) := fun b u q n => ⟨up _ _ q, fun z => by
    rcases sub b z with z | z
    · exact n z
    · rw [z, hp] at q; cases q⟩
  have np : ∀ b u, H b = some u → b ≠ p := fun b u e z => by rw [z, hp] at e; cases e
  have ol : ∀ j c ds, ρ[j]? = some (.own c ds) → loc j ≠ p := fun j c ds q => by
    obtain ⟨_, vs, h, _⟩ := R.own j c ds q
    exact np _ _ h
  have rw' : ∀ (j : Nat) (s : Slot) (a : Addr), ρ[j]? = some s → s.has a → a ≠ p := fun j s a q m => by
    obtain ⟨⟨u, h⟩, _⟩ := R.raw.here ⟨j, s, q, m⟩
    exact np _ _ h
  have sg : ∀ j, j ≠ i → (σ.set i (some (.ref p)))[j]? = σ[j]? := fun j hj => by rw [List.getElem?_set_ne (Ne.symm hj)]
  refine ⟨⟨by rw [List.length_set, List.length_set]; exact R.len, fun j d q => ?_, fun j c ds q => ?_, fun j l b c ds es q q' z => ?_, fun j ds q => ?_, fun j ds q => ?_, fun b u q n => up _ _ (R.ext b u q n), fun b q => ?_, R.bwS, ⟨fun j v cs fs q => ?_, fun j Ω q => ?_, fun a z j c ds q y => ?_, fun j l s s' a q q' m m' => ?_⟩⟩, gr⟩
  · rcases gt j _ q with ⟨_, q⟩ | ⟨hj, q⟩
    · cases q
    · obtain ⟨v, h1, h2⟩ := R.dat j d q
      exact ⟨v, by rw [sg j hj]; exact h1, h2.g gr⟩
  · rcases gt j _ q with ⟨_, q⟩ | ⟨hj, q⟩
    · cases q
    · obtain ⟨h1, vs, h2, h3⟩ := R.own j c ds q
      exact ⟨by rw [sg j hj]; exact h1, vs, up _ _ h2, h3.g gr⟩
  · rcases gt j _ q with ⟨_, q⟩ | ⟨_, q⟩
    · cases q
    · rcases gt l _ q' with ⟨_, q'⟩ | ⟨_, q'⟩
      · cases q'
      · exact R.apart j l b c ds es q q' z
  · rcases gt j _ q with ⟨_, q⟩ | ⟨_, q⟩
    · cases q
    · exact R.brw j ds q
  · rcases gt j _ q with ⟨_, q⟩ | ⟨_, q⟩
    · cases q
    · exact R.new j ds q
  · obtain ⟨u, e⟩ := R.fbS b q
    exact ⟨u, up _ _ e⟩
  · rcases gt j _ q with ⟨hj, q2⟩ | ⟨hj, q⟩
    · cases q2
      rw [hj]
      refine ⟨by rw [List.getElem?_set_self (by rw [R.len]; exact hi)], by simp, fun r hr => ?_, fun r hr => by cases hr⟩
      cases List.mem_singleton.mp hr
      exact ⟨upd_same, .inl ⟨R.h0 hp, fun z => by
        obtain ⟨u, e⟩ := R.fbS p z
        rw [hp] at e; cases e⟩⟩
    · obtain ⟨a, b, c, d⟩ := R.raw.at_ j v cs fs q
      exact ⟨by rw [sg j hj]; exact a, b, fun r hr => ⟨up _ _ (c r hr).1, (c r hr).2⟩, fun r hr => (d r hr).g gr⟩
  · rcases gt j _ q with ⟨_, q⟩ | ⟨hj, q⟩
    · cases q
    · obtain ⟨a, b⟩ := R.raw.wat j Ω q
      exact ⟨a, fun r hr => ⟨(b r hr).1.g (fun o e => up _ _ e) gr, (b r hr).2⟩⟩
  · rcases gt j _ q with ⟨_, q⟩ | ⟨_, q⟩
    · cases q
    · obtain ⟨l, s, q2, m⟩ := z
      rcases gt l _ q2 with ⟨_, rfl⟩ | ⟨_, q2⟩
      · exact ol j c ds q (y.trans (raw_has.mp m))
      · exact R.raw.own a ⟨l, s, q2, m⟩ j c ds q y
  · rcases gt j _ q with ⟨hi', rfl⟩ | ⟨_, q⟩
    · rcases gt l _ q' with ⟨hj, rfl⟩ | ⟨_, q'⟩
      · rw [hi', hj]
      · exact (rw' l s' a q' m' (raw_has.mp m)).elim
    · rcases gt l _ q' with ⟨_, rfl⟩ | ⟨_, q'⟩
      · exact (rw' j s a q m (raw_has.mp m')).elim
      · exact R.raw.two j l s s' a q q' m m'
theorem Rep.wrRaw (R : Rep K G ρ loc σ H) (e : ρ[i]? = some (.raw (.ref p) [(p, o)] fs)) (hf : ∀ q ∈ fs', Dx K (upd H p o') (Fb G.fb ρ loc) q.1 q.2) :
    Rep K G (ρ.set i (.raw (.ref p) [(p, o')] fs')) loc σ (upd H p o') ∧ Grow (Fb G.fb ρ loc) (Fb G.fb (ρ.set i (.raw (.ref p) [(p, o')] fs')) loc) H (upd H p o') := by
  have hi : i < ρ.length := (List.getElem?_eq_some_iff.mp e).1
  have hR : Rw ρ p := ⟨i, _, e, raw_has.mpr rfl⟩
  have fp : Fb G.fb ρ loc p := .inr (.inl hR)
  have gt : ∀ j s, (ρ.set i (.raw (.ref p) [(p, o')] fs'))[j]? = some s → (j = i ∧ s = .raw (.ref p) [(p, o')] fs') ∨ (j ≠ i ∧ ρ[j]? = some s) := fun j s q => by
    by_cases hj : i = j
    · subst hj
      rw [List.getElem?_set_self hi] at q
      exact .inl ⟨rfl, (Option.some.inj q).symm⟩
    · rw [List.getElem?_set_ne hj] at q; exact .inr ⟨Ne.symm hj, q⟩
  have sub : ∀ b, Fb G.fb (ρ.set i (.raw (.ref p) [(p, o')] fs')) loc b → Fb G.fb ρ loc b := fun b z => by
    rcases z with z | ⟨j, s, q, m⟩ | ⟨j, c, ds, q, l⟩
    · exact .inl z
    · rcases gt j _ q with ⟨_, rfl⟩ | ⟨_, q⟩
      · rw [raw_has.mp m]; exact fp
      · exact .inr (.inl ⟨j, s, q, m⟩)
    · rcases gt j _ q with ⟨_, q⟩ | ⟨_, q⟩
      · cases q
      · exact .inr (.inr ⟨j, c, ds, q, l⟩)
  have gr : Grow (Fb G.fb ρ loc) (Fb G.fb (ρ.set i (.raw (.ref p) [(p, o')] fs')) loc) H (upd H p o') := fun b u q n => ⟨by rw [upd_ne fun z => n (by rw [z]; exact fp)]; exact q, fun z => n (sub b z)⟩
  have keep : ∀ b u, b ≠ p → H b = some u → upd H p o' b = some u := fun b u n q => by rw [upd_ne n]; exact q
  have ol : ∀ j c ds, ρ[j]? = some (.own c ds) → loc j ≠ p := fun j c ds q => R.raw.own p hR j c ds q
  have rw' : ∀ (j : Nat) (s : Slot) (a : Addr), j ≠ i → ρ[j]? = some s → s.has a → a ≠ p := fun j s a hj q m z => hj (R.raw.two j i s _ a q e m (raw_has.mpr z))
  have mine : G.Mine p := (R.raw.here hR).2
  refine ⟨⟨by rw [List.length_set]; exact R.len, fun j d q => ?_, fun j c ds q => ?_, fun j l b c ds es q q' z => ?_, fun j ds q => ?_, fun j ds q => ?_, fun b u q n => ?_, fun b q => ?_, R.bwS, ⟨fun j v cs fs q => ?_, fun j Ω q => ?_, fun a z j c ds q y => ?_, fun j l s s' a q q' m m' => ?_⟩⟩, gr⟩
  · rcases gt j _ q with ⟨_, q⟩ | ⟨hj, q⟩
    · cases q
    · obtain ⟨v, h1, h2⟩ := R.dat j d q
      exact ⟨v, h1, h2.g gr⟩
  · rcases gt j _ q with ⟨_, q⟩ | ⟨hj, q⟩
    · cases q
    · obtain ⟨h1, vs, h2, h3⟩ := R.own j c ds q
      exact ⟨h1, vs, keep _ _ (ol j c ds q) h2, h3.g gr⟩
  · rcases gt j _ q with ⟨_, q⟩ | ⟨_, q⟩
    · cases q
    · rcases gt l _ q' with ⟨_, q'⟩ | ⟨_, q'⟩
      · cases q'
      · exact R.apart j l b c ds es q q' z
  · rcases gt j _ q with ⟨_, q⟩ | ⟨_, q⟩
    · cases q
    · exact R.brw j ds q
  · rcases gt j _ q with ⟨_, q⟩ | ⟨_, q⟩
    · cases q
    · exact R.new j ds q
  · refine keep b u (fun z => ?_) (R.ext b u q n)
    subst z
    rcases mine with z | z
    · rw [z.1] at q; cases q
    · exact n z
  · by_cases hb : b = p
    · subst hb; exact ⟨_, upd_same⟩
    · obtain ⟨u, e⟩ := R.fbS b q
      exact ⟨u, keep _ _ hb e⟩
  · rcases gt j _ q with ⟨hj, q2⟩ | ⟨hj, q⟩
    · cases q2
      rw [hj]
      refine ⟨(R.raw.at_ _ _ _ _ e).1, by simp, fun r hr => ?_, fun r hr => (hf r hr).weak sub⟩
      cases List.mem_singleton.mp hr
      exact ⟨upd_same, mine⟩
    · obtain ⟨a, b, c, d⟩ := R.raw.at_ j v cs fs q
      exact ⟨a, b, fun r hr => ⟨keep _ _ (rw' j _ r.1 hj q ⟨r.2, hr⟩) (c r hr).1, (c r hr).2⟩, fun r hr => (d r hr).g gr⟩
  · rcases gt j _ q with ⟨_, q⟩ | ⟨hj, q⟩
    · cases q
    · obtain ⟨a, b⟩ := R.raw.wat j Ω q
      exact ⟨a, fun r hr => ⟨(b r hr).1.g (fun o e => keep _ _ (rw' j _ r.1 hj q ⟨r.2, hr⟩) e) gr, (b r hr).2⟩⟩
  · rcases gt j _ q with ⟨_, q⟩ | ⟨_, q⟩
    · cases q
    · obtain ⟨l, s, q2, m⟩ := z
      rcases gt l _ q2 with ⟨_, rfl⟩ | ⟨_, q2⟩
      · exact ol j c ds q (y.trans (raw_has.mp m))
      · exact R.raw.own a ⟨l, s, q2, m⟩ j c ds q y
  · rcases gt j _ q with ⟨hi', rfl⟩ | ⟨hj, q⟩
    · rcases gt l _ q' with ⟨hj, rfl⟩ | ⟨hl, q'⟩
      · rw [hi', hj]
      · exact (rw' l s' a hl q' m' (raw_has.mp m)).elim
    · rcases gt l _ q' with ⟨_, rfl⟩ | ⟨_, q'⟩
      · exact (rw' j s a hj q m (raw_has.mp m')).elim
      · exact R.raw.two j l s s' a q q' m m'
end
end DL

/-! A dict with keys that are tuples in tuples: {}, setdefault, len. -/
namespace DL
open PySem PySem.Spec PyProof.Rows L2
mutual
def nk : D → Option NestedKey
  | .none => some .none
  | .int i => some (.num i)
  | .str x => some (.text x)
  | .tuple ds => (nks ds).map .tup
  | .bool _ => none
  | .list _ => none
  | .dict _ => none
def nks : List D → Option (List NestedKey)
  | [] => some []
  | d :: ds => match nk d, nks ds with
    | some k, some ks => some (k :: ks)
    | _, _ => none
end
mutual
theorem reads_nk {h : Heap} : ∀ (d : D) (u : Value) (as : List Addr) (k : NestedKey), Reads h u d as → nk d = some k → NestedIs h k u
  | .none, _, _, _, r, e => by cases r; cases e; exact .none
  | .int i, _, _, _, r, e => by cases r; cases e; exact .int _ _
  | .str x, _, _, _, r, e => by cases r; cases e; exact .text _ _
  | .tuple ds, _, _, _, r, e => by
    cases r with
    | tuple e1 e2 e3 ra =>
      rw [nk] at e
      cases q : nks ds with
      | none => rw [q] at e; cases e
      | some ks =>
        rw [q] at e
        cases e
        exact .tup e1 e2 e3 (reads_nks ds _ _ ks ra q)
  | .bool b, _, _, _, r, e => by rw [nk] at e; cases e
  | .list ds, _, _, _, r, e => by rw [nk] at e; cases e
  | .dict ds, _, _, _, r, e => by rw [nk] at e; cases e
theorem reads_nks {h : Heap} : ∀ (ds : List D) (us : List Value) (as : List Addr) (ks : List NestedKey), ReadsAll h us ds as → nks ds = some ks → NestedAll h ks us
  | [], _, _, _, r, e => by cases r; cases e; exact .nil
  | d :: ds, _, _, _, r, e => by
    cases r with
    | cons r1 r2 =>
      rw [nks] at e
      cases q : nk d with
      | none => rw [q] at e; cases e
      | some k =>
        cases q2 : nks ds with
        | none => rw [q, q2] at e; cases e
        | some ks =>
          rw [q, q2] at e
          cases e
          exact .cons (reads_nk d _ _ k r1 q) (reads_nks ds _ _ ks r2 q2)
end
mutual
theorem nk_inj : ∀ (d e : D) (k : NestedKey), nk d = some k → nk e = some k → d = e
  | .none, e, k, h, h' => by
    rw [nk] at h; cases h
    cases e with
    | none => rfl
    | tuple es => rw [nk] at h'; cases q : nks es with
      | none => rw [q] at h'; cases h'
      | some ks => rw [q] at h'; cases h'
    | _ => rw [nk] at h'; cases h'
  | .int i, e, k, h, h' => by
    rw [nk] at h; cases h
    cases e with
    | int j => rw [nk] at h'; cases h'; rfl
    | tuple es => rw [nk] at h'; cases q : nks es with
      | none => rw [q] at h'; cases h'
      | some ks => rw [q] at h'; cases h'
    | _ => rw [nk] at h'; cases h'
  | .str x, e, k, h, h' => by
    rw [nk] at h; cases h
    cases e with
    | str y => rw [nk] at h'; cases h'; rfl
    | tuple es => rw [nk] at h'; cases q : nks es with
      | none => rw [q] at h'; cases h'
      | some ks => rw [q] at h'; cases h'
    | _ => rw [nk] at h'; cases h'
  | .tuple ds, e, k, h, h' => by
    rw [nk] at h
    cases q : nks ds with
    | none => rw [q] at h; cases h
    | some ks =>
      rw [q] at h; cases h
      cases e with
      | tuple es =>
        rw [nk] at h'
        cases q' : nks es with
        | none => rw [q'] at h'; cases h'
        | some ks' => rw [q'] at h'; cases h'; rw [nks_inj ds es ks q q']
      | _ => rw [nk] at h'; cases h'
  | .bool b, _, _, h, _ => by rw [nk] at h; cases h
  | .list ds, _, _, h, _ => by rw [nk] at h; cases h
  | .dict ds, _, _, h, _ => by rw [nk] at h; cases h
theorem nks_inj : ∀ (ds es : List D) (ks : List NestedKey), nks ds = some ks → nks es = some ks → ds = es
  | [], es, ks, h, h' => by
    rw [nks] at h; cases h
    cases es with
    | nil => rfl
    | cons e es => rw [nks] at h'; split at h' <;> cases h'
  | d :: ds, es, ks, h, h' => by
    rw [nks] at h
    cases q : nk d with
    | none => rw [q] at h; cases h
    | some k =>
      cases q2 : nks ds with
      | none => rw [q, q2] at h; cases h
      | some kk =>
        rw [q, q2] at h; cases h
        cases es with
        | nil => rw [nks] at h'; cases h'
        | cons e es =>
          rw [nks] at h'
          cases p : nk e with
          | none => rw [p] at h'; cases h'
          | some k' =>
            cases p2 : nks es with
            | none => rw [p, p2] at h'; cases h'
            | some kk' =>
              rw [p, p2] at h'; cases h'
              rw [nk_inj d e k q p, nks_inj ds es kk q2 p2]
end
abbrev NEs := List (NestedKey × Addr × Value)
/-- the dict at p with the entries xs -/
def NdO (P : Program) (w : World) (p : Addr) (xs : NEs) : HO := .ext fun h => (p == sysModules) = false ∧ (xs.map (·.1)).Nodup ∧ ∃ o es ep, h.get? p = some o ∧ o.ExactDict ∧ o.data = .dict es ep ∧ es.toList = xs.map (entryOfKey (nestedKind P w))
theorem NdO.ok {P : Program} {w : World} {H : Hp} {h : Heap} {p : Addr} {xs : NEs} (hs : (p == sysModules) = false) (d : h.DictOfH (nestedKind P w) p xs) : ObjOk P w H h p (NdO P w p xs) := by
  obtain ⟨o, es, ep, h1, h2, h3, h4, _, h5⟩ := d
  exact ⟨⟨hs, h5, o, es, ep, h1, h2, h3, h4⟩, ⟨o, h1⟩, fun g1 g2 ⟨z, n, o, es, ep, e1, e2⟩ k => ⟨z, n, o, es, ep, k _ e1, e2⟩⟩
/-- the keys of the entries are there -/
def KeysAt (K : PySem.W.Frag) (H : Hp) (xs : NEs) : Prop := ∀ y ∈ xs, ∃ e, nk e = some y.1 ∧ Dp K H (.ref y.2.1) e ∧ y.1.depth ≤ 8
section
variable {X : Cx} {pins : List (Addr × Obj)} {σ : L2.St} {H : Hp} {s : Shared} {p : Addr} {xs : NEs}
theorem key_at (I : Inv X pins σ H s) {a : Addr} {d : D} {k : NestedKey} (h : Dp X.K H (.ref a) d) (e : nk d = some k) (z : k.depth ≤ 8) : (nestedKind X.prog X.w).is s.heap k a := by
  obtain ⟨as, r⟩ := Dp.reads I d _ (.ref a) h rfl
  exact ⟨reads_nk d _ as k r e, z⟩
theorem NdO.ofH (I : Inv X pins σ H s) (h : H p = some (NdO X.prog X.w p xs)) (hk : KeysAt X.K H xs) : (p == sysModules) = false ∧ s.heap.DictOfH (nestedKind X.prog X.w) p xs := by
  obtain ⟨⟨z, n, o, es, ep, e1, e2, e3, e4⟩, _⟩ := I.hok p _ h
  refine ⟨z, o, es, ep, e1, e2, e3, e4, fun y hy => ?_, n⟩
  obtain ⟨d, h1, h2, h3⟩ := hk y hy
  exact key_at I h2 h1 h3
def rSetN (P : Program) (w : World) (K : PySem.W.Frag) : V → List V → Hp → VK → Prop := fun x vs H Q => ∃ (p a : Addr) (xs : NEs) (d : D) (key : NestedKey) (n : Int), x = .ref p ∧ vs = [.ref a, .int n] ∧ H p = some (NdO P w p xs) ∧ xs.length < sizeLine ∧ KeysAt K H xs ∧
  Dp K H (.ref a) d ∧ nk d = some key ∧ key.depth ≤ 8 ∧ (∀ q, atKey xs key = some q → ∃ y, RelV y q.2 ∧ Q y H) ∧ (atKey xs key = none → ∀ u, RelV (.int n) u → Q (.int n) (upd H p (NdO P w p (xs ++ [(key, a, u)]))))
theorem mt_setN (hu : X.A.units + 64 < cLine) : MtR X "dict.setdefault" (rSetN X.prog X.w X.K) := by
  intro pins s σ H x vs v us Q I rx rvs h
  obtain ⟨p, a, xs, d, key, n, rfl, rfl, hp, hz, hk, hd, e, de, q1, q2⟩ := h
  obtain ⟨u1, u2, rfl, r1, r2⟩ := vals2 rvs
  obtain rfl : v = Value.ref p := rx
  obtain rfl : u1 = Value.ref a := r1
  obtain ⟨hs, hH⟩ := NdO.ofH I hp hk
  refine call_setdefault_heap (hsz := Nat.le_of_lt hz) (show X.A.in1.units + 8 < cLine from ?_) (key_at I hd e de) hs hH (fun q e2 => ?_) fun e2 h' hH' sb => ?_
  · show X.A.units + 1 + 8 < cLine
    omega
  · obtain ⟨y, ry, qq⟩ := q1 q e2
    exact ⟨y, H, I.tok _, ry, qq⟩
  · rw [storedH_new e2] at hH'
    obtain ⟨o, _, _, ho, _⟩ := id hH'
    exact ⟨.int n, _, d_write I (by rw [hp]; trivial) sb ⟨o, ho⟩ (NdO.ok hs hH'), r2, q2 e2 u2 r2⟩
theorem mt_setK (hu : X.A.units + 64 < cLine) : MtR X "dict.setdefault" (fun x vs H Q => ∃ (p : Addr) (kvs : List (Key × V)) (k : Key) (d : V), x = .ref p ∧ vs = [kV k, d] ∧ H p = some (.dK kvs) ∧ kvs.length < sizeLine ∧ (∀ v, valV kvs k = some v → Q v H) ∧ (valV kvs k = none → Q d (upd H p (.dK (kvs ++ [(k, d)]))))) := by
  intro pins s σ H x vs v us Q I rx rvs h
  obtain ⟨p, kvs, k, d, rfl, rfl, hp, hz, q1, q2⟩ := h
  obtain ⟨u1, u2, rfl, r1, r2⟩ := vals2 rvs
  obtain rfl : v = Value.ref p := rx
  obtain ⟨z, hd, vs, rel, dd⟩ := dk_of I.hok hp
  refine call_meetsIn PySem.F.slot_dict_setdefault dd.typeIs PySem.F.entry_dict_setdefault (PySem.F.args_dict_setdefault_3 _ _ _) (kt_meets_setdefault (mixKind X.prog X.w) p (kV_is r1) hd _) ⟨vs, dd, by rw [← rel.length]; exact z, fun u e => ?_, fun e h' dd' hs => ?_⟩
  · have r := rel.val k
    rw [e] at r
    cases q : valV kvs k with
    | none => rw [q] at r; cases r
    | some y =>
      rw [q] at r
      exact ⟨y, H, I.tok _, r, q1 y q⟩
  · have r := rel.val k
    rw [e] at r
    cases q : valV kvs k with
    | some y => rw [q] at r; cases r
    | none =>
      have he : ∃ q, h'.get? p = some q := let ⟨q, _, _, hq, _⟩ := dd'; ⟨q, hq⟩
      have rel' := rel.put k r2
      rw [putK_new _ q] at rel'
      refine ⟨d, _, d_write I (by rw [hp]; trivial) hs he (dk_new ?_ hd rel' dd'), r2, q2 q⟩
      rw [List.length_append]; exact hz
theorem cr_lenN : CallR X (.builtin "len") (fun vs H Q => ∃ (p : Addr) (xs : NEs), vs = [.ref p] ∧ H p = some (NdO X.prog X.w p xs) ∧ KeysAt X.K H xs ∧ xs.length ≤ sizeLine ∧ Q (.int xs.length) H) := by
  intro pins s σ H vs us Q I r h
  obtain ⟨p, xs, rfl, hp, hk, hz, q⟩ := h
  obtain ⟨u, rfl, rx⟩ := vals1 r
  obtain rfl : u = Value.ref p := rx
  obtain ⟨hs, hH⟩ := NdO.ofH I hp hk
  have hn := line63
  refine call_len_slot (n := (xs.length : Int)) hH.typeIs PySem.F.slot_dict_len (fun Q' hq => len_keyed hs ⟨xs, hH, rfl⟩ ?_) (by omega) (by omega) ⟨.int xs.length, H, I.tok _, ⟨_, rfl⟩, q⟩
  rw [pairsH_length]
  exact hq
theorem cr_lenK : CallR X (.builtin "len") (fun vs H Q => ∃ (p : Addr) (kvs : List (Key × V)), vs = [.ref p] ∧ H p = some (.dK kvs) ∧ Q (.int kvs.length) H) := by
  intro pins s σ H vs us Q I r h
  obtain ⟨p, kvs, rfl, hp, q⟩ := h
  obtain ⟨u, rfl, rx⟩ := vals1 r
  obtain rfl : u = Value.ref p := rx
  exact d_len I (.inl hp) fun t s' I' => ⟨.int kvs.length, H, I', ⟨t, rfl⟩, q⟩
theorem pe_dnewN {pos : Pos} : PE X (.Dict [] [] pos) (fun _ H Q => ∀ p, H p = none → Q (.ref p) (upd H p (NdO X.prog X.w p []))) := ⟨fun pins s σ H Q I h =>
  wpAny_Dict_empty ⟨.ref s.heap.objs.size, _, I.laid (a := s.heap.objs.size) (o := NdO X.prog X.w s.heap.objs.size []) (t' := s.toks) (fun _ _ q => Heap.get?_push_of_some _ q) (Nat.le_refl _) (NdO.ok (beq_eq_false_iff_ne.mpr (Ne.symm (Nat.ne_of_lt I.big))) (Heap.DictOfH.new s.heap)), rfl, h _ (I.hok.fresh (Nat.le_refl _))⟩⟩
end
end DL

/-! [found.setdefault(key, len(found)) for key in keys]. -/
namespace DL
open PySem PySem.Spec PyProof.Rows L2
def txEs : Nat → List Str → List (Key × V)
  | _, [] => []
  | n, x :: xs => (.inr x, .int (n : Nat)) :: txEs (n + 1) xs
theorem txEs_len : ∀ (n : Nat) (xs : List Str), (txEs n xs).length = xs.length
  | _, [] => rfl
  | n, x :: xs => by rw [txEs, List.length_cons, List.length_cons, txEs_len]
theorem txEs_snoc : ∀ (n : Nat) (xs : List Str) (x : Str), txEs n (xs ++ [x]) = txEs n xs ++ [(.inr x, .int ((n + xs.length : Nat) : Int))]
  | n, [], x => rfl
  | n, y :: xs, x => by
    rw [List.cons_append, txEs, txEs, txEs_snoc (n + 1) xs x, List.cons_append]
    congr 4
    rw [List.length_cons]; congr 1; omega
/-- the value that stands is the place where the key stands -/
theorem txEs_at : ∀ (n : Nat) (xs : List Str) (x : Str) (v : V), valV (txEs n xs) (.inr x : Key) = some v → ∃ j : Nat, xs[j]? = some x ∧ (∀ j' : Nat, j' < j → xs[j']? ≠ some x) ∧ v = .int ((n + j : Nat) : Int)
  | n, [], x, v, h => by cases h
  | n, y :: xs, x, v, h => by
    rw [txEs] at h
    by_cases e : y = x
    · subst e
      rw [valV_pos rfl] at h
      cases h
      exact ⟨0, rfl, fun j' z => absurd z (Nat.not_lt_zero _), rfl⟩
    · rw [valV_neg (fun z => e (Sum.inr.inj z))] at h
      obtain ⟨j, h1, h2, rfl⟩ := txEs_at (n + 1) xs x v h
      refine ⟨j + 1, h1, fun j' z q => ?_, by congr 1; omega⟩
      cases j' with
      | zero => exact e (Option.some.inj q)
      | succ j' => exact h2 j' (by omega) q
theorem txEs_no : ∀ (n : Nat) (xs : List Str) (x : Str), valV (txEs n xs) (.inr x : Key) = none → ∀ j : Nat, xs[j]? ≠ some x
  | n, [], x, _, j => by simp
  | n, y :: xs, x, h, j => by
    rw [txEs] at h
    by_cases e : y = x
    · subst e
      rw [valV_pos rfl] at h
      cases h
    · rw [valV_neg (fun z => e (Sum.inr.inj z))] at h
      cases j with
      | zero => exact fun q => e (Option.some.inj q)
      | succ j => exact txEs_no (n + 1) xs x h j
/-- a key of the kind -/
def okKey : Bool → D → Prop
  | true, d => ∃ x, d = .str x
  | false, d => ∃ ds k, d = .tuple ds ∧ nk d = some k ∧ k.depth ≤ 8 ∧ d.canLay0 = true
/-- the entries stand for the keys ds, their values are their places -/
structure NesOf (es : NEs) (ds : List D) : Prop where
  len : es.length = ds.length
  at_ : ∀ (j : Nat) (y : NestedKey × Addr × Value), es[j]? = some y → ∃ d t, ds[j]? = some d ∧ nk d = some y.1 ∧ y.1.depth ≤ 8 ∧ d.canLay0 = true ∧ y.2.2 = .int (j : Nat) t
def nesFs (es : NEs) (ds : List D) : List (V × D) := (es.zip ds).map fun q => (.ref q.1.2.1, q.2)
inductive NumS (P : Program) (w : World) : Bool → List D → Slot → Prop
  | txt (p : Addr) (xs : List Str) : NumS P w true (xs.map .str) (.raw (.ref p) [(p, .dK (txEs 0 xs))] [])
  | nst (p : Addr) (es : NEs) (ds : List D) : NesOf es ds → NumS P w false ds (.raw (.ref p) [(p, NdO P w p es)] (nesFs es ds))
def mSetd (P : Program) (w : World) (i : Nat) (mk : M D) : M D := fun ρ k => ∃ b seen s, ρ[i]? = some s ∧ NumS P w b seen s ∧ mk ρ fun d ρ1 => ρ1[i]? = some s ∧ okKey b d ∧ seen.length < sizeLine ∧
  (∀ j : Nat, seen[j]? = some d → (∀ j' : Nat, j' < j → seen[j']? ≠ some d) → k (.int (j : Nat)) ρ1) ∧ ((∀ j : Nat, seen[j]? ≠ some d) → ∀ s', NumS P w b (seen ++ [d]) s' → k (.int (seen.length : Nat)) (ρ1.set i s'))
theorem NumS.ref {P : Program} {w : World} {b : Bool} {ds : List D} {s : Slot} (h : NumS P w b ds s) : ∃ p o fs, s = .raw (.ref p) [(p, o)] fs := by
  cases h with
  | txt p xs => exact ⟨_, _, _, rfl⟩
  | nst p es ds h => exact ⟨_, _, _, rfl⟩
section
variable {X : Cx} {pins : List (Addr × Obj)} {σ : L2.St} {H : Hp} {s : Shared} {p : Addr}
/-- a dict's method on a dict of texts, or of nested keys -/
def isNd (P : Program) (w : World) (H : Hp) (x : V) : Prop := ∃ p, x = .ref p ∧ ((∃ kvs, H p = some (.dK kvs)) ∨ ∃ xs, H p = some (NdO P w p xs))
theorem isNd_at {v : Value} {x : V} (I : Inv X pins σ H s) (r : RelV x v) (h : isNd X.prog X.w H x) : s.TypeIs v "dict" ∧ ∀ a, v = .ref a → ∃ ob, s.heap.get? a = some ob ∧ ob.dict = none := by
  obtain ⟨p, rfl, h⟩ := h
  obtain rfl : v = Value.ref p := r
  rcases h with ⟨kvs, h⟩ | ⟨xs, h⟩
  · exact tyV_is I (x := .ref p) rfl (.inr (.inr (.inl ⟨rfl, .inl ⟨kvs, h⟩⟩)))
  · obtain ⟨⟨_, _, o, es, ep, e1, e2, _⟩, _⟩ := I.hok p _ h
    exact ⟨⟨o, e1, e2.1⟩, fun a e => by cases e; exact ⟨o, e1, e2.2.1⟩⟩
def tBN (P : Program) (w : World) (r : V → List V → Hp → VK → Prop) (to : TE) (t : TA) : TE := fun σ H Q => to σ H fun x H1 => isNd P w H1 x ∧ t σ H1 fun vs H2 => r x vs H2 Q
theorem pe_bmN {o e : Expr} {es : List Expr} {to : TE} {t : TA} {name : Str} {id : String} {apos cpos : Pos} {r : V → List V → Hp → VK → Prop} (slot : PySem.Slot "dict" name id) (hty : typeOf (.builtin id) = pure (.type "method_descriptor")) (hm : MtR X id r) (ho : PE X o to) (ha : PA X (e :: es) t)
    (hbase : attributeBase o name X.env (eval o X.env) = eval o X.env := by rfl)
    (hfew : ((backTo cpos (starEach (e :: es) X.env)).all (fun x => !x.1) && (backToKw cpos (keywordEach [] X.env)).all (fun x => x.1.isSome)
      && decide ((e :: es).length + ([] : List Keyword).length + (if ([] : List Keyword).isEmpty then 0 else 1) < 30)) = true := by rfl)
    (hline : (apos.endLine == cpos.line) = true := by rfl) (hs : starEach (e :: es) X.env = (false, eval e X.env) :: starEach es X.env := by rfl) (hplain : (backTo cpos (starEach es X.env)).any (·.1) = false := by rfl) :
    PE X (.Call (.Attribute o name apos) (e :: es) [] cpos) (tBN X.prog X.w r to t) := by
  refine ⟨fun pins s σ H Q I h => ?_⟩
  refine wpAny_Call_method_late hbase hfew hline rfl (thn (ho.run pins s σ H _ I h) fun v s1 ⟨x, H1, I1, r1, ty, q1⟩ => ?_)
  obtain ⟨h1, h2⟩ := isNd_at I1 r1 ty
  refine ⟨"dict", id, PySem.F.plainAttrs_dict, slot, hty, h1, h2, ?_⟩
  have hA := ha.run cpos pins s1 σ H1 _ I1 q1
  rw [hs] at hA ⊢
  refine Calls.callWith_builtin (by show (false || (backTo cpos (starEach es X.env)).any (·.1)) = false; rw [hplain] <;> rfl) (Calls.evalArgs_plain ?_)
  exact thn hA fun us s2 ⟨vs, H2, I2, r2, q2⟩ => hm pins s2 σ H2 x vs v us Q I2 r1 r2 q2
theorem MtR.or {id : String} {r r' : V → List V → Hp → VK → Prop} (h : MtR X id r) (h' : MtR X id r') : MtR X id (fun x vs H Q => r x vs H Q ∨ r' x vs H Q) := by
  intro pins s σ H x vs v us Q I rx rv q
  rcases q with q | q
  · exact h pins s σ H x vs v us Q I rx rv q
  · exact h' pins s σ H x vs v us Q I rx rv q
end
theorem nesFs_at {es : NEs} {ds : List D} (h : NesOf es ds) {y : NestedKey × Addr × Value} (hy : y ∈ es) : ∃ d, (V.ref y.2.1, d) ∈ nesFs es ds ∧ nk d = some y.1 ∧ y.1.depth ≤ 8 ∧ d.canLay0 = true := by
  obtain ⟨j, hj⟩ := List.mem_iff_getElem?.mp hy
  obtain ⟨d, t, h1, h2, h3, h4, _⟩ := h.at_ j y hj
  refine ⟨d, List.mem_map.mpr ⟨(y, d), ?_, rfl⟩, h2, h3, h4⟩
  exact List.mem_iff_getElem?.mpr ⟨j, List.getElem?_zip_eq_some.mpr ⟨hj, h1⟩⟩
theorem nes_find {es : NEs} {ds : List D} (h : NesOf es ds) {d : D} {key : NestedKey} (e : nk d = some key) {q : Addr × Value} (f : atKey es key = some q) : ∃ (j : Nat) (t : Tok), ds[j]? = some d ∧ (∀ j' : Nat, j' < j → ds[j']? ≠ some d) ∧ q.2 = .int (j : Nat) t := by
  unfold atKey at f
  cases g : es.find? (fun x => decide (x.1 = key)) with
  | none => rw [g] at f; cases f
  | some y =>
    rw [g] at f
    cases f
    obtain ⟨j, hj, e1, e2⟩ := List.find?_eq_some_iff_getElem.mp g |>.2
    have y1 : y.1 = key := of_decide_eq_true (List.find?_some (p := fun x : NestedKey × Addr × Value => decide (x.1 = key)) g)
    have hj' : es[j]? = some y := by rw [List.getElem?_eq_getElem hj, e1]
    obtain ⟨d', t, h1, h2, _, _, h5⟩ := h.at_ j y hj'
    rw [y1] at h2
    rw [← nk_inj d d' key e h2] at h1
    refine ⟨j, t, h1, fun j' z q => ?_, h5⟩
    have hl : j' < es.length := by omega
    obtain ⟨d2, t2, k1, k2, _⟩ := h.at_ j' es[j'] (List.getElem?_eq_getElem hl)
    rw [q] at k1
    cases k1
    rw [e] at k2
    have := e2 j' z
    simp at this
    exact this (Option.some.inj k2).symm
theorem nes_none {es : NEs} {ds : List D} (h : NesOf es ds) {d : D} {key : NestedKey} (e : nk d = some key) (f : atKey es key = none) : ∀ j : Nat, ds[j]? ≠ some d := by
  intro j q
  obtain ⟨hl, _⟩ := List.getElem?_eq_some_iff.mp q
  have hl' : j < es.length := by rw [h.len]; exact hl
  obtain ⟨d2, t2, k1, k2, _⟩ := h.at_ j es[j] (List.getElem?_eq_getElem hl')
  rw [q] at k1
  cases k1
  rw [e] at k2
  unfold atKey at f
  have f2 : es.find? (fun x => decide (x.1 = key)) = none := by
    cases g : es.find? (fun x => decide (x.1 = key)) with
    | none => rfl
    | some y => rw [g] at f; cases f
  have := List.find?_eq_none.mp f2 es[j] (List.getElem_mem hl')
  simp at this
  exact this (Option.some.inj k2).symm
theorem nes_snoc {es : NEs} {ds : List D} (h : NesOf es ds) {d : D} {key : NestedKey} (e : nk d = some key) (z : key.depth ≤ 8) (c : d.canLay0 = true) (a : Addr) (t : Tok) : NesOf (es ++ [(key, a, .int (ds.length : Nat) t)]) (ds ++ [d]) := by
  refine ⟨by rw [List.length_append, List.length_append, h.len]; rfl, fun j y hj => ?_⟩
  by_cases hl : j < es.length
  · rw [List.getElem?_append_left hl] at hj
    obtain ⟨d2, t2, k1, k⟩ := h.at_ j y hj
    exact ⟨d2, t2, by rw [List.getElem?_append_left (by rw [← h.len]; exact hl)]; exact k1, k⟩
  · rw [List.getElem?_append_right (by omega)] at hj
    have hj0 : j = es.length := by
      have := (List.getElem?_eq_some_iff.mp hj).1
      simp at this
      omega
    subst hj0
    rw [Nat.sub_self] at hj
    cases hj
    exact ⟨d, t, by rw [h.len, List.getElem?_append_right (Nat.le_refl _), Nat.sub_self]; rfl, e, z, c, by rw [h.len]⟩
section
variable {X : Cx} {i : Nat} {x xl : Str} {p p1 p2 pl apos cpos lpos : Pos} {e : Expr} {mk : M D}
theorem em_setd (hu : X.A.units + 64 < cLine) (pv : PE X (.Name x p) (tVar i)) (pv2 : PE X (.Name x p2) (tVar i)) (hk : EM X e mk) (hm : X.mg "len" = none) (hg : Gl X "len" := by rfl)
    (hbase : attributeBase (.Name x p) "setdefault" X.env (eval (.Name x p) X.env) = eval (.Name x p) X.env := by rfl)
    (hfew : ((backTo cpos (starEach [e, .Call (.Name "len" pl) [.Name x p2] [] lpos] X.env)).all (fun x => !x.1) && (backToKw cpos (keywordEach [] X.env)).all (fun x => x.1.isSome)
      && decide ([e, Expr.Call (.Name "len" pl) [.Name x p2] [] lpos].length + ([] : List Keyword).length + (if ([] : List Keyword).isEmpty then 0 else 1) < 30)) = true := by rfl)
    (hline : (apos.endLine == cpos.line) = true := by rfl) (hs : starEach [e, .Call (.Name "len" pl) [.Name x p2] [] lpos] X.env = (false, eval e X.env) :: starEach [.Call (.Name "len" pl) [.Name x p2] [] lpos] X.env := by rfl)
    (hs2 : starEach [.Call (.Name "len" pl) [.Name x p2] [] lpos] X.env = (false, eval (.Call (.Name "len" pl) [.Name x p2] [] lpos) X.env) :: starEach [] X.env := by rfl)
    (hplain : (backTo cpos (starEach [.Call (.Name "len" pl) [.Name x p2] [] lpos] X.env)).any (·.1) = false := by rfl)
    (he : starEach [.Name x p2] X.env = (false, eval (.Name x p2) X.env) :: starEach [] X.env := by rfl) (hpl : (backTo lpos (starEach [] X.env)).any (·.1) = false := by rfl) :
    EM X (.Call (.Attribute (.Name x p) "setdefault" apos) [e, .Call (.Name "len" pl) [.Name x p2] [] lpos] [] cpos) (mSetd X.prog X.w i mk) := by
  refine ⟨fun ρ k k' w ⟨b, seen, s, h1, h2, q⟩ => ⟨b, seen, s, h1, h2, hk.mono ρ _ _ (fun d ρ1 ⟨h0, h3, h4, h5, h6⟩ => ⟨h0, h3, h4, fun j e f => w _ _ (h5 j e f), fun n s' hs' => w _ _ (h6 n s' hs')⟩) q⟩, ?_⟩
  have len := pe_callB (p := pl) (CallR.or (cr_lenN (X := X)) cr_lenK) hg hm PySem.boot_len (pa_cons pv2 pa_nil he) (he := he) (hpl := hpl)
  refine pe_weak (pe_bmN PySem.F.slot_dict_setdefault PySem.F.type_dict_setdefault (MtR.or (mt_setN hu) (mt_setK hu)) pv (pa_cons hk.run (pa_cons len pa_nil hs2) hs) hbase hfew hline hs hplain) ?_
  rintro σ H Q ⟨G, loc, ρ, R, b, seen, s, h1, h2, q⟩
  cases h2 with
  | txt p xs =>
    obtain ⟨hσ, _, hc, _⟩ := R.raw.at_ _ _ _ _ h1
    refine ⟨_, hσ, ⟨p, rfl, .inl ⟨_, (hc (p, _) (List.Mem.head _)).1⟩⟩, ?_⟩
    refine ⟨G, loc, ρ, R, hk.mono ρ _ _ (fun d ρ1 ⟨h0, h3, h4, h5, h6⟩ v H1 R1 g1 d1 => ?_) q⟩
    obtain ⟨hσ1, _, hc1, _⟩ := R1.raw.at_ _ _ _ _ h0
    have hp := (hc1 (p, _) (List.Mem.head _)).1
    obtain ⟨x, rfl⟩ := h3
    cases d1
    rw [List.length_map] at h4 h6
    refine ⟨_, hσ1, .inr ⟨p, _, rfl, hp, .inr ⟨p, _, .inr x, .int (txEs 0 xs).length, rfl, rfl, hp, by rw [txEs_len]; exact h4, fun v e => ?_, fun e => ?_⟩⟩⟩
    · obtain ⟨j, e1, e2, rfl⟩ := txEs_at 0 xs x v e
      rw [Nat.zero_add]
      refine h5 j (by rw [List.getElem?_map, e1]; rfl) (fun j' z f => ?_) _ H1 R1 g1 (.int _)
      rw [List.getElem?_map] at f
      cases f2 : xs[j']? with
      | none => rw [f2] at f; cases f
      | some y => rw [f2] at f; cases f; exact e2 j' z f2
    · have no : ∀ j : Nat, (xs.map PyData.str)[j]? ≠ some (.str x) := fun j f => by
        rw [List.getElem?_map] at f
        cases f2 : xs[j]? with
        | none => rw [f2] at f; cases f
        | some y => rw [f2] at f; cases f; exact txEs_no 0 xs x e j f2
      obtain ⟨R2, g2⟩ := R1.wrRaw (o' := .dK (txEs 0 (xs ++ [x]))) (fs' := []) h0 (fun q hq => by cases hq)
      have z := h6 no (.raw (.ref p) [(p, .dK (txEs 0 (xs ++ [x])))] []) (by
        have := NumS.txt (P := X.prog) (w := X.w) p (xs ++ [x])
        rw [List.map_append] at this
        exact this) (.int ((txEs 0 xs).length : Nat)) _ R2 (g1.trans g2) (by rw [txEs_len]; exact .int _)
      rw [txEs_snoc, Nat.zero_add] at z
      rw [txEs_len] at z ⊢
      exact z
  | nst p es ds hn =>
    obtain ⟨hσ, _, hc, _⟩ := R.raw.at_ _ _ _ _ h1
    refine ⟨_, hσ, ⟨p, rfl, .inr ⟨_, (hc (p, _) (List.Mem.head _)).1⟩⟩, ?_⟩
    refine ⟨G, loc, ρ, R, hk.mono ρ _ _ (fun d ρ1 ⟨h0, h3, h4, h5, h6⟩ v H1 R1 g1 d1 => ?_) q⟩
    obtain ⟨hσ1, _, hc1, hf1⟩ := R1.raw.at_ _ _ _ _ h0
    have hp := (hc1 (p, _) (List.Mem.head _)).1
    obtain ⟨ds', key, rfl, hkey, hdep, hlay⟩ := h3
    have dp := Dx.dp _ _ hlay d1
    obtain ⟨a, xs, rfl, _, _⟩ := d1.sqt
    have ka : KeysAt X.K H1 es := fun y hy => by
      obtain ⟨e, m1, m2, m3, m4⟩ := nesFs_at hn hy
      exact ⟨e, m2, Dx.dp _ _ m4 (hf1 _ m1), m3⟩
    refine ⟨_, hσ1, .inl ⟨p, es, rfl, hp, ka, by rw [hn.len]; exact Nat.le_of_lt h4, .inl ⟨p, a, es, _, key, (es.length : Nat), rfl, rfl, hp, by rw [hn.len]; exact h4, ka, dp, hkey, hdep, fun q e => ?_, fun e u hu => ?_⟩⟩⟩
    · obtain ⟨j, t, e1, e2, e3⟩ := nes_find hn hkey e
      exact ⟨.int (j : Nat), ⟨t, e3⟩, h5 j e1 e2 _ H1 R1 g1 (.int _)⟩
    · obtain ⟨t, rfl⟩ := hu
      rw [hn.len]
      have hn2 := nes_snoc hn hkey hdep hlay a t
      have gg : Grow (Fb G.fb ρ1 loc) (Fb G.fb ρ1 loc) H1 (upd H1 p (NdO X.prog X.w p (es ++ [(key, a, .int (seen.length : Nat) t)]))) := fun b u q n => ⟨by rw [upd_ne fun z => n (by rw [z]; exact .inr (.inl ⟨i, _, h0, raw_has.mpr rfl⟩))]; exact q, n⟩
      obtain ⟨R2, g2⟩ := R1.wrRaw (o' := NdO X.prog X.w p (es ++ [(key, a, .int (seen.length : Nat) t)])) (fs' := nesFs (es ++ [(key, a, .int (seen.length : Nat) t)]) (seen ++ [.tuple ds'])) h0 (fun q hq => by
        unfold nesFs at hq
        rw [List.zip_append hn.len, List.map_append] at hq
        rcases List.mem_append.mp hq with hq | hq
        · exact (hf1 q hq).g gg
        · cases List.mem_singleton.mp hq
          exact d1.g gg)
      exact h6 (nes_none hn hkey e) _ (NumS.nst p _ _ hn2) _ _ R2 (g1.trans g2) (.int _)
end
end DL

/-! The numbers of keys, as a def's body: found = {}; return [found.setdefault(key, len(found)) for key in keys]. -/
namespace DL
open PySem PySem.Spec PyProof.Rows L2
def sDict0 (P : Program) (w : World) (i : Nat) : SMon := fun k ρ => i < ρ.length ∧ ∃ b, ∀ s, NumS P w b [] s → k.nx (ρ.set i s)
section
variable {X : Cx} {pos : Pos}
theorem sm_dict0 {i : Nat} {x : Str} {pos' dp : Pos} (hN : X.N.Nodup) (hi : X.N[i]? = some x) (hx : Loc X.env.scope x) (hs : swapsWith (.Dict [] [] dp) (some (.Name x pos')) pos.line X.env = pure false := by rfl) (hf : X.fn x = true ∨ X.env.scope.names.lookup x = some .local := by first | exact .inl rfl | exact .inr rfl | assumption) :
    SM X (.Assign [.Name x pos'] (.Dict [] [] dp) pos) (sDict0 X.prog X.w i) := by
  have he : PE X (.Dict [] [] dp) (fun σ H Q => (∀ p, H p = none → Q (.ref p) (upd H p (.dK []))) ∨ ∀ p, H p = none → Q (.ref p) (upd H p (NdO X.prog X.w p []))) :=
    ⟨fun pins s σ H Q I h => h.elim (fun h => pe_dnewK.run pins s σ H Q I h) fun h => pe_dnewN.run pins s σ H Q I h⟩
  refine ⟨fun k k' ρ l ⟨h1, b, q⟩ => ⟨h1, b, fun s hs => l.nx _ (q s hs)⟩, ps_weak (ps_set hN hi hx he hs hf) ?_⟩
  rintro E σ H ⟨G, loc, ρ, k, R, ⟨h1, b, q⟩, l1, l2, l3, l4⟩
  cases b with
  | true =>
    refine .inl fun p hp => ?_
    obtain ⟨R1, g1⟩ := R.putRaw (o := .dK []) h1 hp
    exact l1 _ _ _ _ R1 g1 (q _ (NumS.txt p []))
  | false =>
    refine .inr fun p hp => ?_
    obtain ⟨R1, g1⟩ := R.putRaw (o := NdO X.prog X.w p []) h1 hp
    exact l1 _ _ _ _ R1 g1 (q _ (NumS.nst p [] [] ⟨rfl, fun j y h => by cases h⟩))
end
/-- the number of each key: the place at which it came first among the unlike ones -/
inductive Nums : List D → List D → List D → Prop
  | nil (seen : List D) : Nums seen [] []
  | old {seen ks out : List D} {d : D} {j : Nat} : seen[j]? = some d → (∀ j' : Nat, j' < j → seen[j']? ≠ some d) → Nums seen ks out → Nums seen (d :: ks) (.int (j : Nat) :: out)
  | new {seen ks out : List D} {d : D} : (∀ j : Nat, seen[j]? ≠ some d) → Nums (seen ++ [d]) ks out → Nums seen (d :: ks) (.int (seen.length : Nat) :: out)
theorem nums_loop {P : Program} {w : World} {b : Bool} {f y : Nat} {k : List D → List Slot → Prop} (hy : y ≠ f) : ∀ (ds acc : List D) (ρ : List Slot) (seen out : List D) (s : Slot), ρ[f]? = some s → NumS P w b seen s → (∀ d ∈ ds, okKey b d) → y < ρ.length → seen.length ≤ acc.length → acc.length + ds.length ≤ sizeLine →
    Nums seen ds out → (∀ ρ', k (acc ++ out) ρ') → lcLoop (gVar y) (mPure true) (mSetd P w f (mVar y)) [y] k ds acc ρ
  | [], acc, ρ, seen, out, s, _, _, _, _, _, _, hn, hk => by
    cases hn
    have := hk (wipeS ρ [y])
    rw [List.append_nil] at this
    exact this
  | d :: ds, acc, ρ, seen, out, s, h1, h2, h3, h4, h5, h6, hn, hk => by
    have hd := h3 d (by simp)
    have hf : f < ρ.length := (List.getElem?_eq_some_iff.mp h1).1
    rw [List.length_cons] at h6
    have e1 : (ρ.set y (.dat d))[f]? = some s := by rw [List.getElem?_set_ne hy]; exact h1
    have e2 : (ρ.set y (.dat d))[y]? = some (.dat d) := List.getElem?_set_self h4
    show mSetd P w f (mVar y) (ρ.set y (.dat d)) fun e ρ3 => acc.length < sizeLine ∧ lcLoop (gVar y) (mPure true) (mSetd P w f (mVar y)) [y] k ds (acc ++ [e]) (wipeS ρ3 [y])
    refine ⟨b, seen, s, e1, h2, ?_⟩
    unfold mVar
    rw [e2]
    refine ⟨e1, hd, by omega, fun j a1 a2 => ⟨by omega, ?_⟩, fun a1 s' hs' => ⟨by omega, ?_⟩⟩
    · cases hn with
      | @old _ _ out _ j' b1 b2 hn =>
        have jj : j' = j := by
          rcases Nat.lt_trichotomy j' j with z | z | z
          · exact absurd b1 (a2 j' z)
          · exact z
          · exact absurd a1 (b2 j z)
        subst jj
        refine nums_loop hy ds (acc ++ [.int (j' : Nat)]) _ seen out s ?_ h2 (fun d hd => h3 d (by simp [hd])) ?_ (by rw [List.length_append]; omega) (by rw [List.length_append, List.length_singleton]; omega) hn fun ρ' => by rw [List.append_assoc]; exact hk ρ'
        · show ((ρ.set y (.dat d)).set y .non)[f]? = some s
          rw [List.getElem?_set_ne hy]; exact e1
        · show y < ((ρ.set y (.dat d)).set y .non).length
          rw [List.length_set, List.length_set]; exact h4
      | new b1 hn => exact absurd a1 (b1 j)
    · cases hn with
      | @old _ _ out _ j' b1 b2 hn => exact absurd b1 (a1 j')
      | @new _ _ out _ b1 hn =>
        refine nums_loop hy ds (acc ++ [.int (seen.length : Nat)]) _ (seen ++ [d]) out s' ?_ hs' (fun d hd => h3 d (by simp [hd])) ?_ (by rw [List.length_append, List.length_append]; simp; omega) (by rw [List.length_append, List.length_singleton]; omega) hn fun ρ' => by rw [List.append_assoc]; exact hk ρ'
        · show (((ρ.set y (.dat d)).set f s').set y .non)[f]? = some s'
          rw [List.getElem?_set_ne hy, List.getElem?_set_self (by rw [List.length_set]; exact hf)]
        · show y < (((ρ.set y (.dat d)).set f s').set y .non).length
          rw [List.length_set, List.length_set, List.length_set]; exact h4
/-- .. as a meaning -/
def sNums (i f y : Nat) : SMon := fun k ρ => f < ρ.length ∧ y < ρ.length ∧ ∃ b ds out, ρ[i]? = some (.dat (.list ds)) ∧ (∀ d ∈ ds, okKey b d) ∧ ds.length ≤ sizeLine ∧ Nums [] ds out ∧ ∀ ρ', k.rt true (.list out) ρ'
theorem bm_nums {X : Cx} {sts : List Stmt} {i f y : Nat} (h : BM X sts (sSeq (sDict0 X.prog X.w f) (sRetN (mLc (mItL (mVar i)) (gVar y) (mPure true) (mSetd X.prog X.w f (mVar y)) [y])))) (h1 : i ≠ f) (h2 : y ≠ f) (h3 : y ≠ i) : BM X sts (sNums i f y) := by
  refine ⟨fun k k' ρ l ⟨a1, a2, b, ds, out, a3, a4, a5, a6, a7⟩ => ⟨a1, a2, b, ds, out, a3, a4, a5, a6, fun ρ' => l.rt _ _ _ (a7 ρ')⟩, pss_weak h.run ?_⟩
  rintro E σ H ⟨G, loc, ρ, k, R, ⟨a1, a2, b, ds, out, a3, a4, a5, a6, a7⟩, l1, l2, l3, l4⟩
  refine ⟨G, loc, ρ, k, R, ⟨a1, b, fun s hs => ?_⟩, l1, l2, l3, l4⟩
  show mLc (mItL (mVar i)) (gVar y) (mPure true) (mSetd X.prog X.w f (mVar y)) [y] (ρ.set f s) fun ds ρ' => k.rt true (.list ds) ρ'
  unfold mLc mItL mVar
  rw [List.getElem?_set_ne (Ne.symm h1), a3]
  refine nums_loop h2 ds [] _ [] out s ?_ hs a4 ?_ (Nat.zero_le _) (by simpa using a5) a6 fun ρ' => a7 ρ'
  · show ((ρ.set f s).set y .non)[f]? = some s
    rw [List.getElem?_set_ne h2, List.getElem?_set_self a1]
  · show y < ((ρ.set f s).set y .non).length
    rw [List.length_set, List.length_set]; exact a2
end DL

/-! f() without arguments; list.index of ints. -/
namespace DL
open PySem PySem.Spec PyProof.Rows L2
section
variable {X : Cx} {x : Str} {p pos : Pos} {k n : Nat} {f : Addr} {fd : FuncData} {ps : List Str} {F : FS}
theorem em_fn0 (G : FnG X.prog X.w X.K X.mg X.base CX0 k f fd ps (sp0 X.K n F)) (mF : PmS F) (hr : Rm k X.A) (hg : Gl X x) (hm : X.mg x = some (.ref f)) (hk : PySem.W.keepIn X.K (.ref f) = true) (hb : Binds X.K fd ps [])
    (hdb : (x == ("__debug__" : Str)) = false := by decide) : EM X (.Call (.Name x p) [] [] pos) (mFn n F mNil) := by
  refine ⟨fun ρ k k' w q => ⟨q.1, mF _ _ _ (fun b d q2 => w _ _ q2) q.2⟩, pe_weak (pe_callG0 G hr hg hm hk hb .nil pass0 hdb) ?_⟩
  rintro σ H Q ⟨G', loc, ρ, R, q⟩
  refine ⟨Fb G'.fb ρ loc, [], R.fbE, .nil, q.1, mF _ _ _ (fun b d q2 v H2 m2 d2 _ => ?_) q.2⟩
  exact q2 v H2 (R.more m2) (more_grow m2) d2
end
def mIndexI (m : M D) (ms : M (List D)) : M D := fun ρ k => m ρ fun d ρ1 => match d with
  | .list xs => ms ρ1 fun ds ρ2 => ∃ (ys : List Int) (z : Int) (j : Nat), ds = [.int z] ∧ xs = ys.map PyData.int ∧ ys[j]? = some z ∧ (∀ (m : Nat) (y : Int), m < j → ys[m]? = some y → y ≠ z) ∧ k (.int (j : Nat)) ρ2
  | _ => False
section
variable {X : Cx} {o e : Expr} {m : M D} {ms : M (List D)} {apos cpos : Pos}
theorem em_indexI (ho : EM X o m) (ha : AM X [e] ms)
    (hbase : attributeBase o "index" X.env (eval o X.env) = eval o X.env := by rfl)
    (hfew : ((backTo cpos (starEach [e] X.env)).all (fun x => !x.1) && (backToKw cpos (keywordEach [] X.env)).all (fun x => x.1.isSome)
      && decide ([e].length + ([] : List Keyword).length + (if ([] : List Keyword).isEmpty then 0 else 1) < 30)) = true := by rfl)
    (hline : (apos.endLine == cpos.line) = true := by rfl) (hs : starEach [e] X.env = (false, eval e X.env) :: starEach [] X.env := by rfl) (hplain : (backTo cpos (starEach [] X.env)).any (·.1) = false := by rfl) :
    EM X (.Call (.Attribute o "index" apos) [e] [] cpos) (mIndexI m ms) := by
  refine ⟨fun ρ k k' w q => ho.mono ρ _ _ (fun d ρ1 q1 => ?_) q, pe_weak (pe_bm PySem.F.plainAttrs_list PySem.F.slot_list_index PySem.F.type_list_index mt_index ho.run ha.run hbase hfew hline hs hplain) ?_⟩
  · cases d <;> first | exact q1.elim | skip
    exact ha.mono ρ1 _ _ (fun ds ρ2 ⟨ys, z, j, e1, e2, e3, e4, q2⟩ => ⟨ys, z, j, e1, e2, e3, e4, w _ _ q2⟩) q1
  · rintro σ H Q ⟨G, loc, ρ, R, q⟩
    refine ⟨G, loc, ρ, R, ho.mono ρ _ _ (fun d ρ1 q1 v H1 R1 g1 d1 => ?_) q⟩
    cases d <;> first | exact (show False from q1).elim | skip
    obtain ⟨a, xs, rfl, z1, z2, da⟩ := d1.sql
    refine ⟨.inl ⟨rfl, xs, .inl (.inl z1)⟩, G, loc, ρ1, R1, ha.mono ρ1 _ _ (fun ds ρ2 q2 vs H2 R2 g2 d2 => ?_) q1⟩
    obtain ⟨ys, z, j, rfl, rfl, e3, e4, q3⟩ := q2
    obtain ⟨u, rfl, du⟩ := dx_one d2
    cases du
    have ev := da.ints
    subst ev
    obtain ⟨z3, z4⟩ := g2 a _ z1 z2
    refine ⟨a, ys.map V.int, .int z, j, .int z, rfl, rfl, .inl (.inl z3), rfl, ?_, ?_, ?_, ?_, q3 _ _ R2 (g1.trans g2) (.int _)⟩
    · rw [List.all_eq_true]
      intro y hy
      obtain ⟨w, _, rfl⟩ := List.mem_map.mp hy
      rfl
    · rw [List.getElem?_map, e3]; rfl
    · show decide (z = z) = true
      simp
    · intro n y' hn hy
      rw [List.getElem?_map] at hy
      cases hc : ys[n]? with
      | none => rw [hc] at hy; cases hy
      | some y =>
        rw [hc] at hy
        cases hy
        have := e4 n y hn hc
        show decide (y = z) = false
        simp [this]
end
end DL

/-! Numbers of keys: the same just where the keys are the same, each at most one more than all ahead. -/
namespace DL
open PySem
def natD (n : Nat) : D := .int (n : Nat)
theorem natD_inj {a b : Nat} (h : natD a = natD b) : a = b := by
  unfold natD at h
  have := PyData.int.inj h
  omega
/-- each is at most m, or one more than all ahead -/
def Rise : Nat → List Nat → Prop
  | _, [] => True
  | m, n :: ns => n ≤ m ∧ Rise (if n = m then m + 1 else m) ns
theorem nodup_get {α : Type} {xs : List α} (h : xs.Nodup) {i j : Nat} {x : α} (hi : xs[i]? = some x) (hj : xs[j]? = some x) : i = j := by
  obtain ⟨li, ei⟩ := List.getElem?_eq_some_iff.mp hi
  obtain ⟨lj, ej⟩ := List.getElem?_eq_some_iff.mp hj
  exact (List.getElem_inj h).mp (ei.trans ej.symm)
/-- there are numbers; s' are the unlike keys in the order in which they came -/
theorem nums_ex : ∀ (ds seen : List D), seen.Nodup → ∃ (ns : List Nat) (s' : List D), Nums seen ds (ns.map natD) ∧ ns.length = ds.length ∧ Rise seen.length ns ∧ s'.Nodup ∧ (∀ (i : Nat) (x : D), seen[i]? = some x → s'[i]? = some x) ∧ ∀ (i n : Nat) (d : D), ns[i]? = some n → ds[i]? = some d → s'[n]? = some d
  | [], seen, h => ⟨[], seen, .nil _, rfl, trivial, h, fun _ _ e => e, fun i n d e => by simp at e⟩
  | d :: ds, seen, h => by
    by_cases hd : d ∈ seen
    · obtain ⟨j0, hj0⟩ := List.mem_iff_getElem?.mp hd
      obtain ⟨ns, s', h1, h2, h3, h4, h5, h6⟩ := nums_ex ds seen h
      have lt : j0 < seen.length := (List.getElem?_eq_some_iff.mp hj0).1
      refine ⟨j0 :: ns, s', .old hj0 (fun j' z q => ?_) h1, by simp [h2], ⟨by omega, by rw [if_neg (by omega)]; exact h3⟩, h4, h5, fun i n x e1 e2 => ?_⟩
      · have := nodup_get h q hj0
        omega
      · cases i with
        | zero =>
          simp at e1 e2
          subst e1 e2
          exact h5 _ _ hj0
        | succ i => exact h6 i n x (by simpa using e1) (by simpa using e2)
    · have hn : (seen ++ [d]).Nodup := by
        rw [List.nodup_append]
        refine ⟨h, by simp, fun a ha b hb e => ?_⟩
        rw [List.mem_singleton] at hb
        exact hd (by rw [← hb, ← e]; exact ha)
      obtain ⟨ns, s', h1, h2, h3, h4, h5, h6⟩ := nums_ex ds (seen ++ [d]) hn
      have at_ : (seen ++ [d])[seen.length]? = some d := by rw [List.getElem?_append_right (Nat.le_refl _), Nat.sub_self]; rfl
      refine ⟨seen.length :: ns, s', .new (fun j q => hd (List.mem_of_getElem? q)) h1, by simp [h2], ⟨Nat.le_refl _, by rw [if_pos rfl]; rw [List.length_append] at h3; exact h3⟩, h4, fun i x e => h5 i x ?_, fun i n x e1 e2 => ?_⟩
      · rw [List.getElem?_append_left (List.getElem?_eq_some_iff.mp e).1]; exact e
      · cases i with
        | zero =>
          simp at e1 e2
          subst e1 e2
          exact h5 _ _ at_
        | succ i => exact h6 i n x (by simpa using e1) (by simpa using e2)
/-- .. of the keys ds: the same just where the keys are the same -/
structure NumOf (ds : List D) (ns : List Nat) : Prop where
  nums : Nums [] ds (ns.map natD)
  len : ns.length = ds.length
  rise : Rise 0 ns
  eq_ : ∀ (i j a b : Nat) (d e : D), ns[i]? = some a → ns[j]? = some b → ds[i]? = some d → ds[j]? = some e → (a = b ↔ d = e)
theorem numOf_ex (ds : List D) : ∃ ns, NumOf ds ns := by
  obtain ⟨ns, s', h1, h2, h3, h4, _, h6⟩ := nums_ex ds [] List.nodup_nil
  refine ⟨ns, h1, h2, h3, fun i j a b d e ea eb ed ee => ⟨fun q => ?_, fun q => ?_⟩⟩
  · subst q
    have x := h6 i a d ea ed
    have y := h6 j a e eb ee
    rw [x] at y
    exact Option.some.inj y
  · subst q
    exact nodup_get h4 (h6 i a d ea ed) (h6 j b d eb ee)
theorem Rise.le : ∀ {ns : List Nat} {m : Nat}, Rise m ns → ∀ (i n : Nat), ns[i]? = some n → n ≤ m + i
  | [], _, _, i, n, e => by simp at e
  | x :: ns, m, ⟨h1, h2⟩, i, n, e => by
    cases i with
    | zero => simp at e; omega
    | succ i =>
      have := Rise.le h2 i n (by simpa using e)
      split at this <;> omega
/-- the greatest of those ahead, or m - 1 -/
def topI : Int → List Nat → Int
  | t, [] => t
  | t, n :: ns => topI (max t (n : Int)) ns
theorem Rise.step : ∀ {ns : List Nat} {m : Nat}, Rise m ns → ∀ (i n : Nat), ns[i]? = some n → (n : Int) ≤ topI ((m : Int) - 1) (ns.take i) + 1
  | [], _, _, i, n, e => by simp at e
  | x :: ns, m, ⟨h1, h2⟩, i, n, e => by
    cases i with
    | zero =>
      simp at e
      subst e
      show (x : Int) ≤ topI ((m : Int) - 1) [] + 1
      unfold topI; omega
    | succ i =>
      have := Rise.step h2 i n (by simpa using e)
      rw [List.take_succ_cons]
      unfold topI
      by_cases q : x = m
      · rw [if_pos q] at this
        have e2 : max ((m : Int) - 1) (x : Int) = ((m + 1 : Nat) : Int) - 1 := by omega
        rw [e2]; exact this
      · rw [if_neg q] at this
        have e2 : max ((m : Int) - 1) (x : Int) = (m : Int) - 1 := by omega
        rw [e2]; exact this

/-! ### who says the same, round by round -/
/-- told to be the same behind t rounds -/
def Same {α : Type} (tx : Nat → α) (row : Nat → List Nat) : Nat → Nat → Nat → Prop
  | 0, i, j => tx i = tx j
  | t + 1, i, j => Same tx row t i j ∧ (row i).length = (row j).length ∧ ∀ (k a b : Nat), (row i)[k]? = some a → (row j)[k]? = some b → Same tx row t a b
/-- places told otherwise: p stands for f p -/
theorem same_moved {α : Type} {tx tx' : Nat → α} {row row' : Nat → List Nat} {f : Nat → Nat} {n : Nat} (ht : ∀ p, p < n → tx' p = tx (f p)) (hr : ∀ p, p < n → (row' p).map f = row (f p)) (hn : ∀ p, p < n → ∀ a ∈ row' p, a < n) :
    ∀ (t p q : Nat), p < n → q < n → (Same tx' row' t p q ↔ Same tx row t (f p) (f q))
  | 0, p, q, hp, hq => by
    show tx' p = tx' q ↔ tx (f p) = tx (f q)
    rw [ht p hp, ht q hq]
  | t + 1, p, q, hp, hq => by
    have ih := same_moved ht hr hn t
    have lp : (row (f p)).length = (row' p).length := by rw [← hr p hp, List.length_map]
    have lq : (row (f q)).length = (row' q).length := by rw [← hr q hq, List.length_map]
    refine and_congr (ih p q hp hq) (and_congr (by rw [lp, lq]) ⟨fun h k a b ea eb => ?_, fun h k a b ea eb => ?_⟩)
    · rw [← hr p hp, List.getElem?_map] at ea
      rw [← hr q hq, List.getElem?_map] at eb
      cases ca : (row' p)[k]? with
      | none => rw [ca] at ea; cases ea
      | some a' =>
        cases cb : (row' q)[k]? with
        | none => rw [cb] at eb; cases eb
        | some b' =>
          rw [ca] at ea; rw [cb] at eb
          cases ea; cases eb
          exact (ih a' b' (hn p hp a' (List.mem_of_getElem? ca)) (hn q hq b' (List.mem_of_getElem? cb))).mp (h k a' b' ca cb)
    · refine (ih a b (hn p hp a (List.mem_of_getElem? ea)) (hn q hq b (List.mem_of_getElem? eb))).mpr (h k (f a) (f b) ?_ ?_)
      · rw [← hr p hp, List.getElem?_map, ea]; rfl
      · rw [← hr q hq, List.getElem?_map, eb]; rfl
end DL

namespace Law
open PySem L2 DL
/-! ### what each def means -/
abbrev hB : Bool := false
def tup_LEAF_WORDS : List Str := ["num", "arg"]
def tup_HEAD_WORDS : List Str := ["call", "ring", "name"]
def L1__law_folded : SMon := (sAsg (mBin addD (mIxO 2 (mBin modD (mVar 3) (mVar 1))) (mBin mulD (mVar 4) (mBin addD (mVar 3) (mPure (.int 2))))) (gSubD 2 (mBin modD (mVar 3) (mVar 1))))
def G1__law_folded : GMn := (gTupD 2 (gConsD (gVar 3) (gConsD (gVar 4) gNilD)))
def m__law_folded : SMon := (sSeq (sSetN 2 (mListOf (mSlS 0 (mPure none) (mSome (mVar 1)))))
  (sSeq (sFor (mEnum (mCons (mSlS 0 (mSome (mVar 1)) (mSome (mPure (.int 63)))) mNil)) G1__law_folded L1__law_folded)
  (sRetOwn 2)))
def W__law_folded : FS := fnS m__law_folded 3
def E1__law_known : M D := (mTup (mCons (mPure (.int 0)) (mCons (mTup (mCons (mPure (.str "add")) (mCons (mTup (mCons (mPure (.str "num")) (mCons (mPure (.int 1)) mNil))) (mCons (mTup (mCons (mPure (.str "ring")) (mCons (mVar 12) (mCons (mTup mNil) mNil)))) mNil)))) mNil)))
def E2__law_known : M D := (mTup (mCons (mPure (.int 0)) (mCons (mTup (mCons (mPure (.str "add")) (mCons (mTup (mCons (mPure (.str "num")) (mCons (mBin modD (mVar 13) (mPure (.int 2))) mNil))) (mCons (mTup (mCons (mPure (.str "ring")) (mCons (mBin modD (mBin addD (mVar 13) (mPure (.int 1))) (mPure (.int 6))) (mCons (mTup mNil) mNil)))) mNil)))) mNil)))
def E3__law_known : M D := (mTup (mCons (mPure (.int 0)) (mCons (mTup (mCons (mPure (.str "add")) (mCons (mTup (mCons (mPure (.str "num")) (mCons (mBin modD (mVar 13) (mPure (.int 3))) mNil))) (mCons (mTup (mCons (mPure (.str "ring")) (mCons (mBin modD (mBin addD (mVar 13) (mPure (.int 1))) (mPure (.int 6))) (mCons (mTup mNil) mNil)))) mNil)))) mNil)))
def E4__law_known : M D := (mTup (mCons (mPure (.int 0)) (mCons (mTup (mCons (mPure (.str "add")) (mCons (mTup (mCons (mPure (.str "num")) (mCons (mPure (.int 1)) mNil))) (mCons (mTup (mCons (mPure (.str "ring")) (mCons (mBin modD (mBin addD (mVar 13) (mPure (.int 1))) (mPure (.int 12))) (mCons (mTup mNil) mNil)))) mNil)))) mNil)))
def m__law_known : SMon := (sSeq (sSet 0 (mTup (mCons (mPure (.str "arg")) (mCons (mPure (.int 0)) mNil))))
  (sSeq (sSet 1 (mTup (mCons (mPure (.str "less")) (mCons (mVar 0) (mCons (mTup (mCons (mPure (.str "num")) (mCons (mPure (.int 1)) mNil))) mNil)))))
  (sSeq (sSet 2 (mTup (mCons (mPure (.str "if")) (mCons (mVar 0) (mCons (mTup (mCons (mPure (.str "ring")) (mCons (mPure (.int 1)) (mCons (mTup (mCons (mVar 1) mNil)) mNil)))) (mCons (mTup (mCons (mPure (.str "num")) (mCons (mPure (.int 1)) mNil))) mNil))))))
  (sSeq (sSet 3 (mTup (mCons (mPure (.str "if")) (mCons (mVar 0) (mCons (mTup (mCons (mPure (.str "ring")) (mCons (mPure (.int 0)) (mCons (mTup (mCons (mVar 1) mNil)) mNil)))) (mCons (mTup (mCons (mPure (.str "num")) (mCons (mPure (.int 0)) mNil))) mNil))))))
  (sSeq (sSetN 4 (mLen (mCons (mTup (mCons (mList (mLen (mCons (mTup (mCons (mPure (.int 1)) (mCons (mVar 2) mNil))) (mCons (mTup (mCons (mPure (.int 1)) (mCons (mVar 3) mNil))) mNil)))) (mCons (mPure (.str "ab")) mNil))) mNil)))
  (sSeq (sSetN 5 (mLc (mItT (mTup (mCons (mPure (.int 1)) (mCons (mPure (.int 0)) (mCons (mPure (.int 2)) mNil))))) (gVar 12) (mPure true) E1__law_known [12]))
  (sSeq (sDrop (mAppend 4 (mTup (mCons (mVar 5) (mCons (mPure (.str "aaa")) mNil)))))
  (sSeq (sSetN 6 (mLc (mRng1 (mCons (mPure (.int 6)) mNil)) (gVar 13) (mPure true) E2__law_known [13]))
  (sSeq (sDrop (mAppend 4 (mTup (mCons (mVar 6) (mCons (mPure (.str "ababab")) mNil)))))
  (sSeq (sDrop (mAppend 4 (mTup (mCons (mList (mLc (mRng1 (mCons (mPure (.int 6)) mNil)) (gVar 13) (mPure true) E3__law_known [13])) (mCons (mPure (.str "abcabc")) mNil)))))
  (sSeq (sDrop (mAppend 4 (mTup (mCons (mBin addD (mSl (mVar 6) (mPure none) (mSome (mPure (.int 5)))) (mList (mLen (mCons (mTup (mCons (mPure (.int 0)) (mCons (mTup (mCons (mPure (.str "add")) (mCons (mTup (mCons (mPure (.str "num")) (mCons (mPure (.int 2)) mNil))) (mCons (mTup (mCons (mPure (.str "ring")) (mCons (mPure (.int 0)) (mCons (mTup mNil) mNil)))) mNil)))) mNil))) mNil)))) (mCons (mPure (.str "abcdef")) mNil)))))
  (sSeq (sDrop (mAppend 4 (mTup (mCons (mList (mLen (mCons (mTup (mCons (mPure (.int 0)) (mCons (mTup (mCons (mPure (.str "call")) (mCons (mPure (.str "00000a")) (mCons (mTup mNil) mNil)))) mNil))) (mCons (mTup (mCons (mPure (.int 0)) (mCons (mTup (mCons (mPure (.str "call")) (mCons (mPure (.str "00000b")) (mCons (mTup mNil) mNil)))) mNil))) (mCons (mTup (mCons (mPure (.int 0)) (mCons (mTup (mCons (mPure (.str "call")) (mCons (mPure (.str "00000a")) (mCons (mTup mNil) mNil)))) mNil))) mNil))))) (mCons (mPure (.str "aba")) mNil)))))
  (sSeq (sSet 7 (mTup (mCons (mPure (.str "times")) (mCons (mTup (mCons (mPure (.str "add")) (mCons (mTup (mCons (mPure (.str "num")) (mCons (mPure (.int 3)) mNil))) (mCons (mTup (mCons (mPure (.str "if")) (mCons (mVar 0) (mCons (mVar 0) (mCons (mTup (mCons (mPure (.str "num")) (mCons (mPure (.int 4)) mNil))) mNil))))) mNil)))) (mCons (mVar 0) mNil)))))
  (sSeq (sSet 8 (mTup (mCons (mPure (.str "times")) (mCons (mTup (mCons (mPure (.str "add")) (mCons (mTup (mCons (mPure (.str "num")) (mCons (mPure (.int 3)) mNil))) (mCons (mTup (mCons (mPure (.str "if")) (mCons (mVar 0) (mCons (mVar 0) (mCons (mTup (mCons (mPure (.str "num")) (mCons (mPure (.int 5)) mNil))) mNil))))) mNil)))) (mCons (mVar 0) mNil)))))
  (sSeq (sDrop (mAppend 4 (mTup (mCons (mList (mLen (mCons (mTup (mCons (mPure (.int 1)) (mCons (mVar 7) mNil))) (mCons (mTup (mCons (mPure (.int 1)) (mCons (mVar 8) mNil))) (mCons (mTup (mCons (mPure (.int 2)) (mCons (mVar 7) mNil))) (mCons (mTup (mCons (mPure (.int 1)) (mCons (mVar 7) mNil))) mNil)))))) (mCons (mPure (.str "abca")) mNil)))))
  (sSeq (sSetN 9 (mLen (mCons (mTup (mCons (mPure (.str "ring")) (mCons (mPure (.int 2)) (mCons (mTup mNil) mNil)))) (mCons (mTup (mCons (mPure (.str "ring")) (mCons (mPure (.int 3)) (mCons (mTup mNil) mNil)))) mNil))))
  (sSeq (sSetN 10 (mLen (mCons (mTup (mCons (mPure (.int 0)) (mCons (mTup (mCons (mPure (.str "add")) (mCons (mBin ixD (mVar 9) (mPure (.int 0))) (mCons (mBin ixD (mVar 9) (mPure (.int 1))) mNil)))) mNil))) (mCons (mTup (mCons (mPure (.int 0)) (mCons (mTup (mCons (mPure (.str "add")) (mCons (mBin ixD (mVar 9) (mPure (.int 0))) (mCons (mBin ixD (mVar 9) (mPure (.int 0))) mNil)))) mNil))) (mCons (mTup (mCons (mPure (.int 0)) (mCons (mTup (mCons (mPure (.str "num")) (mCons (mPure (.int 1)) mNil))) mNil))) (mCons (mTup (mCons (mPure (.int 0)) (mCons (mTup (mCons (mPure (.str "num")) (mCons (mPure (.int 2)) mNil))) mNil))) mNil))))))
  (sSeq (sDrop (mAppend 4 (mTup (mCons (mVar 10) (mCons (mPure (.str "abcd")) mNil)))))
  (sSeq (sDrop (mAppend 4 (mTup (mCons (mBin addD (mSl (mVar 10) (mPure none) (mSome (mPure (.int 3)))) (mList (mLen (mCons (mTup (mCons (mPure (.int 0)) (mCons (mTup (mCons (mPure (.str "num")) (mCons (mPure (.int 1)) mNil))) mNil))) mNil)))) (mCons (mPure (.str "aabb")) mNil)))))
  (sSeq (sSetN 11 (mLc (mRng1 (mCons (mPure (.int 12)) mNil)) (gVar 13) (mPure true) E4__law_known [13]))
  (sSeq (sDrop (mAppend 4 (mTup (mCons (mVar 11) (mCons (mPure (.str "aaaaaaaaaaaa")) mNil)))))
  (sSeq (sDrop (mAppend 4 (mTup (mCons (mBin addD (mSl (mVar 11) (mPure none) (mSome (mPure (.int 11)))) (mList (mLen (mCons (mTup (mCons (mPure (.int 0)) (mCons (mTup (mCons (mPure (.str "add")) (mCons (mTup (mCons (mPure (.str "num")) (mCons (mPure (.int 2)) mNil))) (mCons (mTup (mCons (mPure (.str "ring")) (mCons (mPure (.int 0)) (mCons (mTup mNil) mNil)))) mNil)))) mNil))) mNil)))) (mCons (mPure (.str "abcdefghijkl")) mNil)))))
  (sRetOwn 4)))))))))))))))))))))))
def W__law_known : FS := fnS m__law_known 14
def m__law_take : SMon := (sSeq (sIf (mTest (mBin gtD (mIxO 0 (mPure (.int 0))) (mPure (.int 0)))) (sSeq (sAsg (mCall divmodD (mCons (mIxO 0 (mPure (.int 0))) (mCons (mVar 1) mNil))) (gTupD 2 (gConsD (gSubD 0 (mPure (.int 0))) (gConsD (gVar 2) gNilD))))
  (sRet (mVar 2))) sNext)
  (sSeq (sIf (mTest (mBin gtD (mVar 1) (mBin powD (mPure (.int 10)) (mPure (.int 7))))) sNever sNext)
  (sSeq (sAsg (mBin addD (mIxO 0 (mPure (.int 2))) (mPure (.int 1))) (gSubD 0 (mPure (.int 2))))
  (sSeq (sSet 3 (mBin addD (mPure (.int 69621)) (mBin mulD (mIxO 0 (mPure (.int 2))) (mIxO 0 (mPure (.int 2))))))
  (sSeq (sSet 4 (mBin modD (mBin mulD (mBin addD (mIxO 0 (mPure (.int 1))) (mBin mulD (mPure (.int 39373)) (mIxO 0 (mPure (.int 2))))) (mVar 3)) (mPure (.int 2147483587))))
  (sSeq (sSet 5 (mBin modD (mBin addD (mBin mulD (mVar 4) (mBin addD (mBin modD (mVar 4) (mPure (.int 30011))) (mPure (.int 5)))) (mIxO 0 (mPure (.int 2)))) (mPure (.int 2147483563))))
  (sRet (mBin modD (mBin fdivD (mBin modD (mBin mulD (mVar 5) (mBin addD (mBin modD (mVar 5) (mPure (.int 1013))) (mPure (.int 3)))) (mPure (.int 998244353))) (mPure (.int 16))) (mVar 1)))))))))
def W__law_take : FB := fnB m__law_take 4
def L1__law_order : SMon := (sDrop (mAppend 3 (mPopAt 2 (mFnB 1 W__law_take 0 (mCons (mLenOwn 2) mNil)))))
def G1__law_order : GMn := (gVar 4)
def m__law_order : SMon := (sSeq (sPar [2, 3] (mPN (mListRng (mCons (mVar 1) mNil)) (mPN (mLen mNil) (mPure []))))
  (sSeq (sFor (mRng1 (mCons (mVar 1) mNil)) G1__law_order L1__law_order)
  (sRetOwn 3)))
def W__law_order : FB := fnB m__law_order 3
def E1__law_placed (self : FW) : M D := (mFnW 2 self 4 (mCons (mVar 3) (mCons (mVar 1) mNil)))
def E2__law_placed (self : FW) : M D := (mFnW 2 self 4 (mCons (mVar 3) (mCons (mVar 1) mNil)))
def E3__law_placed (self : FW) : M D := (mFnW 2 self 4 (mCons (mVar 3) (mCons (mVar 1) mNil)))
def m__law_placed (self : FW) : SMon := (sSeq (sIf (mTest (mBin inD (mBin ixD (mVar 0) (mPure (.int 0))) (mTup (mCons (mPure (.str "num")) (mCons (mPure (.str "arg")) mNil))))) (sRet (mVar 0)) sNext)
  (sSeq (sIf (mTest (mBin eqD (mBin ixD (mVar 0) (mPure (.int 0))) (mPure (.str "call")))) (sRet (mBin addD (mSl (mVar 0) (mPure none) (mSome (mPure (.int 2)))) (mTup (mCons (mCall tupleD (mCons (mList (mLc (mItT (mBin ixD (mVar 0) (mPure (.int 2)))) (gVar 3) (mPure true) (E1__law_placed self) [3])) mNil)) mNil)))) sNext)
  (sSeq (sIf (mTest (mBin eqD (mBin ixD (mVar 0) (mPure (.int 0))) (mPure (.str "ring")))) (sSeq (sSet 2 (mMethW lKd popAtW 4 (mVar 1) (mCons (mPure (.int 0)) mNil)))
  (sRet (mTup (mCons (mPure (.str "ring")) (mCons (mVar 2) (mCons (mCall tupleD (mCons (mList (mLc (mItT (mBin ixD (mVar 0) (mPure (.int 2)))) (gVar 3) (mPure true) (E2__law_placed self) [3])) mNil)) mNil)))))) sNext)
  (sRet (mBin addD (mSl (mVar 0) (mPure none) (mSome (mPure (.int 1)))) (mCall tupleD (mCons (mList (mLc (mItT (mSl (mVar 0) (mSome (mPure (.int 1))) (mPure none))) (gVar 3) (mPure true) (E3__law_placed self) [3])) mNil)))))))
def W__law_placed : Nat → FW
  | 0 => fun _ _ _ => False
  | n + 1 => fnW (m__law_placed (W__law_placed n)) 2 2
def L1__law_spots (self : FS) : SMon := (sSet 1 (mBin addD (mVar 1) (mFn 1 self (mCons (mVar 3) mNil))))
def G1__law_spots (self : FS) : GMn := (gVar 3)
def m__law_spots (self : FS) : SMon := (sSeq (sIf (mTest (mBin inD (mBin ixD (mVar 0) (mPure (.int 0))) (mTup (mCons (mPure (.str "num")) (mCons (mPure (.str "arg")) mNil))))) (sRetN (mLen mNil)) sNext)
  (sSeq (sPar [1, 2] (mPN (mLen mNil) (mPD (mSl (mVar 0) (mSome (mPure (.int 1))) (mPure none)) (mPure []))))
  (sSeq (sIf (mTest (mBin inD (mBin ixD (mVar 0) (mPure (.int 0))) (mTup (mCons (mPure (.str "call")) (mCons (mPure (.str "ring")) mNil))))) (sPar [1, 2] (mPD (mBin mulD (mList (mLen (mCons (mBin ixD (mVar 0) (mPure (.int 1))) mNil))) (mCall intD (mCons (mBin eqD (mBin ixD (mVar 0) (mPure (.int 0))) (mPure (.str "ring"))) mNil))) (mPD (mBin ixD (mVar 0) (mPure (.int 2))) (mPure [])))) sNext)
  (sSeq (sFor (mItT (mVar 2)) (G1__law_spots self) (L1__law_spots self))
  (sRet (mVar 1))))))
def W__law_spots : Nat → FS
  | 0 => fun _ _ => False
  | n + 1 => fnS (m__law_spots (W__law_spots n)) 3
def m_numbers_of : SMon := (sNums 0 1 2)
def W_numbers_of : FS := fnS m_numbers_of 2
def m_head_text : SMon := (sSeq (sIf (mTest (mBin eqD (mBin ixD (mVar 0) (mPure (.int 0))) (mPure (.str "call")))) (sRet (mBin addD (mPure (.str "#")) (mBin ixD (mVar 0) (mPure (.int 1))))) sNext)
  (sRet (mIf (mTest (mBin eqD (mBin ixD (mVar 0) (mPure (.int 0))) (mPure (.str "ring")))) (mBin addD (mPure (.str "@")) (mCall strD (mCons (mBin ixD (mVar 0) (mPure (.int 1))) mNil))) (mBin ixD (mVar 0) (mPure (.int 0))))))
def W_head_text : FS := fnS m_head_text 0
def m_parts_of : SMon := (sSeq (sStar 1 2 (mVar 0))
  (sSeq (sIf (mTest (mBin inD (mVar 1) (mTup (mCons (mPure (.str "num")) (mCons (mPure (.str "arg")) mNil))))) (sRetN (mLen mNil)) sNext)
  (sRet (mIf (mTest (mBin inD (mVar 1) (mTup (mCons (mPure (.str "call")) (mCons (mPure (.str "ring")) mNil))))) (mList (mListOf (mBin ixD (mVar 0) (mPure (.int 2))))) (mVar 2)))))
def W_parts_of : FS := fnS m_parts_of 2
def E1_term_text (self : FS) : M D := (mFn 1 self (mCons (mVar 1) mNil))
def m_term_text (self : FS) : SMon := (sSeq (sIf (mTest (mBin eqD (mBin ixD (mVar 0) (mPure (.int 0))) (mPure (.str "num")))) (sRet (mCall strD (mCons (mBin ixD (mVar 0) (mPure (.int 1))) mNil))) sNext)
  (sSeq (sIf (mTest (mBin eqD (mBin ixD (mVar 0) (mPure (.int 0))) (mPure (.str "arg")))) (sRet (mBin ixD (mPure (.str "abcd")) (mBin ixD (mVar 0) (mPure (.int 1))))) sNext)
  (sRet (mBin addD (mBin addD (mPure (.str "(")) (mMeth joinD (mPure (.str " ")) (mCons (mBin addD (mList (mLen (mCons (mFn 1 W_head_text (mCons (mVar 0) mNil)) mNil))) (mList (mLc (mItL (mFn 1 W_parts_of (mCons (mVar 0) mNil))) (gVar 1) (mPure true) (E1_term_text self) [1]))) mNil))) (mPure (.str ")"))))))
def W_term_text : Nat → FS
  | 0 => fun _ _ => False
  | n + 1 => fnS (m_term_text (W_term_text n)) 1
def m_without_places : SMon := (sRet (mIf (mTest (mBin eqD (mBin ixD (mVar 0) (mPure (.int 0))) (mPure (.str "ring")))) (mTup (mCons (mPure (.str "ring")) (mCons (mPure (.int 0)) mNil))) (mVar 0)))
def W_without_places : FS := fnS m_without_places 0
def tabL_led_term : List (Str × Nat × FS) := [("without_places", 1, W_without_places)]
def E1_led_term (self : FS) : M D := (mFn 2 self (mCons (mVar 4) (mCons (mVar 1) mNil)))
def E2_led_term (self : FS) : M D := (mFn 2 self (mCons (mVar 4) (mCons (mVar 1) mNil)))
def m_led_term (self : FS) : SMon := (sSeq (sStar 2 3 (mVar 0))
  (sSeq (sIf (mTest (mBin inD (mVar 2) (mPure (.tuple (tup_LEAF_WORDS.map PyData.str))))) (sRet (mVar 0)) sNext)
  (sSeq (sIf (mTest (mBin inD (mVar 2) (mPure (.tuple (tup_HEAD_WORDS.map PyData.str))))) (sRet (mBin addD (mFnV 1 tabL_led_term (mCons (mSl (mVar 0) (mPure none) (mSome (mPure (.int 2)))) mNil)) (mTup (mCons (mCall tupleD (mCons (mList (mLc (mItT (mBin ixD (mVar 0) (mPure (.int 2)))) (gVar 4) (mPure true) (E1_led_term self) [4])) mNil)) mNil)))) sNext)
  (sRet (mBin addD (mTup (mCons (mVar 2) mNil)) (mCall tupleD (mCons (mList (mLc (mItL (mVar 3)) (gVar 4) (mPure true) (E2_led_term self) [4])) mNil)))))))
def W_led_term : Nat → FS
  | 0 => fun _ _ => False
  | n + 1 => fnS (m_led_term (W_led_term n)) 3
def m_heads_of (self : FS) : SMon := (sSeq (sSet 2 (mIf (mTest (mBin eqD (mBin ixD (mVar 0) (mPure (.int 0))) (mVar 1))) (mList (mLen (mCons (mBin ixD (mVar 0) (mPure (.int 1))) mNil))) (mList (mLen mNil))))
  (sRet (mBin addD (mVar 2) (mList (mLc2 (mItL (mFn 1 W_parts_of (mCons (mVar 0) mNil))) (gVar 3) (mPure true) (mItL (mFn 2 self (mCons (mVar 3) (mCons (mVar 1) mNil)))) (gVar 4) (mPure true) (mVar 4) [3, 4] [4])))))
def W_heads_of : Nat → FS
  | 0 => fun _ _ => False
  | n + 1 => fnS (m_heads_of (W_heads_of n)) 3
def m_places_of : SMon := (sRet (mFn 2 (W_heads_of 9) (mCons (mVar 0) (mCons (mPure (.str "ring")) mNil))))
def W_places_of : FS := fnS m_places_of 0
def E1_saying : M D := (mJoinF [(mFmt (mVar 4)), (mPure (.str ":")), (mFmt (mFn 1 (W_term_text 9) (mCons (mFn 2 (W_led_term 9) (mCons (mVar 5) (mCons (mPure (.dict (fnD "without_places"))) mNil))) mNil)))] Str.empty)
def E2_saying : M D := (mFn 1 W_places_of (mCons (mVar 5) mNil))
def E3_saying : M D := (mBin ixD (mVar 1) (mVar 8))
def E4_saying : M D := (mTup (mCons (mVar 6) (mCons (mCall tupleD (mCons (mList (mLc (mItL (mVar 7)) (gVar 8) (mPure true) E3_saying [8])) mNil)) mNil)))
def L1_saying : SMon := (sSet 1 (mFn 1 W_numbers_of (mCons (mList (mLc (mZip (mCons (mVar 1) (mCons (mVar 2) mNil))) (gTupD 2 (gConsD (gVar 6) (gConsD (gVar 7) gNilD))) (mPure true) E4_saying [6, 7])) mNil)))
def G1_saying : GMn := (gVar 3)
def m_saying : SMon := (sSeq (sSet 1 (mFn 1 W_numbers_of (mCons (mList (mLc (mItL (mVar 0)) (gTupD 2 (gConsD (gVar 4) (gConsD (gVar 5) gNilD))) (mPure true) E1_saying [4, 5])) mNil)))
  (sSeq (sSetN 2 (mLc (mItL (mVar 0)) (gTupD 2 (gConsD (gVar 4) (gConsD (gVar 5) gNilD))) (mPure true) E2_saying [4, 5]))
  (sSeq (sFor (mRng1 (mCons (mCall lenD (mCons (mVar 0) mNil)) mNil)) G1_saying L1_saying)
  (sRet (mVar 1)))))
def W_saying : FS := fnS m_saying 8
def E1__law_right : M D := (mBin ixD (mVar 2) (mVar 6))
def E2__law_right : M D := (mIndexI (mVar 3) (mCons (mVar 10) mNil))
def L1__law_right : SMon := (sSeq (sAsg (mBin ixD (mVar 1) (mVar 6)) (gTupD 2 (gConsD (gVar 7) (gConsD (gVar 8) gNilD))))
  (sDrop (mAppend 4 (mTup (mCons (mVar 7) (mCons (mFnW 2 (W__law_placed 9) 14 (mCons (mVar 8) (mCons (mNewC 14 (mLc (mItL (mFn 1 (W__law_spots 9) (mCons (mVar 8) mNil))) (gVar 10) (mPure true) E2__law_right [10])) mNil))) mNil))))))
def G1__law_right : GMn := (gVar 6)
def E3__law_right : M D := (mIndexI (mVar 9) (mCons (mVar 11) mNil))
def E4__law_right : M D := (mMeth indexD (mVar 5) (mCons (mVar 12) mNil))
def E5__law_right : M D := (mChain leD leD (mPure (.int 0)) (mVar 11) (mBin addD (mCall maxLD (mCons (mBin addD (mList (mLen (mCons (mNeg (mPure (.int 1))) mNil))) (mSl (mVar 9) (mPure none) (mSome (mVar 13)))) mNil)) (mPure (.int 1))))
def L2__law_right : SMon := (sSeq (sSet 3 (mFnB 1 W__law_order 0 (mCons (mCall lenD (mCons (mVar 1) mNil)) mNil)))
  (sSeq (sPar [4, 5] (mPN (mLen mNil) (mPD (mMeth joinD (mPure (.str "")) (mCons (mList (mLc (mItL (mVar 3)) (gVar 6) (mPure true) E1__law_right [6])) mNil)) (mPure []))))
  (sSeq (sFor (mItL (mVar 3)) G1__law_right L1__law_right)
  (sSeq (sSet 9 (mFn 1 W_saying (mCons (mVar 4) mNil)))
  (sSeq (sIf (mTest (mBin neD (mList (mLc (mItL (mVar 9)) (gVar 11) (mPure true) E3__law_right [11])) (mList (mLc (mItS (mVar 5)) (gVar 12) (mPure true) E4__law_right [12])))) (sRet (mPure (.bool false))) sNext)
  (sIf (mNot (mTest (mCall allD (mCons (mList (mLc (mEnum (mCons (mVar 9) mNil)) (gTupD 2 (gConsD (gVar 13) (gConsD (gVar 11) gNilD))) (mPure true) E5__law_right [13, 11])) mNil)))) (sRet (mPure (.bool false))) sNext))))))
def G2__law_right : GMn := (gTupD 2 (gConsD (gVar 1) (gConsD (gVar 2) gNilD)))
def m__law_right : SMon := (sSeq (sFor (mItL (mFn 0 W__law_known mNil)) G2__law_right L2__law_right)
  (sRet (mPure (.bool true))))
def W__law_right : FB := fnBSW m__law_right 0 13
def m__law_box : SMon := (sSeq (sSet 2 (mIf (mTest (mBin ltD (mVar 1) (mCall lenD (mCons (mVar 0) mNil)))) (mBin ixD (mVar 0) (mVar 1)) (mPure (.int 0))))
  (sRetN (mLen (mCons (mBin mulD (mCall absD (mCons (mVar 2) mNil)) (mCall intD (mCons (mBin geD (mCall absD (mCons (mVar 2) mNil)) (mBin powD (mPure (.int 10)) (mPure (.int 18)))) mNil))) (mCons (mBin modD (mBin mulD (mBin addD (mBin addD (mBin modD (mVar 2) (mPure (.int 2147483629))) (mBin mulD (mPure (.int 15485863)) (mVar 1))) (mPure (.int 43))) (mPure (.int 48271))) (mPure (.int 2147483647))) (mCons (mPure (.int 0)) mNil))))))
def W__law_box : FS := fnS m__law_box 1
def E1_law : M D := (mFnBn 0 W__law_right (mFnN 2 W__law_box (mCons (mVar 1) (mCons (mVar 2) mNil))) mNil)
def m_law : SMon := (sSeq (sSetN 1 (mFnN 2 W__law_folded (mCons (mVar 0) (mCons (mPure (.int 4)) mNil))))
  (sRet (mCall allD (mCons (mList (mLc (mRng1 (mCons (mCall maxD (mCons (mPure (.int 1)) (mCons (mCall lenD (mCons (mVar 1) mNil)) mNil))) mNil)) (gVar 2) (mPure true) E1_law [2])) mNil))))
def W_law : FS := fnS m_law 2

/-! ### the walk -/
def topS (i : Nat) : Stmt := PySem.Challenge.pw_contentnames_k09_known_sayings.main.body.getD i (.Pass ⟨0, 0, 0, 0⟩)
abbrev s__law_folded : Stmt := topS 24
theorem sc__law_folded : FnScope ["script", "size", "cells", "k", "cell"] ["script", "size"] (defScope s__law_folded) := ⟨rfl, rfl, rfl, by decide +kernel, rfl, by decide +kernel, by decide +kernel⟩
abbrev s__law_known : Stmt := topS 27
theorem sc__law_known : FnScope ["up", "step", "even", "odd", "found", "one", "six", "deep", "other", "pair", "two", "twelve", "place", "k"] [] (defScope s__law_known) := ⟨rfl, rfl, rfl, by decide +kernel, rfl, by decide +kernel, by decide +kernel⟩
abbrev s__law_take : Stmt := topS 23
theorem sc__law_take : FnScope ["box", "size", "found", "step", "once", "twice"] ["box", "size"] (defScope s__law_take) := ⟨rfl, rfl, rfl, by decide +kernel, rfl, by decide +kernel, by decide +kernel⟩
abbrev s__law_order : Stmt := topS 28
theorem sc__law_order : FnScope ["box", "size", "left", "found", "turn"] ["box", "size"] (defScope s__law_order) := ⟨rfl, rfl, rfl, by decide +kernel, rfl, by decide +kernel, by decide +kernel⟩
abbrev s__law_placed : Stmt := topS 25
theorem sc__law_placed : FnScope ["term", "places", "place", "one", "~"] ["term", "places"] (defScope s__law_placed) := ⟨rfl, rfl, rfl, by decide +kernel, rfl, by decide +kernel, by decide +kernel⟩
abbrev s__law_spots : Stmt := topS 26
theorem sc__law_spots : FnScope ["term", "found", "parts", "one"] ["term"] (defScope s__law_spots) := ⟨rfl, rfl, rfl, by decide +kernel, rfl, by decide +kernel, by decide +kernel⟩
abbrev s_numbers_of : Stmt := topS 19
theorem sc_numbers_of : FnScope ["keys", "found", "key"] ["keys"] (defScope s_numbers_of) := ⟨rfl, rfl, rfl, by decide +kernel, rfl, by decide +kernel, by decide +kernel⟩
abbrev s_head_text : Stmt := topS 12
theorem sc_head_text : FnScope ["term"] ["term"] (defScope s_head_text) := ⟨rfl, rfl, rfl, by decide +kernel, rfl, by decide +kernel, by decide +kernel⟩
abbrev s_parts_of : Stmt := topS 5
theorem sc_parts_of : FnScope ["term", "word", "parts"] ["term"] (defScope s_parts_of) := ⟨rfl, rfl, rfl, by decide +kernel, rfl, by decide +kernel, by decide +kernel⟩
abbrev s_term_text : Stmt := topS 13
theorem sc_term_text : FnScope ["term", "part"] ["term"] (defScope s_term_text) := ⟨rfl, rfl, rfl, by decide +kernel, rfl, by decide +kernel, by decide +kernel⟩
abbrev s_without_places : Stmt := topS 18
theorem sc_without_places : FnScope ["head"] ["head"] (defScope s_without_places) := ⟨rfl, rfl, rfl, by decide +kernel, rfl, by decide +kernel, by decide +kernel⟩
abbrev s_led_term : Stmt := topS 17
theorem sc_led_term : FnScope ["term", "lead", "word", "parts", "part"] ["term", "lead"] (defScope s_led_term) := ⟨rfl, rfl, rfl, by decide +kernel, rfl, by decide +kernel, by decide +kernel⟩
abbrev s_heads_of : Stmt := topS 6
theorem sc_heads_of : FnScope ["term", "word", "own", "part", "one"] ["term", "word"] (defScope s_heads_of) := ⟨rfl, rfl, rfl, by decide +kernel, rfl, by decide +kernel, by decide +kernel⟩
abbrev s_places_of : Stmt := topS 7
theorem sc_places_of : FnScope ["term"] ["term"] (defScope s_places_of) := ⟨rfl, rfl, rfl, by decide +kernel, rfl, by decide +kernel, by decide +kernel⟩
abbrev s_saying : Stmt := topS 20
theorem sc_saying : FnScope ["bodies", "groups", "called", "turn", "many", "term", "group", "row", "one"] ["bodies"] (defScope s_saying) := ⟨rfl, rfl, rfl, by decide +kernel, rfl, by decide +kernel, by decide +kernel⟩
abbrev s__law_right : Stmt := topS 29
theorem sc__law_right : FnScope ["box", "bodies", "letters", "order", "moved", "names", "old", "count", "term", "found", "spot", "number", "letter", "at", "~"] ["box"] (defScope s__law_right) := ⟨rfl, rfl, rfl, by decide +kernel, rfl, by decide +kernel, by decide +kernel⟩
abbrev s__law_box : Stmt := topS 22
theorem sc__law_box : FnScope ["script", "k", "cell"] ["script", "k"] (defScope s__law_box) := ⟨rfl, rfl, rfl, by decide +kernel, rfl, by decide +kernel, by decide +kernel⟩
abbrev s_law : Stmt := topS 30
theorem sc_law : FnScope ["script", "cells", "k"] ["script"] (defScope s_law) := ⟨rfl, rfl, rfl, by decide +kernel, rfl, by decide +kernel, by decide +kernel⟩
structure Tops (K : PySem.W.Frag) (mg : Str → Option Value) where
  f__law_folded : Addr
  d__law_folded : FuncData
  F__law_folded : Fun K "_law_folded" "_law_folded" s__law_folded f__law_folded d__law_folded
  g__law_folded : mg "_law_folded" = some (.ref f__law_folded)
  b__law_folded : Binds K d__law_folded ["script", "size"] []
  f__law_known : Addr
  d__law_known : FuncData
  F__law_known : Fun K "_law_known" "_law_known" s__law_known f__law_known d__law_known
  g__law_known : mg "_law_known" = some (.ref f__law_known)
  b__law_known : Binds K d__law_known [] []
  f__law_take : Addr
  d__law_take : FuncData
  F__law_take : Fun K "_law_take" "_law_take" s__law_take f__law_take d__law_take
  g__law_take : mg "_law_take" = some (.ref f__law_take)
  b__law_take : Binds K d__law_take ["box", "size"] []
  f__law_order : Addr
  d__law_order : FuncData
  F__law_order : Fun K "_law_order" "_law_order" s__law_order f__law_order d__law_order
  g__law_order : mg "_law_order" = some (.ref f__law_order)
  b__law_order : Binds K d__law_order ["box", "size"] []
  f__law_placed : Addr
  d__law_placed : FuncData
  F__law_placed : Fun K "_law_placed" "_law_placed" s__law_placed f__law_placed d__law_placed
  g__law_placed : mg "_law_placed" = some (.ref f__law_placed)
  b__law_placed : Binds K d__law_placed ["term", "places"] []
  f__law_spots : Addr
  d__law_spots : FuncData
  F__law_spots : Fun K "_law_spots" "_law_spots" s__law_spots f__law_spots d__law_spots
  g__law_spots : mg "_law_spots" = some (.ref f__law_spots)
  b__law_spots : Binds K d__law_spots ["term"] []
  f_numbers_of : Addr
  d_numbers_of : FuncData
  F_numbers_of : Fun K "numbers_of" "numbers_of" s_numbers_of f_numbers_of d_numbers_of
  g_numbers_of : mg "numbers_of" = some (.ref f_numbers_of)
  b_numbers_of : Binds K d_numbers_of ["keys"] []
  f_head_text : Addr
  d_head_text : FuncData
  F_head_text : Fun K "head_text" "head_text" s_head_text f_head_text d_head_text
  g_head_text : mg "head_text" = some (.ref f_head_text)
  b_head_text : Binds K d_head_text ["term"] []
  f_parts_of : Addr
  d_parts_of : FuncData
  F_parts_of : Fun K "parts_of" "parts_of" s_parts_of f_parts_of d_parts_of
  g_parts_of : mg "parts_of" = some (.ref f_parts_of)
  b_parts_of : Binds K d_parts_of ["term"] []
  f_term_text : Addr
  d_term_text : FuncData
  F_term_text : Fun K "term_text" "term_text" s_term_text f_term_text d_term_text
  g_term_text : mg "term_text" = some (.ref f_term_text)
  b_term_text : Binds K d_term_text ["term"] []
  f_without_places : Addr
  d_without_places : FuncData
  F_without_places : Fun K "without_places" "without_places" s_without_places f_without_places d_without_places
  g_without_places : mg "without_places" = some (.ref f_without_places)
  b_without_places : Binds K d_without_places ["head"] []
  f_led_term : Addr
  d_led_term : FuncData
  F_led_term : Fun K "led_term" "led_term" s_led_term f_led_term d_led_term
  g_led_term : mg "led_term" = some (.ref f_led_term)
  b_led_term : Binds K d_led_term ["term", "lead"] []
  f_heads_of : Addr
  d_heads_of : FuncData
  F_heads_of : Fun K "heads_of" "heads_of" s_heads_of f_heads_of d_heads_of
  g_heads_of : mg "heads_of" = some (.ref f_heads_of)
  b_heads_of : Binds K d_heads_of ["term", "word"] []
  f_places_of : Addr
  d_places_of : FuncData
  F_places_of : Fun K "places_of" "places_of" s_places_of f_places_of d_places_of
  g_places_of : mg "places_of" = some (.ref f_places_of)
  b_places_of : Binds K d_places_of ["term"] []
  f_saying : Addr
  d_saying : FuncData
  F_saying : Fun K "saying" "saying" s_saying f_saying d_saying
  g_saying : mg "saying" = some (.ref f_saying)
  b_saying : Binds K d_saying ["bodies"] []
  f__law_right : Addr
  d__law_right : FuncData
  F__law_right : Fun K "_law_right" "_law_right" s__law_right f__law_right d__law_right
  g__law_right : mg "_law_right" = some (.ref f__law_right)
  b__law_right : Binds K d__law_right ["box"] []
  f__law_box : Addr
  d__law_box : FuncData
  F__law_box : Fun K "_law_box" "_law_box" s__law_box f__law_box d__law_box
  g__law_box : mg "_law_box" = some (.ref f__law_box)
  b__law_box : Binds K d__law_box ["script", "k"] []
  f_law : Addr
  d_law : FuncData
  F_law : Fun K "law" "law" s_law f_law d_law
  g_law : mg "law" = some (.ref f_law)
  b_law : Binds K d_law ["script"] []
  el_without_places : FnAt K "without_places" f_without_places
  z_abs : mg "abs" = none
  z_all : mg "all" = none
  z_divmod : mg "divmod" = none
  z_enumerate : mg "enumerate" = none
  z_int : mg "int" = none
  z_len : mg "len" = none
  z_list : mg "list" = none
  z_max : mg "max" = none
  z_range : mg "range" = none
  z_str : mg "str" = none
  z_tuple : mg "tuple" = none
  z_zip : mg "zip" = none
  t_ARG : Tok
  c_ARG : mg "ARG" = some (.str "arg" t_ARG)
  t_ARG_SIGNS : Tok
  c_ARG_SIGNS : mg "ARG_SIGNS" = some (.str "abcd" t_ARG_SIGNS)
  t_CALL : Tok
  c_CALL : mg "CALL" = some (.str "call" t_CALL)
  t_CALL_SIGN : Tok
  c_CALL_SIGN : mg "CALL_SIGN" = some (.str "#" t_CALL_SIGN)
  t_NUM : Tok
  c_NUM : mg "NUM" = some (.str "num" t_NUM)
  t_RING : Tok
  c_RING : mg "RING" = some (.str "ring" t_RING)
  t_RING_SIGN : Tok
  c_RING_SIGN : mg "RING_SIGN" = some (.str "@" t_RING_SIGN)
  a_HEAD_WORDS : Addr
  n_HEAD_WORDS : mg "HEAD_WORDS" = some (.ref a_HEAD_WORDS)
  t_HEAD_WORDS : SqTK K a_HEAD_WORDS (tup_HEAD_WORDS.map V.str)
  a_LEAF_WORDS : Addr
  n_LEAF_WORDS : mg "LEAF_WORDS" = some (.ref a_LEAF_WORDS)
  t_LEAF_WORDS : SqTK K a_LEAF_WORDS (tup_LEAF_WORDS.map V.str)
section
variable {P : Program} {w : World} {K : PySem.W.Frag} {mg : Str → Option Value} {base : Heap}
theorem ok__law_folded (T : Tops K mg) : OkS P w K mg base 1 T.f__law_folded T.d__law_folded ["script", "size"] 2 W__law_folded :=
  okS_of (k := 0) (by decide) T.F__law_folded sc__law_folded fun cdv A outer s H E hr => (bm_cons (sm_setN (i := 2) sc__law_folded.nd rfl (by first | exact Or.inl rfl | exact Or.inr rfl) (nm_list T.z_list (em_slS (pv 0) om_none (om_some (em_var 1 (pv 1))))))
  (bm_cons (sm_for [3, 4] PassesOwn.never rfl (im_enum (am_cons (em_slS (pv 0) (om_some (em_var 1 (pv 1))) (om_some em_int)) am_nil) T.z_enumerate) (gm_tup (n := 2) rfl (gsm_cons (gm_name (i := 3) sc__law_folded.nd rfl (by first | exact Or.inl rfl | exact Or.inr rfl) (by decide)) (gsm_cons (gm_name (i := 4) sc__law_folded.nd rfl (by first | exact Or.inl rfl | exact Or.inr rfl) (by decide)) gsm_nil))) (bm_one (sm_asg [] (em_add (em_ixO (pv 2) (em_mod (em_var 3 (pv 3)) (em_var 1 (pv 1))) (fun _ _ => rfl)) (em_mul (em_var 4 (pv 4)) (em_add (em_var 3 (pv 3)) em_int))) (gm_sub (pv 2) (em_mod (em_var 3 (pv 3)) (em_var 1 (pv 1)))))))
  (bm_one (sm_retOwn 2 (pv 2)))))
theorem ok__law_known (T : Tops K mg) : OkS P w K mg base 1 T.f__law_known T.d__law_known [] 0 W__law_known :=
  okS_of (k := 0) (by decide) T.F__law_known sc__law_known fun cdv A outer s H E hr => (bm_cons (sm_set (i := 0) sc__law_known.nd rfl (by first | exact Or.inl rfl | exact Or.inr rfl) (em_tup (am_cons em_str (am_cons em_int am_nil))))
  (bm_cons (sm_set (i := 1) sc__law_known.nd rfl (by first | exact Or.inl rfl | exact Or.inr rfl) (em_tup (am_cons em_str (am_cons (em_var 0 (pv 0)) (am_cons (em_tup (am_cons em_str (am_cons em_int am_nil))) am_nil)))))
  (bm_cons (sm_set (i := 2) sc__law_known.nd rfl (by first | exact Or.inl rfl | exact Or.inr rfl) (em_tup (am_cons em_str (am_cons (em_var 0 (pv 0)) (am_cons (em_tup (am_cons em_str (am_cons em_int (am_cons (em_tup (am_cons (em_var 1 (pv 1)) am_nil)) am_nil)))) (am_cons (em_tup (am_cons em_str (am_cons em_int am_nil))) am_nil))))))
  (bm_cons (sm_set (i := 3) sc__law_known.nd rfl (by first | exact Or.inl rfl | exact Or.inr rfl) (em_tup (am_cons em_str (am_cons (em_var 0 (pv 0)) (am_cons (em_tup (am_cons em_str (am_cons em_int (am_cons (em_tup (am_cons (em_var 1 (pv 1)) am_nil)) am_nil)))) (am_cons (em_tup (am_cons em_str (am_cons em_int am_nil))) am_nil))))))
  (bm_cons (sm_setN (i := 4) sc__law_known.nd rfl (by first | exact Or.inl rfl | exact Or.inr rfl) (nm_lst (am_cons (em_tup (am_cons (em_ofN (nm_lst (am_cons (em_tup (am_cons em_int (am_cons (em_var 2 (pv 2)) am_nil))) (am_cons (em_tup (am_cons em_int (am_cons (em_var 3 (pv 3)) am_nil))) am_nil)))) (am_cons em_str am_nil))) am_nil)))
  (bm_cons (sm_setLc [("place", 12)] (i := 5) rfl sc__law_known.nd rfl rfl rfl (im_tup (em_tup (am_cons em_int (am_cons em_int (am_cons em_int am_nil))))) rfl (fun _ _ _ _ _ => (gm_name (i := 12) sc__law_known.nd rfl (by first | exact Or.inl rfl | exact Or.inr rfl) (by decide))) (fun _ _ _ _ _ => tsm_nil) (fun _ _ _ _ _ => (em_tup (am_cons em_int (am_cons (em_tup (am_cons em_str (am_cons (em_tup (am_cons em_str (am_cons em_int am_nil))) (am_cons (em_tup (am_cons em_str (am_cons (em_var 12 (pv 12)) (am_cons (em_tup am_nil) am_nil)))) am_nil)))) am_nil)))))
  (bm_cons (sm_drop (em_append (pv 4) (em_tup (am_cons (em_var 5 (pv 5)) (am_cons em_str am_nil)))))
  (bm_cons (sm_setLc [("k", 13)] (i := 6) rfl sc__law_known.nd rfl rfl rfl (im_range1 (am_cons em_int am_nil) T.z_range) rfl (fun _ _ _ _ _ => (gm_name (i := 13) sc__law_known.nd rfl (by first | exact Or.inl rfl | exact Or.inr rfl) (by decide))) (fun _ _ _ _ _ => tsm_nil) (fun _ _ _ _ _ => (em_tup (am_cons em_int (am_cons (em_tup (am_cons em_str (am_cons (em_tup (am_cons em_str (am_cons (em_mod (em_var 13 (pv 13)) em_int) am_nil))) (am_cons (em_tup (am_cons em_str (am_cons (em_mod (em_add (em_var 13 (pv 13)) em_int) em_int) (am_cons (em_tup am_nil) am_nil)))) am_nil)))) am_nil)))))
  (bm_cons (sm_drop (em_append (pv 4) (em_tup (am_cons (em_var 6 (pv 6)) (am_cons em_str am_nil)))))
  (bm_cons (sm_drop (em_append (pv 4) (em_tup (am_cons (em_ofN (nm_lc [("k", 13)] rfl sc__law_known.nd (im_range1 (am_cons em_int am_nil) T.z_range) rfl (fun _ _ _ _ _ => (gm_name (i := 13) sc__law_known.nd rfl (by first | exact Or.inl rfl | exact Or.inr rfl) (by decide))) (fun _ _ _ _ _ => tsm_nil) (fun _ _ _ _ _ => (em_tup (am_cons em_int (am_cons (em_tup (am_cons em_str (am_cons (em_tup (am_cons em_str (am_cons (em_mod (em_var 13 (pv 13)) em_int) am_nil))) (am_cons (em_tup (am_cons em_str (am_cons (em_mod (em_add (em_var 13 (pv 13)) em_int) em_int) (am_cons (em_tup am_nil) am_nil)))) am_nil)))) am_nil)))))) (am_cons em_str am_nil)))))
  (bm_cons (sm_drop (em_append (pv 4) (em_tup (am_cons (em_add (em_sl (em_var 6 (pv 6)) om_none (om_some em_int)) (em_ofN (nm_lst (am_cons (em_tup (am_cons em_int (am_cons (em_tup (am_cons em_str (am_cons (em_tup (am_cons em_str (am_cons em_int am_nil))) (am_cons (em_tup (am_cons em_str (am_cons em_int (am_cons (em_tup am_nil) am_nil)))) am_nil)))) am_nil))) am_nil)))) (am_cons em_str am_nil)))))
  (bm_cons (sm_drop (em_append (pv 4) (em_tup (am_cons (em_ofN (nm_lst (am_cons (em_tup (am_cons em_int (am_cons (em_tup (am_cons em_str (am_cons em_str (am_cons (em_tup am_nil) am_nil)))) am_nil))) (am_cons (em_tup (am_cons em_int (am_cons (em_tup (am_cons em_str (am_cons em_str (am_cons (em_tup am_nil) am_nil)))) am_nil))) (am_cons (em_tup (am_cons em_int (am_cons (em_tup (am_cons em_str (am_cons em_str (am_cons (em_tup am_nil) am_nil)))) am_nil))) am_nil))))) (am_cons em_str am_nil)))))
  (bm_cons (sm_set (i := 7) sc__law_known.nd rfl (by first | exact Or.inl rfl | exact Or.inr rfl) (em_tup (am_cons em_str (am_cons (em_tup (am_cons em_str (am_cons (em_tup (am_cons em_str (am_cons em_int am_nil))) (am_cons (em_tup (am_cons em_str (am_cons (em_var 0 (pv 0)) (am_cons (em_var 0 (pv 0)) (am_cons (em_tup (am_cons em_str (am_cons em_int am_nil))) am_nil))))) am_nil)))) (am_cons (em_var 0 (pv 0)) am_nil)))))
  (bm_cons (sm_set (i := 8) sc__law_known.nd rfl (by first | exact Or.inl rfl | exact Or.inr rfl) (em_tup (am_cons em_str (am_cons (em_tup (am_cons em_str (am_cons (em_tup (am_cons em_str (am_cons em_int am_nil))) (am_cons (em_tup (am_cons em_str (am_cons (em_var 0 (pv 0)) (am_cons (em_var 0 (pv 0)) (am_cons (em_tup (am_cons em_str (am_cons em_int am_nil))) am_nil))))) am_nil)))) (am_cons (em_var 0 (pv 0)) am_nil)))))
  (bm_cons (sm_drop (em_append (pv 4) (em_tup (am_cons (em_ofN (nm_lst (am_cons (em_tup (am_cons em_int (am_cons (em_var 7 (pv 7)) am_nil))) (am_cons (em_tup (am_cons em_int (am_cons (em_var 8 (pv 8)) am_nil))) (am_cons (em_tup (am_cons em_int (am_cons (em_var 7 (pv 7)) am_nil))) (am_cons (em_tup (am_cons em_int (am_cons (em_var 7 (pv 7)) am_nil))) am_nil)))))) (am_cons em_str am_nil)))))
  (bm_cons (sm_setN (i := 9) sc__law_known.nd rfl (by first | exact Or.inl rfl | exact Or.inr rfl) (nm_lst (am_cons (em_tup (am_cons em_str (am_cons em_int (am_cons (em_tup am_nil) am_nil)))) (am_cons (em_tup (am_cons em_str (am_cons em_int (am_cons (em_tup am_nil) am_nil)))) am_nil))))
  (bm_cons (sm_setN (i := 10) sc__law_known.nd rfl (by first | exact Or.inl rfl | exact Or.inr rfl) (nm_lst (am_cons (em_tup (am_cons em_int (am_cons (em_tup (am_cons em_str (am_cons (em_ix (em_var 9 (pv 9)) em_int (fun _ _ => rfl)) (am_cons (em_ix (em_var 9 (pv 9)) em_int (fun _ _ => rfl)) am_nil)))) am_nil))) (am_cons (em_tup (am_cons em_int (am_cons (em_tup (am_cons em_str (am_cons (em_ix (em_var 9 (pv 9)) em_int (fun _ _ => rfl)) (am_cons (em_ix (em_var 9 (pv 9)) em_int (fun _ _ => rfl)) am_nil)))) am_nil))) (am_cons (em_tup (am_cons em_int (am_cons (em_tup (am_cons em_str (am_cons em_int am_nil))) am_nil))) (am_cons (em_tup (am_cons em_int (am_cons (em_tup (am_cons em_str (am_cons em_int am_nil))) am_nil))) am_nil))))))
  (bm_cons (sm_drop (em_append (pv 4) (em_tup (am_cons (em_var 10 (pv 10)) (am_cons em_str am_nil)))))
  (bm_cons (sm_drop (em_append (pv 4) (em_tup (am_cons (em_add (em_sl (em_var 10 (pv 10)) om_none (om_some em_int)) (em_ofN (nm_lst (am_cons (em_tup (am_cons em_int (am_cons (em_tup (am_cons em_str (am_cons em_int am_nil))) am_nil))) am_nil)))) (am_cons em_str am_nil)))))
  (bm_cons (sm_setLc [("k", 13)] (i := 11) rfl sc__law_known.nd rfl rfl rfl (im_range1 (am_cons em_int am_nil) T.z_range) rfl (fun _ _ _ _ _ => (gm_name (i := 13) sc__law_known.nd rfl (by first | exact Or.inl rfl | exact Or.inr rfl) (by decide))) (fun _ _ _ _ _ => tsm_nil) (fun _ _ _ _ _ => (em_tup (am_cons em_int (am_cons (em_tup (am_cons em_str (am_cons (em_tup (am_cons em_str (am_cons em_int am_nil))) (am_cons (em_tup (am_cons em_str (am_cons (em_mod (em_add (em_var 13 (pv 13)) em_int) em_int) (am_cons (em_tup am_nil) am_nil)))) am_nil)))) am_nil)))))
  (bm_cons (sm_drop (em_append (pv 4) (em_tup (am_cons (em_var 11 (pv 11)) (am_cons em_str am_nil)))))
  (bm_cons (sm_drop (em_append (pv 4) (em_tup (am_cons (em_add (em_sl (em_var 11 (pv 11)) om_none (om_some em_int)) (em_ofN (nm_lst (am_cons (em_tup (am_cons em_int (am_cons (em_tup (am_cons em_str (am_cons (em_tup (am_cons em_str (am_cons em_int am_nil))) (am_cons (em_tup (am_cons em_str (am_cons em_int (am_cons (em_tup am_nil) am_nil)))) am_nil)))) am_nil))) am_nil)))) (am_cons em_str am_nil)))))
  (bm_one (sm_retOwn 4 (pv 4)))))))))))))))))))))))))
theorem ok__law_take (T : Tops K mg) : OkB P w K mg base 1 T.f__law_take T.d__law_take ["box", "size"] 1 W__law_take :=
  okB_of (k := 0) (by decide) T.F__law_take sc__law_take (by rfl) (by decide) fun cdv A outer s H E hr => (bm_cons (sm_if (tm_gt (em_ixO (pv 0) em_int (fun _ _ => rfl)) em_int) (bm_cons (sm_asg [2] (em_divmod T.z_divmod (am_cons (em_ixO (pv 0) em_int (fun _ _ => rfl)) (am_cons (em_var 1 (pv 1)) am_nil))) (gm_tup (n := 2) rfl (gsm_cons (gm_sub (pv 0) em_int) (gsm_cons (gm_name (i := 2) sc__law_take.nd rfl (by first | exact Or.inl rfl | exact Or.inr rfl) (by decide)) gsm_nil))))
  (bm_one (sm_ret (em_var 2 (pv 2))))) bm_nil)
  (bm_cons (sm_if (tm_gt (em_var 1 (pv 1)) (em_pow em_int em_int)) bm_never bm_nil)
  (bm_cons (sm_asg [] (em_add (em_ixO (pv 0) em_int (fun _ _ => rfl)) em_int) (gm_sub (pv 0) em_int))
  (bm_cons (sm_set (i := 3) sc__law_take.nd rfl (by first | exact Or.inl rfl | exact Or.inr rfl) (em_add em_int (em_mul (em_ixO (pv 0) em_int (fun _ _ => rfl)) (em_ixO (pv 0) em_int (fun _ _ => rfl)))))
  (bm_cons (sm_set (i := 4) sc__law_take.nd rfl (by first | exact Or.inl rfl | exact Or.inr rfl) (em_mod (em_mul (em_add (em_ixO (pv 0) em_int (fun _ _ => rfl)) (em_mul em_int (em_ixO (pv 0) em_int (fun _ _ => rfl)))) (em_var 3 (pv 3))) em_int))
  (bm_cons (sm_set (i := 5) sc__law_take.nd rfl (by first | exact Or.inl rfl | exact Or.inr rfl) (em_mod (em_add (em_mul (em_var 4 (pv 4)) (em_add (em_mod (em_var 4 (pv 4)) em_int) em_int)) (em_ixO (pv 0) em_int (fun _ _ => rfl))) em_int))
  (bm_one (sm_ret (em_mod (em_fdiv (em_mod (em_mul (em_var 5 (pv 5)) (em_add (em_mod (em_var 5 (pv 5)) em_int) em_int)) em_int) em_int) (em_var 1 (pv 1)))))))))))
theorem ok__law_order (T : Tops K mg) : OkB P w K mg base 2 T.f__law_order T.d__law_order ["box", "size"] 1 W__law_order :=
  okB_of (k := 1) (by decide) T.F__law_order sc__law_order (by rfl) (by decide) fun cdv A outer s H E hr => (bm_cons (sm_par (i := 2) (j := 3) rfl sc__law_order.nd rfl rfl (by decide) rfl rfl (apm_n (nm_listRng rfl T.z_list T.z_range (am_cons (em_var 1 (pv 1)) am_nil)) (apm_n (nm_lst am_nil) apm_nil)) rfl)
  (bm_cons (sm_for [4] PassesOwn.never rfl (im_range1 (am_cons (em_var 1 (pv 1)) am_nil) T.z_range) (gm_name (i := 4) sc__law_order.nd rfl (by first | exact Or.inl rfl | exact Or.inr rfl) (by decide)) (bm_one (sm_drop (em_append (pv 3) (em_popAt (pv 2) (em_fnB (pv 0) (ok__law_take (P := P) (w := w) (base := base) T).ok (ok__law_take (P := P) (w := w) (base := base) T).pm (hr.mono (by omega)) rfl T.g__law_take T.F__law_take.kp T.b__law_take (am_cons (em_lenOwn (pv 2) T.z_len) am_nil)))))))
  (bm_one (sm_retOwn 3 (pv 3)))))
theorem ok__law_placed (T : Tops K mg) : ∀ n : Nat, n ≤ 100 → OkW P w K mg base (0 + n) T.f__law_placed T.d__law_placed ["term", "places"] 2 (W__law_placed n)
  | 0, _ => okW_never
  | n + 1, hn => by
    have ih := ok__law_placed T n (by omega)
    exact okW_of (k := 0 + n) (by omega) T.F__law_placed sc__law_placed (ex := 2) (by rfl) (by rfl) fun cdv A outer s H E hr => (bm_cons (sm_if (tm_in (by rfl) (em_ix (em_var 0 (pv 0)) em_int (fun _ _ => rfl)) (em_tup (am_cons em_str (am_cons em_str am_nil)))) (bm_one (sm_ret (em_var 0 (pv 0)))) bm_nil)
  (bm_cons (sm_if (tm_eq hr.units (em_ix (em_var 0 (pv 0)) em_int (fun _ _ => rfl)) em_str) (bm_one (sm_ret (em_add (em_sl (em_var 0 (pv 0)) om_none (om_some em_int)) (em_tup (am_cons (em_tuple_ T.z_tuple (am_cons (em_ofN (nm_lc [("one", 3)] rfl sc__law_placed.nd (im_tup (em_ix (em_var 0 (pv 0)) em_int (fun _ _ => rfl))) rfl (fun _ _ _ _ _ => (gm_name (i := 3) sc__law_placed.nd rfl (by first | exact Or.inl rfl | exact Or.inr rfl) (by decide))) (fun _ _ _ _ _ => tsm_nil) (fun _ _ _ _ _ => (em_fnW (w := 4) ih (hr.mono (by omega)) rfl T.g__law_placed T.F__law_placed.kp T.b__law_placed (am_cons (em_var 3 (pv 3)) (am_cons (em_var 1 (pv 1)) am_nil)))))) am_nil)) am_nil))))) bm_nil)
  (bm_cons (sm_if (tm_eq hr.units (em_ix (em_var 0 (pv 0)) em_int (fun _ _ => rfl)) em_str) (bm_cons (sm_set (i := 2) sc__law_placed.nd rfl (by first | exact Or.inl rfl | exact Or.inr rfl) (em_popAtW (w := 4) (em_var 1 (pv 1)) em_int))
  (bm_one (sm_ret (em_tup (am_cons em_str (am_cons (em_var 2 (pv 2)) (am_cons (em_tuple_ T.z_tuple (am_cons (em_ofN (nm_lc [("one", 3)] rfl sc__law_placed.nd (im_tup (em_ix (em_var 0 (pv 0)) em_int (fun _ _ => rfl))) rfl (fun _ _ _ _ _ => (gm_name (i := 3) sc__law_placed.nd rfl (by first | exact Or.inl rfl | exact Or.inr rfl) (by decide))) (fun _ _ _ _ _ => tsm_nil) (fun _ _ _ _ _ => (em_fnW (w := 4) ih (hr.mono (by omega)) rfl T.g__law_placed T.F__law_placed.kp T.b__law_placed (am_cons (em_var 3 (pv 3)) (am_cons (em_var 1 (pv 1)) am_nil)))))) am_nil)) am_nil))))))) bm_nil)
  (bm_one (sm_ret (em_add (em_sl (em_var 0 (pv 0)) om_none (om_some em_int)) (em_tuple_ T.z_tuple (am_cons (em_ofN (nm_lc [("one", 3)] rfl sc__law_placed.nd (im_tup (em_sl (em_var 0 (pv 0)) (om_some em_int) om_none)) rfl (fun _ _ _ _ _ => (gm_name (i := 3) sc__law_placed.nd rfl (by first | exact Or.inl rfl | exact Or.inr rfl) (by decide))) (fun _ _ _ _ _ => tsm_nil) (fun _ _ _ _ _ => (em_fnW (w := 4) ih (hr.mono (by omega)) rfl T.g__law_placed T.F__law_placed.kp T.b__law_placed (am_cons (em_var 3 (pv 3)) (am_cons (em_var 1 (pv 1)) am_nil)))))) am_nil))))))))
theorem ok__law_spots (T : Tops K mg) : ∀ n : Nat, n ≤ 100 → OkS P w K mg base (0 + n) T.f__law_spots T.d__law_spots ["term"] 1 (W__law_spots n)
  | 0, _ => okS_never
  | n + 1, hn => by
    have ih := ok__law_spots T n (by omega)
    exact okS_of (k := 0 + n) (by omega) T.F__law_spots sc__law_spots fun cdv A outer s H E hr => (bm_cons (sm_if (tm_in (by rfl) (em_ix (em_var 0 (pv 0)) em_int (fun _ _ => rfl)) (em_tup (am_cons em_str (am_cons em_str am_nil)))) (bm_one (sm_retN (nm_lst am_nil))) bm_nil)
  (bm_cons (sm_par (i := 1) (j := 2) rfl sc__law_spots.nd rfl rfl (by decide) rfl rfl (apm_n (nm_lst am_nil) (apm_d (em_sl (em_var 0 (pv 0)) (om_some em_int) om_none) apm_nil)) rfl)
  (bm_cons (sm_if (tm_in (by rfl) (em_ix (em_var 0 (pv 0)) em_int (fun _ _ => rfl)) (em_tup (am_cons em_str (am_cons em_str am_nil)))) (bm_one (sm_par (i := 1) (j := 2) rfl sc__law_spots.nd rfl rfl (by decide) rfl rfl (apm_d (em_mul (em_ofN (nm_lst (am_cons (em_ix (em_var 0 (pv 0)) em_int (fun _ _ => rfl)) am_nil))) (em_int_ T.z_int (am_cons (em_eq hr.units (em_ix (em_var 0 (pv 0)) em_int (fun _ _ => rfl)) em_str) am_nil))) (apm_d (em_ix (em_var 0 (pv 0)) em_int (fun _ _ => rfl)) apm_nil)) rfl)) bm_nil)
  (bm_cons (sm_for [3] PassesOwn.never rfl (im_tup (em_var 2 (pv 2))) (gm_name (i := 3) sc__law_spots.nd rfl (by first | exact Or.inl rfl | exact Or.inr rfl) (by decide)) (bm_one (sm_set (i := 1) sc__law_spots.nd rfl (by first | exact Or.inl rfl | exact Or.inr rfl) (em_add (em_var 1 (pv 1)) (em_fn ih.ok ih.pm (hr.mono (by omega)) rfl T.g__law_spots T.F__law_spots.kp T.b__law_spots (am_cons (em_var 3 (pv 3)) am_nil))))))
  (bm_one (sm_ret (em_var 1 (pv 1))))))))
theorem ok_numbers_of (T : Tops K mg) : OkS P w K mg base 1 T.f_numbers_of T.d_numbers_of ["keys"] 1 W_numbers_of :=
  okS_of (k := 0) (by decide) T.F_numbers_of sc_numbers_of fun cdv A outer s H E hr => (bm_nums (i := 0) (f := 1) (y := 2) (bm_cons (sm_dict0 sc_numbers_of.nd rfl (by first | exact Or.inl rfl | exact Or.inr rfl)) (bm_one (sm_retN (nm_lc [("key", 2)] rfl sc_numbers_of.nd (im_list (em_var 0 (pv 0))) rfl (fun _ _ _ _ _ => (gm_name (i := 2) sc_numbers_of.nd rfl (by first | exact Or.inl rfl | exact Or.inr rfl) (by decide))) (fun _ _ _ _ _ => tsm_nil) (fun _ _ _ _ _ => (em_setd hr.units (pv 1) (pv 1) (em_var 2 (pv 2)) T.z_len)))))) (by decide) (by decide) (by decide))
theorem ok_head_text (T : Tops K mg) : OkS P w K mg base 1 T.f_head_text T.d_head_text ["term"] 1 W_head_text :=
  okS_of (k := 0) (by decide) T.F_head_text sc_head_text fun cdv A outer s H E hr => (bm_cons (sm_if (tm_eq hr.units (em_ix (em_var 0 (pv 0)) em_int (fun _ _ => rfl)) (em_glS T.c_CALL)) (bm_one (sm_ret (em_add (em_glS T.c_CALL_SIGN) (em_ix (em_var 0 (pv 0)) em_int (fun _ _ => rfl))))) bm_nil)
  (bm_one (sm_ret (em_if (tm_eq hr.units (em_ix (em_var 0 (pv 0)) em_int (fun _ _ => rfl)) (em_glS T.c_RING)) (em_add (em_glS T.c_RING_SIGN) (em_str_ T.z_str (am_cons (em_ix (em_var 0 (pv 0)) em_int (fun _ _ => rfl)) am_nil))) (em_ix (em_var 0 (pv 0)) em_int (fun _ _ => rfl))))))
theorem ok_parts_of (T : Tops K mg) : OkS P w K mg base 1 T.f_parts_of T.d_parts_of ["term"] 1 W_parts_of :=
  okS_of (k := 0) (by decide) T.F_parts_of sc_parts_of fun cdv A outer s H E hr => (bm_cons (sm_star (i := 1) (j := 2) rfl sc_parts_of.nd rfl rfl (by first | exact Or.inl rfl | exact Or.inr rfl) (by first | exact Or.inl rfl | exact Or.inr rfl) (em_var 0 (pv 0)))
  (bm_cons (sm_if (tm_in (by rfl) (em_var 1 (pv 1)) (em_tup (am_cons (em_glS T.c_NUM) (am_cons (em_glS T.c_ARG) am_nil)))) (bm_one (sm_retN (nm_lst am_nil))) bm_nil)
  (bm_one (sm_ret (em_if (tm_in (by rfl) (em_var 1 (pv 1)) (em_tup (am_cons (em_glS T.c_CALL) (am_cons (em_glS T.c_RING) am_nil)))) (em_ofN (nm_list T.z_list (em_ix (em_var 0 (pv 0)) em_int (fun _ _ => rfl)))) (em_var 2 (pv 2)))))))
theorem ok_term_text (T : Tops K mg) : ∀ n : Nat, n ≤ 100 → OkS P w K mg base (1 + n) T.f_term_text T.d_term_text ["term"] 1 (W_term_text n)
  | 0, _ => okS_never
  | n + 1, hn => by
    have ih := ok_term_text T n (by omega)
    exact okS_of (k := 1 + n) (by omega) T.F_term_text sc_term_text fun cdv A outer s H E hr => (bm_cons (sm_if (tm_eq hr.units (em_ix (em_var 0 (pv 0)) em_int (fun _ _ => rfl)) (em_glS T.c_NUM)) (bm_one (sm_ret (em_str_ T.z_str (am_cons (em_ix (em_var 0 (pv 0)) em_int (fun _ _ => rfl)) am_nil)))) bm_nil)
  (bm_cons (sm_if (tm_eq hr.units (em_ix (em_var 0 (pv 0)) em_int (fun _ _ => rfl)) (em_glS T.c_ARG)) (bm_one (sm_ret (em_ix (em_glS T.c_ARG_SIGNS) (em_ix (em_var 0 (pv 0)) em_int (fun _ _ => rfl)) (fun _ _ => rfl)))) bm_nil)
  (bm_one (sm_ret (em_add (em_add em_str (em_join em_str (am_cons (em_add (em_ofN (nm_lst (am_cons (em_fn (ok_head_text (P := P) (w := w) (base := base) T).ok (ok_head_text (P := P) (w := w) (base := base) T).pm (hr.mono (by omega)) rfl T.g_head_text T.F_head_text.kp T.b_head_text (am_cons (em_var 0 (pv 0)) am_nil)) am_nil))) (em_ofN (nm_lc [("part", 1)] rfl sc_term_text.nd (im_list (em_fn (ok_parts_of (P := P) (w := w) (base := base) T).ok (ok_parts_of (P := P) (w := w) (base := base) T).pm (hr.mono (by omega)) rfl T.g_parts_of T.F_parts_of.kp T.b_parts_of (am_cons (em_var 0 (pv 0)) am_nil))) rfl (fun _ _ _ _ _ => (gm_name (i := 1) sc_term_text.nd rfl (by first | exact Or.inl rfl | exact Or.inr rfl) (by decide))) (fun _ _ _ _ _ => tsm_nil) (fun _ _ _ _ _ => (em_fn ih.ok ih.pm (hr.mono (by omega)) rfl T.g_term_text T.F_term_text.kp T.b_term_text (am_cons (em_var 1 (pv 1)) am_nil)))))) am_nil))) em_str)))))
theorem ok_without_places (T : Tops K mg) : OkS P w K mg base 1 T.f_without_places T.d_without_places ["head"] 1 W_without_places :=
  okS_of (k := 0) (by decide) T.F_without_places sc_without_places fun cdv A outer s H E hr => (bm_one (sm_ret (em_if (tm_eq hr.units (em_ix (em_var 0 (pv 0)) em_int (fun _ _ => rfl)) em_str) (em_tup (am_cons em_str (am_cons em_int am_nil))) (em_var 0 (pv 0)))))
theorem heldL_led_term (T : Tops K mg) : HeldAll P w K mg base 1 tabL_led_term :=
  (heldAll_cons (ok_without_places (P := P) (w := w) (base := base) T) (by decide) T.el_without_places T.F_without_places.kp T.b_without_places heldAll_nil)
theorem ok_led_term (T : Tops K mg) : ∀ n : Nat, n ≤ 100 → OkS P w K mg base (1 + n) T.f_led_term T.d_led_term ["term", "lead"] 2 (W_led_term n)
  | 0, _ => okS_never
  | n + 1, hn => by
    have ih := ok_led_term T n (by omega)
    exact okS_of (k := 1 + n) (by omega) T.F_led_term sc_led_term fun cdv A outer s H E hr => (bm_cons (sm_star (i := 2) (j := 3) rfl sc_led_term.nd rfl rfl (by first | exact Or.inl rfl | exact Or.inr rfl) (by first | exact Or.inl rfl | exact Or.inr rfl) (em_var 0 (pv 0)))
  (bm_cons (sm_if (tm_in (by rfl) (em_var 2 (pv 2)) (em_tupC T.t_LEAF_WORDS T.n_LEAF_WORDS)) (bm_one (sm_ret (em_var 0 (pv 0)))) bm_nil)
  (bm_cons (sm_if (tm_in (by rfl) (em_var 2 (pv 2)) (em_tupC T.t_HEAD_WORDS T.n_HEAD_WORDS)) (bm_one (sm_ret (em_add (em_fnV (i := 1) (k := 1) (heldL_led_term T) (hr.mono (by omega)) rfl (by first | exact Or.inl rfl | exact Or.inr rfl | exact Or.inr (Or.inl rfl) | exact Or.inr (Or.inr rfl)) (am_cons (em_sl (em_var 0 (pv 0)) om_none (om_some em_int)) am_nil)) (em_tup (am_cons (em_tuple_ T.z_tuple (am_cons (em_ofN (nm_lc [("part", 4)] rfl sc_led_term.nd (im_tup (em_ix (em_var 0 (pv 0)) em_int (fun _ _ => rfl))) rfl (fun _ _ _ _ _ => (gm_name (i := 4) sc_led_term.nd rfl (by first | exact Or.inl rfl | exact Or.inr rfl) (by decide))) (fun _ _ _ _ _ => tsm_nil) (fun _ _ _ _ _ => (em_fn ih.ok ih.pm (hr.mono (by omega)) rfl T.g_led_term T.F_led_term.kp T.b_led_term (am_cons (em_var 4 (pv 4)) (am_cons (em_var 1 (pv 1)) am_nil)))))) am_nil)) am_nil))))) bm_nil)
  (bm_one (sm_ret (em_add (em_tup (am_cons (em_var 2 (pv 2)) am_nil)) (em_tuple_ T.z_tuple (am_cons (em_ofN (nm_lc [("part", 4)] rfl sc_led_term.nd (im_list (em_var 3 (pv 3))) rfl (fun _ _ _ _ _ => (gm_name (i := 4) sc_led_term.nd rfl (by first | exact Or.inl rfl | exact Or.inr rfl) (by decide))) (fun _ _ _ _ _ => tsm_nil) (fun _ _ _ _ _ => (em_fn ih.ok ih.pm (hr.mono (by omega)) rfl T.g_led_term T.F_led_term.kp T.b_led_term (am_cons (em_var 4 (pv 4)) (am_cons (em_var 1 (pv 1)) am_nil)))))) am_nil))))))))
theorem ok_heads_of (T : Tops K mg) : ∀ n : Nat, n ≤ 100 → OkS P w K mg base (1 + n) T.f_heads_of T.d_heads_of ["term", "word"] 2 (W_heads_of n)
  | 0, _ => okS_never
  | n + 1, hn => by
    have ih := ok_heads_of T n (by omega)
    exact okS_of (k := 1 + n) (by omega) T.F_heads_of sc_heads_of fun cdv A outer s H E hr => (bm_cons (sm_set (i := 2) sc_heads_of.nd rfl (by first | exact Or.inl rfl | exact Or.inr rfl) (em_if (tm_eq hr.units (em_ix (em_var 0 (pv 0)) em_int (fun _ _ => rfl)) (em_var 1 (pv 1))) (em_ofN (nm_lst (am_cons (em_ix (em_var 0 (pv 0)) em_int (fun _ _ => rfl)) am_nil))) (em_ofN (nm_lst am_nil))))
  (bm_one (sm_ret (em_add (em_var 2 (pv 2)) (em_ofN (nm_lc2 (vs1 := [4]) [("part", 3), ("one", 4)] (by decide) rfl sc_heads_of.nd (im_list (em_fn (ok_parts_of (P := P) (w := w) (base := base) T).ok (ok_parts_of (P := P) (w := w) (base := base) T).pm (hr.mono (by omega)) rfl T.g_parts_of T.F_parts_of.kp T.b_parts_of (am_cons (em_var 0 (pv 0)) am_nil))) rfl (fun _ _ _ _ _ => (gm_name (i := 3) sc_heads_of.nd rfl (by first | exact Or.inl rfl | exact Or.inr rfl) (by decide))) (fun _ _ _ _ _ => tsm_nil) (fun _ _ _ _ _ => (im_list (em_fn ih.ok ih.pm (hr.mono (by omega)) rfl T.g_heads_of T.F_heads_of.kp T.b_heads_of (am_cons (em_var 3 (pv 3)) (am_cons (em_var 1 (pv 1)) am_nil))))) (fun _ _ _ _ _ => (gm_name (i := 4) sc_heads_of.nd rfl (by first | exact Or.inl rfl | exact Or.inr rfl) (by decide))) (fun _ _ _ _ _ => tsm_nil) (fun _ _ _ _ _ => (em_var 4 (pv 4)))))))))
theorem ok_places_of (T : Tops K mg) : OkS P w K mg base 11 T.f_places_of T.d_places_of ["term"] 1 W_places_of :=
  okS_of (k := 10) (by decide) T.F_places_of sc_places_of fun cdv A outer s H E hr => (bm_one (sm_ret (em_fn (ok_heads_of (P := P) (w := w) (base := base) T 9 (by decide)).ok (ok_heads_of (P := P) (w := w) (base := base) T 9 (by decide)).pm (hr.mono (by omega)) rfl T.g_heads_of T.F_heads_of.kp T.b_heads_of (am_cons (em_var 0 (pv 0)) (am_cons (em_glS T.c_RING) am_nil)))))
theorem ok_saying (T : Tops K mg) : OkS P w K mg base 12 T.f_saying T.d_saying ["bodies"] 1 W_saying :=
  okS_of (k := 11) (by decide) T.F_saying sc_saying fun cdv A outer s H E hr => (bm_cons (sm_set (i := 1) sc_saying.nd rfl (by first | exact Or.inl rfl | exact Or.inr rfl) (em_fn (ok_numbers_of (P := P) (w := w) (base := base) T).ok (ok_numbers_of (P := P) (w := w) (base := base) T).pm (hr.mono (by omega)) rfl T.g_numbers_of T.F_numbers_of.kp T.b_numbers_of (am_cons (em_ofN (nm_lc [("many", 4), ("term", 5)] rfl sc_saying.nd (im_list (em_var 0 (pv 0))) rfl (fun _ _ _ _ _ => (gm_tup (n := 2) rfl (gsm_cons (gm_name (i := 4) sc_saying.nd rfl (by first | exact Or.inl rfl | exact Or.inr rfl) (by decide)) (gsm_cons (gm_name (i := 5) sc_saying.nd rfl (by first | exact Or.inl rfl | exact Or.inr rfl) (by decide)) gsm_nil)))) (fun _ _ _ _ _ => tsm_nil) (fun _ _ _ _ _ => (em_joinF (FJ.cons (em_fmt (em_var 4 (pv 4))) (FJ.cons em_str (FJ.cons (em_fmt (em_fn (ok_term_text (P := P) (w := w) (base := base) T 9 (by decide)).ok (ok_term_text (P := P) (w := w) (base := base) T 9 (by decide)).pm (hr.mono (by omega)) rfl T.g_term_text T.F_term_text.kp T.b_term_text (am_cons (em_fn (ok_led_term (P := P) (w := w) (base := base) T 9 (by decide)).ok (ok_led_term (P := P) (w := w) (base := base) T 9 (by decide)).pm (hr.mono (by omega)) rfl T.g_led_term T.F_led_term.kp T.b_led_term (am_cons (em_var 5 (pv 5)) (am_cons (em_glF T.g_without_places T.el_without_places) am_nil))) am_nil))) FJ.nil))))))) am_nil)))
  (bm_cons (sm_setLc [("many", 4), ("term", 5)] (i := 2) rfl sc_saying.nd rfl rfl rfl (im_list (em_var 0 (pv 0))) rfl (fun _ _ _ _ _ => (gm_tup (n := 2) rfl (gsm_cons (gm_name (i := 4) sc_saying.nd rfl (by first | exact Or.inl rfl | exact Or.inr rfl) (by decide)) (gsm_cons (gm_name (i := 5) sc_saying.nd rfl (by first | exact Or.inl rfl | exact Or.inr rfl) (by decide)) gsm_nil)))) (fun _ _ _ _ _ => tsm_nil) (fun _ _ _ _ _ => (em_fn (ok_places_of (P := P) (w := w) (base := base) T).ok (ok_places_of (P := P) (w := w) (base := base) T).pm (hr.mono (by omega)) rfl T.g_places_of T.F_places_of.kp T.b_places_of (am_cons (em_var 5 (pv 5)) am_nil))))
  (bm_cons (sm_for [3] PassesOwn.never rfl (im_range1 (am_cons (em_len T.z_len (am_cons (em_var 0 (pv 0)) am_nil)) am_nil) T.z_range) (gm_name (i := 3) sc_saying.nd rfl (by first | exact Or.inl rfl | exact Or.inr rfl) (by decide)) (bm_one (sm_set (i := 1) sc_saying.nd rfl (by first | exact Or.inl rfl | exact Or.inr rfl) (em_fn (ok_numbers_of (P := P) (w := w) (base := base) T).ok (ok_numbers_of (P := P) (w := w) (base := base) T).pm (hr.mono (by omega)) rfl T.g_numbers_of T.F_numbers_of.kp T.b_numbers_of (am_cons (em_ofN (nm_lc [("group", 6), ("row", 7)] rfl sc_saying.nd (im_zip (am_cons (em_var 1 (pv 1)) (am_cons (em_var 2 (pv 2)) am_nil)) T.z_zip) rfl (fun _ _ _ _ _ => (gm_tup (n := 2) rfl (gsm_cons (gm_name (i := 6) sc_saying.nd rfl (by first | exact Or.inl rfl | exact Or.inr rfl) (by decide)) (gsm_cons (gm_name (i := 7) sc_saying.nd rfl (by first | exact Or.inl rfl | exact Or.inr rfl) (by decide)) gsm_nil)))) (fun _ _ _ _ _ => tsm_nil) (fun _ _ _ _ _ => (em_tup (am_cons (em_var 6 (pv 6)) (am_cons (em_tuple_ T.z_tuple (am_cons (em_ofN (nm_lc [("one", 8)] rfl sc_saying.nd (im_list (em_var 7 (pv 7))) rfl (fun _ _ _ _ _ => (gm_name (i := 8) sc_saying.nd rfl (by first | exact Or.inl rfl | exact Or.inr rfl) (by decide))) (fun _ _ _ _ _ => tsm_nil) (fun _ _ _ _ _ => (em_ix (em_var 1 (pv 1)) (em_var 8 (pv 8)) (fun _ _ => rfl))))) am_nil)) am_nil)))))) am_nil)))))
  (bm_one (sm_ret (em_var 1 (pv 1)))))))
theorem ok__law_right (T : Tops K mg) : OkB P w K mg base 13 T.f__law_right T.d__law_right ["box"] 0 W__law_right :=
  okBSW_of (k := 12) (by decide) T.F__law_right sc__law_right (ex := 13) (by rfl) (by rfl) fun cdv A outer s H E hr => (bm_cons (sm_for [1, 2] PassesOwn.never rfl (im_list (em_fn0 (ok__law_known (P := P) (w := w) (base := base) T).ok (ok__law_known (P := P) (w := w) (base := base) T).pm (hr.mono (by omega)) rfl T.g__law_known T.F__law_known.kp T.b__law_known)) (gm_tup (n := 2) rfl (gsm_cons (gm_name (i := 1) sc__law_right.nd rfl (by first | exact Or.inl rfl | exact Or.inr rfl) (by decide)) (gsm_cons (gm_name (i := 2) sc__law_right.nd rfl (by first | exact Or.inl rfl | exact Or.inr rfl) (by decide)) gsm_nil))) (bm_cons (sm_set (i := 3) sc__law_right.nd rfl (by first | exact Or.inl rfl | exact Or.inr rfl) (em_fnB (pv 0) (ok__law_order (P := P) (w := w) (base := base) T).ok (ok__law_order (P := P) (w := w) (base := base) T).pm (hr.mono (by omega)) rfl T.g__law_order T.F__law_order.kp T.b__law_order (am_cons (em_len T.z_len (am_cons (em_var 1 (pv 1)) am_nil)) am_nil)))
  (bm_cons (sm_parT2 (i := 4) (j := 5) rfl sc__law_right.nd rfl rfl (by decide) (by first | exact Or.inl rfl | exact Or.inr rfl) (by first | exact Or.inl rfl | exact Or.inr rfl) (apm_n (nm_lst am_nil) (apm_d (em_join em_str (am_cons (em_ofN (nm_lc [("old", 6)] rfl sc__law_right.nd (im_list (em_var 3 (pv 3))) rfl (fun _ _ _ _ _ => (gm_name (i := 6) sc__law_right.nd rfl (by first | exact Or.inl rfl | exact Or.inr rfl) (by decide))) (fun _ _ _ _ _ => tsm_nil) (fun _ _ _ _ _ => (em_ix (em_var 2 (pv 2)) (em_var 6 (pv 6)) (fun _ _ => rfl))))) am_nil)) apm_nil)))
  (bm_cons (sm_for [6] PassesOwn.never rfl (im_list (em_var 3 (pv 3))) (gm_name (i := 6) sc__law_right.nd rfl (by first | exact Or.inl rfl | exact Or.inr rfl) (by decide)) (bm_cons (sm_asg [7, 8] (em_ix (em_var 1 (pv 1)) (em_var 6 (pv 6)) (fun _ _ => rfl)) (gm_tup (n := 2) rfl (gsm_cons (gm_name (i := 7) sc__law_right.nd rfl (by first | exact Or.inl rfl | exact Or.inr rfl) (by decide)) (gsm_cons (gm_name (i := 8) sc__law_right.nd rfl (by first | exact Or.inl rfl | exact Or.inr rfl) (by decide)) gsm_nil))))
  (bm_one (sm_drop (em_append (pv 4) (em_tup (am_cons (em_var 7 (pv 7)) (am_cons (em_fnW (w := 14) (ok__law_placed (P := P) (w := w) (base := base) T 9 (by decide)) (hr.mono (by omega)) rfl T.g__law_placed T.F__law_placed.kp T.b__law_placed (am_cons (em_var 8 (pv 8)) (am_cons (em_newC (w := 14) (nm_lc [("spot", 10)] rfl sc__law_right.nd (im_list (em_fn (ok__law_spots (P := P) (w := w) (base := base) T 9 (by decide)).ok (ok__law_spots (P := P) (w := w) (base := base) T 9 (by decide)).pm (hr.mono (by omega)) rfl T.g__law_spots T.F__law_spots.kp T.b__law_spots (am_cons (em_var 8 (pv 8)) am_nil))) rfl (fun _ _ _ _ _ => (gm_name (i := 10) sc__law_right.nd rfl (by first | exact Or.inl rfl | exact Or.inr rfl) (by decide))) (fun _ _ _ _ _ => tsm_nil) (fun _ _ _ _ _ => (em_indexI (em_var 3 (pv 3)) (am_cons (em_var 10 (pv 10)) am_nil))))) am_nil))) am_nil))))))))
  (bm_cons (sm_set (i := 9) sc__law_right.nd rfl (by first | exact Or.inl rfl | exact Or.inr rfl) (em_fn (ok_saying (P := P) (w := w) (base := base) T).ok (ok_saying (P := P) (w := w) (base := base) T).pm (hr.mono (by omega)) rfl T.g_saying T.F_saying.kp T.b_saying (am_cons (em_var 4 (pv 4)) am_nil)))
  (bm_cons (sm_if (tm_ne hr.units (em_ofN (nm_lc [("number", 11)] rfl sc__law_right.nd (im_list (em_var 9 (pv 9))) rfl (fun _ _ _ _ _ => (gm_name (i := 11) sc__law_right.nd rfl (by first | exact Or.inl rfl | exact Or.inr rfl) (by decide))) (fun _ _ _ _ _ => tsm_nil) (fun _ _ _ _ _ => (em_indexI (em_var 9 (pv 9)) (am_cons (em_var 11 (pv 11)) am_nil))))) (em_ofN (nm_lc [("letter", 12)] rfl sc__law_right.nd (im_str (em_var 5 (pv 5))) rfl (fun _ _ _ _ _ => (gm_name (i := 12) sc__law_right.nd rfl (by first | exact Or.inl rfl | exact Or.inr rfl) (by decide))) (fun _ _ _ _ _ => tsm_nil) (fun _ _ _ _ _ => (em_index (em_var 5 (pv 5)) (am_cons (em_var 12 (pv 12)) am_nil)))))) (bm_one (sm_ret em_bl)) bm_nil)
  (bm_one (sm_if (tm_not (tm_val (em_all rfl T.z_all (am_cons (em_ofN (nm_lc [("at", 13), ("number", 11)] rfl sc__law_right.nd (im_enum (am_cons (em_var 9 (pv 9)) am_nil) T.z_enumerate) rfl (fun _ _ _ _ _ => (gm_tup (n := 2) rfl (gsm_cons (gm_name (i := 13) sc__law_right.nd rfl (by first | exact Or.inl rfl | exact Or.inr rfl) (by decide)) (gsm_cons (gm_name (i := 11) sc__law_right.nd rfl (by first | exact Or.inl rfl | exact Or.inr rfl) (by decide)) gsm_nil)))) (fun _ _ _ _ _ => tsm_nil) (fun _ _ _ _ _ => (em_leLe em_int (em_var 11 (pv 11)) (em_add (em_maxL rfl T.z_max (am_cons (em_add (em_ofN (nm_lst (am_cons (em_neg em_int) am_nil))) (em_sl (em_var 9 (pv 9)) om_none (om_some (em_var 13 (pv 13))))) am_nil)) em_int))))) am_nil)))) (bm_one (sm_ret em_bl)) bm_nil))))))))
  (bm_one (sm_ret em_bl)))
theorem ok__law_box (T : Tops K mg) : OkS P w K mg base 1 T.f__law_box T.d__law_box ["script", "k"] 2 W__law_box :=
  okS_of (k := 0) (by decide) T.F__law_box sc__law_box fun cdv A outer s H E hr => (bm_cons (sm_set (i := 2) sc__law_box.nd rfl (by first | exact Or.inl rfl | exact Or.inr rfl) (em_if (tm_lt (em_var 1 (pv 1)) (em_len T.z_len (am_cons (em_var 0 (pv 0)) am_nil))) (em_ix (em_var 0 (pv 0)) (em_var 1 (pv 1)) (fun _ _ => rfl)) em_int))
  (bm_one (sm_retN (nm_lst (am_cons (em_mul (em_abs T.z_abs (am_cons (em_var 2 (pv 2)) am_nil)) (em_int_ T.z_int (am_cons (em_ge (em_abs T.z_abs (am_cons (em_var 2 (pv 2)) am_nil)) (em_pow em_int em_int)) am_nil))) (am_cons (em_mod (em_mul (em_add (em_add (em_mod (em_var 2 (pv 2)) em_int) (em_mul em_int (em_var 1 (pv 1)))) em_int) em_int) em_int) (am_cons em_int am_nil)))))))
theorem ok_law (T : Tops K mg) : OkS P w K mg base 14 T.f_law T.d_law ["script"] 1 W_law :=
  okS_of (k := 13) (by decide) T.F_law sc_law fun cdv A outer s H E hr => (bm_cons (sm_setN (i := 1) sc_law.nd rfl (by first | exact Or.inl rfl | exact Or.inr rfl) (nm_fn (ok__law_folded (P := P) (w := w) (base := base) T).ok (ok__law_folded (P := P) (w := w) (base := base) T).pm (hr.mono (by omega)) rfl T.g__law_folded T.F__law_folded.kp T.b__law_folded (am_cons (em_var 0 (pv 0)) (am_cons em_int am_nil))))
  (bm_one (sm_ret (em_all rfl T.z_all (am_cons (em_ofN (nm_lc [("k", 2)] rfl sc_law.nd (im_range1 (am_cons (em_max rfl T.z_max (am_cons em_int (am_cons (em_len T.z_len (am_cons (em_var 1 (pv 1)) am_nil)) am_nil))) am_nil) T.z_range) rfl (fun _ _ _ _ _ => (gm_name (i := 2) sc_law.nd rfl (by first | exact Or.inl rfl | exact Or.inr rfl) (by decide))) (fun _ _ _ _ _ => tsm_nil) (fun _ _ _ _ _ => (em_fnBn (nm_fn (ok__law_box (P := P) (w := w) (base := base) T).ok (ok__law_box (P := P) (w := w) (base := base) T).pm (hr.mono (by omega)) rfl T.g__law_box T.F__law_box.kp T.b__law_box (am_cons (em_var 1 (pv 1)) (am_cons (em_var 2 (pv 2)) am_nil))) (ok__law_right (P := P) (w := w) (base := base) T).ok (ok__law_right (P := P) (w := w) (base := base) T).pm (hr.mono (by omega)) rfl T.g__law_right T.F__law_right.kp T.b__law_right am_nil)))) am_nil)))))
end
theorem all_mk {l : PySem.W.OpenLaw} {w : World} {K : PySem.W.Frag} {h : Heap} {mg : Str → Option Value} {fa f0 f1 f2 f3 f4 f5 f6 f7 f8 f9 f10 f11 f12 f13 f14 f15 f16 f17 : Addr} (X : K.In h) (G : h.Ns mainGlobals mg) (hfa : mg "law" = some (.ref fa))
    {od0 an0 od1 an1 od2 an2 od3 an3 od4 an4 od5 an5 od6 an6 od7 an7 od8 an8 od9 an9 od10 an10 od11 an11 od12 an12 od13 an13 od14 an14 od15 an15 od16 an16 od17 an17 : Option Addr} {sl0 sl1 sl2 sl3 sl4 sl5 sl6 sl7 sl8 sl9 sl10 sl11 sl12 sl13 sl14 sl15 sl16 sl17 : Array (Option Value)} {oc0 kV0 dc0 pm0 cd0 ct0 oc1 kV1 dc1 pm1 cd1 ct1 oc2 kV2 dc2 pm2 cd2 ct2 oc3 kV3 dc3 pm3 cd3 ct3 oc4 kV4 dc4 pm4 cd4 ct4 oc5 kV5 dc5 pm5 cd5 ct5 oc6 kV6 dc6 pm6 cd6 ct6 oc7 kV7 dc7 pm7 cd7 ct7 oc8 kV8 dc8 pm8 cd8 ct8 oc9 kV9 dc9 pm9 cd9 ct9 oc10 kV10 dc10 pm10 cd10 ct10 oc11 kV11 dc11 pm11 cd11 ct11 oc12 kV12 dc12 pm12 cd12 ct12 oc13 kV13 dc13 pm13 cd13 ct13 oc14 kV14 dc14 pm14 cd14 ct14 oc15 kV15 dc15 pm15 cd15 ct15 oc16 kV16 dc16 pm16 cd16 ct16 oc17 kV17 dc17 pm17 cd17 ct17 : Value} {t_ARG t_ARG_SIGNS t_CALL t_CALL_SIGN t_NUM t_RING t_RING_SIGN : Tok}
    (a0 : PySem.W.nsIn K mainGlobals "_law_folded" = some (some (.ref f0))) (l0 : K.lookup f0 = some ⟨oc0, od0, .func (PySem.W.fnOf "_law_folded" "_law_folded" (defArgs s__law_folded) (defBody s__law_folded) (defScope s__law_folded) .none kV0 dc0 pm0 an0 cd0 ct0), sl0⟩) (c0 : PySem.W.codeIn K cd0 "_law_folded" = true) (k0 : PySem.W.keepIn K (.ref f0) = true)
    (a1 : PySem.W.nsIn K mainGlobals "_law_known" = some (some (.ref f1))) (l1 : K.lookup f1 = some ⟨oc1, od1, .func (PySem.W.fnOf "_law_known" "_law_known" (defArgs s__law_known) (defBody s__law_known) (defScope s__law_known) .none kV1 dc1 pm1 an1 cd1 ct1), sl1⟩) (c1 : PySem.W.codeIn K cd1 "_law_known" = true) (k1 : PySem.W.keepIn K (.ref f1) = true)
    (a2 : PySem.W.nsIn K mainGlobals "_law_take" = some (some (.ref f2))) (l2 : K.lookup f2 = some ⟨oc2, od2, .func (PySem.W.fnOf "_law_take" "_law_take" (defArgs s__law_take) (defBody s__law_take) (defScope s__law_take) .none kV2 dc2 pm2 an2 cd2 ct2), sl2⟩) (c2 : PySem.W.codeIn K cd2 "_law_take" = true) (k2 : PySem.W.keepIn K (.ref f2) = true)
    (a3 : PySem.W.nsIn K mainGlobals "_law_order" = some (some (.ref f3))) (l3 : K.lookup f3 = some ⟨oc3, od3, .func (PySem.W.fnOf "_law_order" "_law_order" (defArgs s__law_order) (defBody s__law_order) (defScope s__law_order) .none kV3 dc3 pm3 an3 cd3 ct3), sl3⟩) (c3 : PySem.W.codeIn K cd3 "_law_order" = true) (k3 : PySem.W.keepIn K (.ref f3) = true)
    (a4 : PySem.W.nsIn K mainGlobals "_law_placed" = some (some (.ref f4))) (l4 : K.lookup f4 = some ⟨oc4, od4, .func (PySem.W.fnOf "_law_placed" "_law_placed" (defArgs s__law_placed) (defBody s__law_placed) (defScope s__law_placed) .none kV4 dc4 pm4 an4 cd4 ct4), sl4⟩) (c4 : PySem.W.codeIn K cd4 "_law_placed" = true) (k4 : PySem.W.keepIn K (.ref f4) = true)
    (a5 : PySem.W.nsIn K mainGlobals "_law_spots" = some (some (.ref f5))) (l5 : K.lookup f5 = some ⟨oc5, od5, .func (PySem.W.fnOf "_law_spots" "_law_spots" (defArgs s__law_spots) (defBody s__law_spots) (defScope s__law_spots) .none kV5 dc5 pm5 an5 cd5 ct5), sl5⟩) (c5 : PySem.W.codeIn K cd5 "_law_spots" = true) (k5 : PySem.W.keepIn K (.ref f5) = true)
    (a6 : PySem.W.nsIn K mainGlobals "numbers_of" = some (some (.ref f6))) (l6 : K.lookup f6 = some ⟨oc6, od6, .func (PySem.W.fnOf "numbers_of" "numbers_of" (defArgs s_numbers_of) (defBody s_numbers_of) (defScope s_numbers_of) .none kV6 dc6 pm6 an6 cd6 ct6), sl6⟩) (c6 : PySem.W.codeIn K cd6 "numbers_of" = true) (k6 : PySem.W.keepIn K (.ref f6) = true)
    (a7 : PySem.W.nsIn K mainGlobals "head_text" = some (some (.ref f7))) (l7 : K.lookup f7 = some ⟨oc7, od7, .func (PySem.W.fnOf "head_text" "head_text" (defArgs s_head_text) (defBody s_head_text) (defScope s_head_text) .none kV7 dc7 pm7 an7 cd7 ct7), sl7⟩) (c7 : PySem.W.codeIn K cd7 "head_text" = true) (k7 : PySem.W.keepIn K (.ref f7) = true)
    (a8 : PySem.W.nsIn K mainGlobals "parts_of" = some (some (.ref f8))) (l8 : K.lookup f8 = some ⟨oc8, od8, .func (PySem.W.fnOf "parts_of" "parts_of" (defArgs s_parts_of) (defBody s_parts_of) (defScope s_parts_of) .none kV8 dc8 pm8 an8 cd8 ct8), sl8⟩) (c8 : PySem.W.codeIn K cd8 "parts_of" = true) (k8 : PySem.W.keepIn K (.ref f8) = true)
    (a9 : PySem.W.nsIn K mainGlobals "term_text" = some (some (.ref f9))) (l9 : K.lookup f9 = some ⟨oc9, od9, .func (PySem.W.fnOf "term_text" "term_text" (defArgs s_term_text) (defBody s_term_text) (defScope s_term_text) .none kV9 dc9 pm9 an9 cd9 ct9), sl9⟩) (c9 : PySem.W.codeIn K cd9 "term_text" = true) (k9 : PySem.W.keepIn K (.ref f9) = true)
    (a10 : PySem.W.nsIn K mainGlobals "without_places" = some (some (.ref f10))) (l10 : K.lookup f10 = some ⟨oc10, od10, .func (PySem.W.fnOf "without_places" "without_places" (defArgs s_without_places) (defBody s_without_places) (defScope s_without_places) .none kV10 dc10 pm10 an10 cd10 ct10), sl10⟩) (c10 : PySem.W.codeIn K cd10 "without_places" = true) (k10 : PySem.W.keepIn K (.ref f10) = true)
    (a11 : PySem.W.nsIn K mainGlobals "led_term" = some (some (.ref f11))) (l11 : K.lookup f11 = some ⟨oc11, od11, .func (PySem.W.fnOf "led_term" "led_term" (defArgs s_led_term) (defBody s_led_term) (defScope s_led_term) .none kV11 dc11 pm11 an11 cd11 ct11), sl11⟩) (c11 : PySem.W.codeIn K cd11 "led_term" = true) (k11 : PySem.W.keepIn K (.ref f11) = true)
    (a12 : PySem.W.nsIn K mainGlobals "heads_of" = some (some (.ref f12))) (l12 : K.lookup f12 = some ⟨oc12, od12, .func (PySem.W.fnOf "heads_of" "heads_of" (defArgs s_heads_of) (defBody s_heads_of) (defScope s_heads_of) .none kV12 dc12 pm12 an12 cd12 ct12), sl12⟩) (c12 : PySem.W.codeIn K cd12 "heads_of" = true) (k12 : PySem.W.keepIn K (.ref f12) = true)
    (a13 : PySem.W.nsIn K mainGlobals "places_of" = some (some (.ref f13))) (l13 : K.lookup f13 = some ⟨oc13, od13, .func (PySem.W.fnOf "places_of" "places_of" (defArgs s_places_of) (defBody s_places_of) (defScope s_places_of) .none kV13 dc13 pm13 an13 cd13 ct13), sl13⟩) (c13 : PySem.W.codeIn K cd13 "places_of" = true) (k13 : PySem.W.keepIn K (.ref f13) = true)
    (a14 : PySem.W.nsIn K mainGlobals "saying" = some (some (.ref f14))) (l14 : K.lookup f14 = some ⟨oc14, od14, .func (PySem.W.fnOf "saying" "saying" (defArgs s_saying) (defBody s_saying) (defScope s_saying) .none kV14 dc14 pm14 an14 cd14 ct14), sl14⟩) (c14 : PySem.W.codeIn K cd14 "saying" = true) (k14 : PySem.W.keepIn K (.ref f14) = true)
    (a15 : PySem.W.nsIn K mainGlobals "_law_right" = some (some (.ref f15))) (l15 : K.lookup f15 = some ⟨oc15, od15, .func (PySem.W.fnOf "_law_right" "_law_right" (defArgs s__law_right) (defBody s__law_right) (defScope s__law_right) .none kV15 dc15 pm15 an15 cd15 ct15), sl15⟩) (c15 : PySem.W.codeIn K cd15 "_law_right" = true) (k15 : PySem.W.keepIn K (.ref f15) = true)
    (a16 : PySem.W.nsIn K mainGlobals "_law_box" = some (some (.ref f16))) (l16 : K.lookup f16 = some ⟨oc16, od16, .func (PySem.W.fnOf "_law_box" "_law_box" (defArgs s__law_box) (defBody s__law_box) (defScope s__law_box) .none kV16 dc16 pm16 an16 cd16 ct16), sl16⟩) (c16 : PySem.W.codeIn K cd16 "_law_box" = true) (k16 : PySem.W.keepIn K (.ref f16) = true)
    (a17 : PySem.W.nsIn K mainGlobals "law" = some (some (.ref f17))) (l17 : K.lookup f17 = some ⟨oc17, od17, .func (PySem.W.fnOf "law" "law" (defArgs s_law) (defBody s_law) (defScope s_law) .none kV17 dc17 pm17 an17 cd17 ct17), sl17⟩) (c17 : PySem.W.codeIn K cd17 "law" = true) (k17 : PySem.W.keepIn K (.ref f17) = true)
    (z_abs : PySem.W.nsIn K mainGlobals "abs" = some none)
    (z_all : PySem.W.nsIn K mainGlobals "all" = some none)
    (z_divmod : PySem.W.nsIn K mainGlobals "divmod" = some none)
    (z_enumerate : PySem.W.nsIn K mainGlobals "enumerate" = some none)
    (z_int : PySem.W.nsIn K mainGlobals "int" = some none)
    (z_len : PySem.W.nsIn K mainGlobals "len" = some none)
    (z_list : PySem.W.nsIn K mainGlobals "list" = some none)
    (z_max : PySem.W.nsIn K mainGlobals "max" = some none)
    (z_range : PySem.W.nsIn K mainGlobals "range" = some none)
    (z_str : PySem.W.nsIn K mainGlobals "str" = some none)
    (z_tuple : PySem.W.nsIn K mainGlobals "tuple" = some none)
    (z_zip : PySem.W.nsIn K mainGlobals "zip" = some none)
    (c_ARG : PySem.W.nsIn K mainGlobals "ARG" = some (some (.str "arg" t_ARG)))
    (c_ARG_SIGNS : PySem.W.nsIn K mainGlobals "ARG_SIGNS" = some (some (.str "abcd" t_ARG_SIGNS)))
    (c_CALL : PySem.W.nsIn K mainGlobals "CALL" = some (some (.str "call" t_CALL)))
    (c_CALL_SIGN : PySem.W.nsIn K mainGlobals "CALL_SIGN" = some (some (.str "#" t_CALL_SIGN)))
    (c_NUM : PySem.W.nsIn K mainGlobals "NUM" = some (some (.str "num" t_NUM)))
    (c_RING : PySem.W.nsIn K mainGlobals "RING" = some (some (.str "ring" t_RING)))
    (c_RING_SIGN : PySem.W.nsIn K mainGlobals "RING_SIGN" = some (some (.str "@" t_RING_SIGN)))
    {a_HEAD_WORDS : Addr} (n_HEAD_WORDS : PySem.W.nsIn K mainGlobals "HEAD_WORDS" = some (some (.ref a_HEAD_WORDS))) (t_HEAD_WORDS : SqTK K a_HEAD_WORDS (tup_HEAD_WORDS.map V.str))
    {a_LEAF_WORDS : Addr} (n_LEAF_WORDS : PySem.W.nsIn K mainGlobals "LEAF_WORDS" = some (some (.ref a_LEAF_WORDS))) (t_LEAF_WORDS : SqTK K a_LEAF_WORDS (tup_LEAF_WORDS.map V.str))
    : ∃ fd : FuncData, (∀ (s : Shared) (v : Value), BindsTo s fd ⟨[v], []⟩ [("script", v)]) ∧ ∀ base : Heap, K.In base → base.Ns mainGlobals mg → FnG l.prog w K mg base CX0 14 fa fd ["script"] (sp0 K 1 W_law) := by
  have e := hfa.symm.trans (PySem.W.mg_of X G a17)
  cases e
  have F0 := fun_mk (st := s__law_folded) l0 c0 k0
  have F1 := fun_mk (st := s__law_known) l1 c1 k1
  have F2 := fun_mk (st := s__law_take) l2 c2 k2
  have F3 := fun_mk (st := s__law_order) l3 c3 k3
  have F4 := fun_mk (st := s__law_placed) l4 c4 k4
  have F5 := fun_mk (st := s__law_spots) l5 c5 k5
  have F6 := fun_mk (st := s_numbers_of) l6 c6 k6
  have F7 := fun_mk (st := s_head_text) l7 c7 k7
  have F8 := fun_mk (st := s_parts_of) l8 c8 k8
  have F9 := fun_mk (st := s_term_text) l9 c9 k9
  have F10 := fun_mk (st := s_without_places) l10 c10 k10
  have F11 := fun_mk (st := s_led_term) l11 c11 k11
  have F12 := fun_mk (st := s_heads_of) l12 c12 k12
  have F13 := fun_mk (st := s_places_of) l13 c13 k13
  have F14 := fun_mk (st := s_saying) l14 c14 k14
  have F15 := fun_mk (st := s__law_right) l15 c15 k15
  have F16 := fun_mk (st := s__law_box) l16 c16 k16
  have F17 := fun_mk (st := s_law) l17 c17 k17
  have b0 := F0.binds (ps := ["script", "size"]) fun _ _ _ _ _ _ us hl => match us, hl with | [_, _], _ => rfl
  have b1 := F1.binds (ps := []) fun _ _ _ _ _ _ us hl => match us, hl with | [], _ => rfl
  have b2 := F2.binds (ps := ["box", "size"]) fun _ _ _ _ _ _ us hl => match us, hl with | [_, _], _ => rfl
  have b3 := F3.binds (ps := ["box", "size"]) fun _ _ _ _ _ _ us hl => match us, hl with | [_, _], _ => rfl
  have b4 := F4.binds (ps := ["term", "places"]) fun _ _ _ _ _ _ us hl => match us, hl with | [_, _], _ => rfl
  have b5 := F5.binds (ps := ["term"]) fun _ _ _ _ _ _ us hl => match us, hl with | [_], _ => rfl
  have b6 := F6.binds (ps := ["keys"]) fun _ _ _ _ _ _ us hl => match us, hl with | [_], _ => rfl
  have b7 := F7.binds (ps := ["term"]) fun _ _ _ _ _ _ us hl => match us, hl with | [_], _ => rfl
  have b8 := F8.binds (ps := ["term"]) fun _ _ _ _ _ _ us hl => match us, hl with | [_], _ => rfl
  have b9 := F9.binds (ps := ["term"]) fun _ _ _ _ _ _ us hl => match us, hl with | [_], _ => rfl
  have b10 := F10.binds (ps := ["head"]) fun _ _ _ _ _ _ us hl => match us, hl with | [_], _ => rfl
  have b11 := F11.binds (ps := ["term", "lead"]) fun _ _ _ _ _ _ us hl => match us, hl with | [_, _], _ => rfl
  have b12 := F12.binds (ps := ["term", "word"]) fun _ _ _ _ _ _ us hl => match us, hl with | [_, _], _ => rfl
  have b13 := F13.binds (ps := ["term"]) fun _ _ _ _ _ _ us hl => match us, hl with | [_], _ => rfl
  have b14 := F14.binds (ps := ["bodies"]) fun _ _ _ _ _ _ us hl => match us, hl with | [_], _ => rfl
  have b15 := F15.binds (ps := ["box"]) fun _ _ _ _ _ _ us hl => match us, hl with | [_], _ => rfl
  have b16 := F16.binds (ps := ["script", "k"]) fun _ _ _ _ _ _ us hl => match us, hl with | [_, _], _ => rfl
  have b17 := F17.binds (ps := ["script"]) fun _ _ _ _ _ _ us hl => match us, hl with | [_], _ => rfl
  let T : Tops K mg := ⟨f0, _, F0, (PySem.W.mg_of X G a0), b0, f1, _, F1, (PySem.W.mg_of X G a1), b1, f2, _, F2, (PySem.W.mg_of X G a2), b2, f3, _, F3, (PySem.W.mg_of X G a3), b3, f4, _, F4, (PySem.W.mg_of X G a4), b4, f5, _, F5, (PySem.W.mg_of X G a5), b5, f6, _, F6, (PySem.W.mg_of X G a6), b6, f7, _, F7, (PySem.W.mg_of X G a7), b7, f8, _, F8, (PySem.W.mg_of X G a8), b8, f9, _, F9, (PySem.W.mg_of X G a9), b9, f10, _, F10, (PySem.W.mg_of X G a10), b10, f11, _, F11, (PySem.W.mg_of X G a11), b11, f12, _, F12, (PySem.W.mg_of X G a12), b12, f13, _, F13, (PySem.W.mg_of X G a13), b13, f14, _, F14, (PySem.W.mg_of X G a14), b14, f15, _, F15, (PySem.W.mg_of X G a15), b15, f16, _, F16, (PySem.W.mg_of X G a16), b16, fa, _, F17, (PySem.W.mg_of X G a17), b17, a10, (PySem.W.mg_none_of X G z_abs), (PySem.W.mg_none_of X G z_all), (PySem.W.mg_none_of X G z_divmod), (PySem.W.mg_none_of X G z_enumerate), (PySem.W.mg_none_of X G z_int), (PySem.W.mg_none_of X G z_len), (PySem.W.mg_none_of X G z_list), (PySem.W.mg_none_of X G z_max), (PySem.W.mg_none_of X G z_range), (PySem.W.mg_none_of X G z_str), (PySem.W.mg_none_of X G z_tuple), (PySem.W.mg_none_of X G z_zip), t_ARG, (PySem.W.mg_of X G c_ARG), t_ARG_SIGNS, (PySem.W.mg_of X G c_ARG_SIGNS), t_CALL, (PySem.W.mg_of X G c_CALL), t_CALL_SIGN, (PySem.W.mg_of X G c_CALL_SIGN), t_NUM, (PySem.W.mg_of X G c_NUM), t_RING, (PySem.W.mg_of X G c_RING), t_RING_SIGN, (PySem.W.mg_of X G c_RING_SIGN), a_HEAD_WORDS, (PySem.W.mg_of X G n_HEAD_WORDS), t_HEAD_WORDS, a_LEAF_WORDS, (PySem.W.mg_of X G n_LEAF_WORDS), t_LEAF_WORDS⟩
  exact ⟨PySem.W.fnOf "law" "law" (defArgs s_law) (defBody s_law) (defScope s_law) .none kV17 dc17 pm17 an17 cd17 ct17, fun s v => .of_eq rfl, fun base _ _ => (ok_law (base := base) T).ok⟩

/-! ### texts of the forty-three signs -/
def codes : List Nat := [48, 49, 50, 51, 52, 53, 54, 55, 56, 57, 97, 98, 99, 100, 101, 102, 103, 104, 105, 106, 107, 108, 109, 110, 111, 112, 113, 114, 115, 116, 117, 118, 119, 120, 121, 122, 32, 35, 64, 40, 41, 59, 58]
def dig (i : Nat) : Nat := codes.getD i 0
def T (is : List Nat) : Str := ⟨(is.map dig).toArray⟩
def Lo (is : List Nat) : Prop := ∀ i ∈ is, i < 43
theorem Lo.app {is js : List Nat} (a : Lo is) (b : Lo js) : Lo (is ++ js) := fun i h => (List.mem_append.mp h).elim (a i) (b i)
theorem Lo.cons {i : Nat} {is : List Nat} (a : i < 43) (b : Lo is) : Lo (i :: is) := fun j h => (List.mem_cons.mp h).elim (fun e => e ▸ a) (b j)
theorem Lo.nil : Lo [] := fun _ h => nomatch h
theorem Lo.one {i : Nat} (a : i < 43) : Lo [i] := .cons a .nil
theorem Lo.take {is : List Nat} (a : Lo is) (n : Nat) : Lo (is.take n) := fun i h => a i (List.mem_of_mem_take h)
theorem Lo.drop {is : List Nat} (a : Lo is) (n : Nat) : Lo (is.drop n) := fun i h => a i (List.mem_of_mem_drop h)
theorem Lo.rev {is : List Nat} (a : Lo is) : Lo is.reverse := fun i h => a i (List.mem_reverse.mp h)
theorem sig_T : ("0123456789abcdefghijklmnopqrstuvwxyz #@();:" : Str) = T (List.range 43) := by decide +kernel
theorem sig36_T : ("0123456789abcdefghijklmnopqrstuvwxyz" : Str) = T (List.range 36) := by decide +kernel
theorem emp_T : ("" : Str) = T [] := by decide +kernel
theorem dig_lt : ∀ i, i < 43 → dig i < 128 := by decide
theorem dig_inj : ∀ i, i < 43 → ∀ j, j < 43 → dig i = dig j → i = j := by decide
theorem T_len (is : List Nat) : (T is).length = is.length := by
  show (is.map dig).toArray.size = _
  simp
theorem T_list (is : List Nat) : (T is).cps.toList = is.map dig := by
  show (is.map dig).toArray.toList = _
  simp
theorem T_app (is js : List Nat) : T is ++ T js = T (is ++ js) := by
  show (⟨(is.map dig).toArray ++ (js.map dig).toArray⟩ : Str) = ⟨((is ++ js).map dig).toArray⟩
  simp
theorem T_ok {is : List Nat} (h : Lo is) : PyData.strOk (T is) = true := by
  unfold PyData.strOk
  rw [← Array.all_toList, T_list, List.all_eq_true]
  intro c hc
  obtain ⟨i, hi, rfl⟩ := List.mem_map.mp hc
  exact decide_eq_true (Nat.lt_trans (dig_lt i (h i hi)) (by decide))
theorem T_signs (is : List Nat) : signsD (T is) = is.map fun i => .str (T [i]) := by
  unfold signsD
  rw [T_list, List.map_map]; rfl
theorem T_inj {is js : List Nat} (a : Lo is) (b : Lo js) (h : T is = T js) : is = js := by
  have e : is.map dig = js.map dig := by rw [← T_list, ← T_list, h]
  clear h
  induction is generalizing js with
  | nil => cases js with | nil => rfl | cons _ _ => cases e
  | cons i is ih =>
    cases js with
    | nil => cases e
    | cons j js =>
      simp only [List.map_cons, List.cons.injEq] at e
      rw [dig_inj i (a i (by simp)) j (b j (by simp)) e.1, ih (fun x h => a x (by simp [h])) (fun x h => b x (by simp [h])) e.2]
theorem T_at {is : List Nat} {i : Int} (h0 : 0 ≤ i) (h : i < is.length) : atI (T is).cps.toList i = some (dig (is.getD i.toNat 0)) := by
  have hl : i.toNat < is.length := by omega
  rw [T_list]
  refine atI_of h0 ?_
  rw [List.getElem?_map, List.getElem?_eq_getElem hl, List.getD_eq_getElem?_getD, List.getElem?_eq_getElem hl]; rfl
theorem T_at43 {i : Int} (h0 : 0 ≤ i) (h : i < 43) : atI (T (List.range 43)).cps.toList i = some (dig i.toNat) := by
  rw [T_at h0 (by simpa using h)]
  congr 2
  rw [List.getD_eq_getElem?_getD, List.getElem?_range (by omega)]; rfl
theorem T_at36 {i : Int} (h0 : 0 ≤ i) (h : i < 36) : atI (T (List.range 36)).cps.toList i = some (dig i.toNat) := by
  rw [T_at h0 (by simpa using h)]
  congr 2
  rw [List.getD_eq_getElem?_getD, List.getElem?_range (by omega)]; rfl
theorem T_one (i : Nat) : (⟨#[dig i]⟩ : Str) = T [i] := rfl
theorem occ_T : ∀ i, i < 43 → Builtin.Str.occurrences (T (List.range 43)) (T [i]) 0 43 1 = [i] := by decide +kernel
theorem len_line {n : Nat} (h : n ≤ 16777216) : n ≤ sizeLine := by rw [sizeLine_eq]; exact h
theorem T_cut (is : List Nat) (lo hi : Option Int) : cutS (T is) lo hi = T (cutL is lo hi) := by
  unfold cutS cutL T
  have e : (⟨(is.map dig).toArray⟩ : Str).length = is.length := T_len is
  rw [e]
  simp [List.map_take, List.map_drop]
theorem T_rev (is : List Nat) : revS (T is) = T is.reverse := by
  unfold revS
  rw [T_list]
  unfold T
  rw [List.map_reverse]
theorem T_rep (is : List Nat) (n : Nat) : repS (T is) n = T (List.replicate n is).flatten := by
  unfold repS T
  simp [List.map_flatten, List.map_replicate]
theorem join_T (iss : List (List Nat)) : Txt.join (T []) (iss.map T) = T iss.flatten := by
  rw [TL.join_eq]
  induction iss with
  | nil => rfl
  | cons a r ih =>
    cases r with
    | nil => show T a = T [a].flatten; simp
    | cons b r =>
      show T a ++ T [] ++ Str.join (T []) (T b :: r.map T) = _
      have ih' : Str.join (T []) (T b :: r.map T) = T (b :: r).flatten := ih
      rw [ih', T_app, T_app, List.append_nil]; rfl

/-! ### the sum of a text, the figures of a number -/
def PM : Int := 998244353
def sumI (s : Int) (is : List Nat) : Int := is.foldl (fun (s : Int) (i : Nat) => (s * 131 + (i : Int) + 1) % PM) s
theorem sumI_lt {s : Int} (h0 : 0 ≤ s) (h : s < PM) : ∀ is : List Nat, 0 ≤ sumI s is ∧ sumI s is < PM
  | [] => ⟨h0, h⟩
  | i :: is => sumI_lt (Int.emod_nonneg _ (by decide)) (Int.emod_lt_of_pos _ (by decide)) is
theorem sumI_app (s : Int) (is js : List Nat) : sumI s (is ++ js) = sumI (sumI s is) js := by unfold sumI; exact List.foldl_append
/-- six figures -/
def figs : Nat → Nat → List Nat → List Nat
  | 0, _, acc => acc
  | k + 1, n, acc => figs k (n / 36) (n % 36 :: acc)
def val36 (is : List Nat) : Nat := is.foldl (fun a i => a * 36 + i) 0
theorem figs_len : ∀ (k n : Nat) (acc : List Nat), (figs k n acc).length = k + acc.length
  | 0, _, acc => by simp [figs]
  | k + 1, n, acc => by rw [figs, figs_len k, List.length_cons]; omega
theorem figs_lt : ∀ (k n : Nat) (acc : List Nat), (∀ i ∈ acc, i < 36) → ∀ i ∈ figs k n acc, i < 36
  | 0, _, _, h => h
  | k + 1, n, acc, h => figs_lt k _ _ fun i hi => (List.mem_cons.mp hi).elim (fun e => e ▸ Nat.mod_lt _ (by decide)) (h i)
theorem val_app (a : Nat) (is : List Nat) : is.foldl (fun a i => a * 36 + i) a = a * 36 ^ is.length + val36 is := by
  unfold val36
  induction is generalizing a with
  | nil => simp
  | cons i is ih =>
    rw [List.foldl_cons, ih, List.foldl_cons, ih (0 * 36 + i), List.length_cons, Nat.pow_succ]
    rw [Nat.add_mul, Nat.zero_mul, Nat.zero_add, Nat.mul_assoc, Nat.mul_comm 36]
    omega
theorem figs_val : ∀ (k n : Nat) (acc : List Nat), n < 36 ^ k → val36 (figs k n acc) = n * 36 ^ acc.length + val36 acc
  | 0, n, acc, h => by
    have : n = 0 := by simpa using h
    subst this
    simp [figs]
  | k + 1, n, acc, h => by
    have hk : n / 36 < 36 ^ k := by
      rw [Nat.pow_succ] at h
      exact Nat.div_lt_of_lt_mul (by rw [Nat.mul_comm]; exact h)
    rw [figs, figs_val k _ _ hk]
    have e : val36 (n % 36 :: acc) = (n % 36) * 36 ^ acc.length + val36 acc := by
      show List.foldl _ (0 * 36 + n % 36) acc = _
      rw [val_app, Nat.zero_mul, Nat.zero_add]
    rw [e, List.length_cons, Nat.pow_succ, ← Nat.add_assoc]
    congr 1
    have := Nat.div_add_mod n 36
    calc n / 36 * (36 ^ acc.length * 36) + n % 36 * 36 ^ acc.length = (36 * (n / 36) + n % 36) * 36 ^ acc.length := by
          rw [Nat.add_mul, Nat.mul_comm (36 ^ acc.length) 36, ← Nat.mul_assoc, Nat.mul_comm (n / 36) 36]
      _ = _ := by rw [this]
/-- the mark of a text -/
def markL (is : List Nat) : List Nat := figs 6 (sumI 7 is).toNat []
theorem markL_len (is : List Nat) : (markL is).length = 6 := figs_len 6 _ _
theorem markL_lt (is : List Nat) : ∀ i ∈ markL is, i < 36 := figs_lt 6 _ _ fun _ h => nomatch h
theorem markL_lo (is : List Nat) : Lo (markL is) := fun i h => Nat.lt_trans (markL_lt is i h) (by decide)
theorem sum7 (is : List Nat) : 0 ≤ sumI 7 is ∧ sumI 7 is < PM := sumI_lt (by decide) (by decide) is
theorem markL_val (is : List Nat) : val36 (markL is) = (sumI 7 is).toNat := by
  have h := sum7 is
  unfold markL
  rw [figs_val 6 _ _ (by unfold PM at h; omega)]
  show _ * 1 + 0 = _
  omega
theorem dig_b36 : ∀ i, i < 36 → B36.IsB (dig i) ∧ B36.bv (dig i) = i := by
  unfold B36.IsB
  decide
theorem num_T {is : List Nat} (h : ∀ i ∈ is, i < 36) : B36.num (T is).cps.toList = val36 is := by
  rw [T_list]
  unfold B36.num val36
  suffices ∀ a, List.foldl (fun a c => a * 36 + B36.bv c) a (is.map dig) = List.foldl (fun a i => a * 36 + i) a is from this 0
  induction is with
  | nil => exact fun _ => rfl
  | cons i is ih =>
    intro a
    rw [List.map_cons, List.foldl_cons, List.foldl_cons, (dig_b36 i (h i (by simp))).2]
    exact ih (fun j hj => h j (by simp [hj])) _

/-! ### small rules -/
theorem T_addD {is js : List Nat} {k : DL.D → Prop} : addD (.str (T is)) (.str (T js)) k = (is.length + js.length ≤ sizeLine ∧ k (.str (T (is ++ js)))) := by rw [addD_ss, T_len, T_len, T_app]
theorem szl0 : (0 ≤ sizeLine) = True := eq_true (len_line (by decide))
theorem szl1 : (1 ≤ sizeLine) = True := eq_true (len_line (by decide))
theorem szl2 : (2 ≤ sizeLine) = True := eq_true (len_line (by decide))
theorem szl3 : (3 ≤ sizeLine) = True := eq_true (len_line (by decide))
theorem szl4 : (4 ≤ sizeLine) = True := eq_true (len_line (by decide))
theorem szl5 : (5 ≤ sizeLine) = True := eq_true (len_line (by decide))
theorem szl6 : (6 ≤ sizeLine) = True := eq_true (len_line (by decide))
theorem szl7 : (7 ≤ sizeLine) = True := eq_true (len_line (by decide))
theorem szl8 : (8 ≤ sizeLine) = True := eq_true (len_line (by decide))
theorem szl9 : (9 ≤ sizeLine) = True := eq_true (len_line (by decide))
theorem szl10 : (10 ≤ sizeLine) = True := eq_true (len_line (by decide))
theorem szl11 : (11 ≤ sizeLine) = True := eq_true (len_line (by decide))
theorem szl12 : (12 ≤ sizeLine) = True := eq_true (len_line (by decide))
theorem szl13 : (13 ≤ sizeLine) = True := eq_true (len_line (by decide))
theorem szl14 : (14 ≤ sizeLine) = True := eq_true (len_line (by decide))
theorem szl15 : (15 ≤ sizeLine) = True := eq_true (len_line (by decide))
theorem szl16 : (16 ≤ sizeLine) = True := eq_true (len_line (by decide))
theorem szt0 : (0 < sizeLine) = True := eq_true (Nat.lt_of_lt_of_le (by decide) (len_line (n := 100) (by decide)))
theorem szt1 : (1 < sizeLine) = True := eq_true (Nat.lt_of_lt_of_le (by decide) (len_line (n := 100) (by decide)))
theorem szt2 : (2 < sizeLine) = True := eq_true (Nat.lt_of_lt_of_le (by decide) (len_line (n := 100) (by decide)))
theorem szt3 : (3 < sizeLine) = True := eq_true (Nat.lt_of_lt_of_le (by decide) (len_line (n := 100) (by decide)))
theorem szt4 : (4 < sizeLine) = True := eq_true (Nat.lt_of_lt_of_le (by decide) (len_line (n := 100) (by decide)))
theorem szt5 : (5 < sizeLine) = True := eq_true (Nat.lt_of_lt_of_le (by decide) (len_line (n := 100) (by decide)))
theorem szt6 : (6 < sizeLine) = True := eq_true (Nat.lt_of_lt_of_le (by decide) (len_line (n := 100) (by decide)))
theorem szt7 : (7 < sizeLine) = True := eq_true (Nat.lt_of_lt_of_le (by decide) (len_line (n := 100) (by decide)))
theorem szt8 : (8 < sizeLine) = True := eq_true (Nat.lt_of_lt_of_le (by decide) (len_line (n := 100) (by decide)))
theorem szt9 : (9 < sizeLine) = True := eq_true (Nat.lt_of_lt_of_le (by decide) (len_line (n := 100) (by decide)))
theorem szt10 : (10 < sizeLine) = True := eq_true (Nat.lt_of_lt_of_le (by decide) (len_line (n := 100) (by decide)))
theorem szt11 : (11 < sizeLine) = True := eq_true (Nat.lt_of_lt_of_le (by decide) (len_line (n := 100) (by decide)))
theorem szt12 : (12 < sizeLine) = True := eq_true (Nat.lt_of_lt_of_le (by decide) (len_line (n := 100) (by decide)))
theorem sSeq_eq {m m' : SMon} {k : SK} {ρ : List Slot} : sSeq m m' k ρ = m { k with nx := m' k } ρ := rfl
theorem ix30 : ixN 3 0 = some 0 := by decide
theorem ix32 : ixN 3 2 = some 2 := by decide
theorem indexD_s {z b : Str} {k : DL.D → Prop} : indexD z [.str b] k = ∃ i rest, Builtin.Str.occurrences z b 0 z.length 1 = i :: rest ∧ k (.int (i : Nat)) := rfl
theorem joinD_l {z : Str} {xs : List DL.D} {k : DL.D → Prop} : joinD z [.list xs] k = ∃ ys, strsOf xs = some ys ∧ (ys.map (·.length)).sum + ys.length * z.length ≤ 16777216 ∧ k (.str (Txt.join z ys)) := rfl
theorem int36D_s {z : Str} {k : DL.D → Prop} : int36D [.str z, .int 36] k = (z.cps.toList ≠ [] ∧ z.length ≤ 640 ∧ (∀ c ∈ z.cps.toList, B36.IsB c) ∧ k (.int ((B36.num z.cps.toList : Nat) : Int))) := rfl
theorem cmul_r {i j : Int} (h0 : 0 ≤ j) (h : j < 18446744073709551616) : CMul i j := .inr ⟨by omega, by omega⟩
theorem cmul_l {i j : Int} (h0 : 0 ≤ i) (h : i < 18446744073709551616) : CMul i j := .inl ⟨by omega, by omega⟩
theorem forLoop_cons {g : GMn} {body : SMon} {k : SK} {d : DL.D} {ds : List DL.D} {ρ : List Slot} : forLoop g body k (d :: ds) ρ = g d ρ fun ρ1 => body (loopK k (forLoop g body k ds)) ρ1 := rfl
theorem dget_i {l : List (DL.D × DL.D)} {l' : List (Str × Int)} {x : Str} {n : Int} {k : DL.D → Prop} (e : l = dsiD l') (f : (l'.find? fun kv => decide (kv.1 = x)) = some (x, n)) (q : k (.int n)) : dgetD (.dict l) (.str x) k := ⟨l', n, e, f, q⟩
theorem nat_mod (n : Nat) : ((n : Int) % 36).toNat = n % 36 := by omega
theorem nat_div (n : Nat) : ((n : Int) / 36) = ((n / 36 : Nat) : Int) := by omega
theorem strline {a b : Nat} (h : a + b ≤ 1000000) : a + b ≤ sizeLine := len_line (by omega)
theorem lcLoop_nil {g : GMn} {tt : M Bool} {te : M DL.D} {vs : List Nat} {k : List DL.D → List Slot → Prop} {acc : List DL.D} {ρ : List Slot} : lcLoop g tt te vs k [] acc ρ = k acc (wipeS ρ vs) := rfl
theorem lcLoop_cons {g : GMn} {tt : M Bool} {te : M DL.D} {vs : List Nat} {k : List DL.D → List Slot → Prop} {d : DL.D} {ds acc : List DL.D} {ρ : List Slot} :
    lcLoop g tt te vs k (d :: ds) acc ρ = g d ρ fun ρ1 => tt ρ1 fun b ρ2 => if b = true then te ρ2 fun e ρ3 => acc.length < sizeLine ∧ lcLoop g tt te vs k ds (acc ++ [e]) (wipeS ρ3 vs) else lcLoop g tt te vs k ds acc (wipeS ρ2 vs) := rfl
theorem inD_one {z : Str} {c : Nat} {k : DL.D → Prop} : inD (.str ⟨#[c]⟩) (.str z) k = k (.bool (decide (c ∈ z.cps.toList))) := by
  show k (.bool (!(Builtin.Str.occurrences z ⟨#[c]⟩ 0 z.length 1).isEmpty)) = _
  rw [PySem.StrLaws.found_one]
theorem dig_in : ∀ i, i < 36 → dig i ∈ (T (List.range 36)).cps.toList := by decide
theorem bools_rep (m : Nat) : boolsOf (List.replicate m (.bool true)) = some (List.replicate m true) := by
  induction m with
  | zero => rfl
  | succ m ih =>
    show (boolsOf (List.replicate m (.bool true))).map _ = _
    rw [ih]; rfl
theorem allD_rep {m : Nat} {k : DL.D → Prop} (q : k (.bool true)) : allD [.list (List.replicate m (.bool true))] k := ⟨_, bools_rep m, by rw [show (List.replicate m true).all id = true by simp]; exact q⟩
def Bx (n : Nat) (bs : List DL.D) : Prop := ∃ a b c : Int, bs = [.int a, .int b, .int c] ∧ 0 ≤ a ∧ 0 ≤ b ∧ b < 2147483648 ∧ 0 ≤ c ∧ c ≤ n
theorem Bx.mono {m n : Nat} {bs : List DL.D} (h : Bx m bs) (l : m ≤ n) : Bx n bs := by
  obtain ⟨a, b, c, e, h1, h2, h3, h4, h5⟩ := h
  exact ⟨a, b, c, e, h1, h2, h3, h4, by omega⟩
def CAP : Nat := 1099511627776
theorem sum_ones (is : List Nat) : ((is.map fun i => T [i]).map (·.length)).sum = is.length := by
  induction is with
  | nil => rfl
  | cons i is ih =>
    rw [List.map_cons, List.map_cons, List.sum_cons, ih, T_len, List.length_cons, List.length_cons, List.length_nil]; omega
theorem flat_ones (is : List Nat) : (is.map fun i => [i]).flatten = is := by
  induction is with
  | nil => rfl
  | cons i is ih => rw [List.map_cons, List.flatten_cons, ih]; rfl
theorem join_signs {is : List Nat} {k : DL.D → Prop} (hl : is.length ≤ 10000) (q : k (.str (T is))) : joinD (T []) [.list (is.map fun i => .str (T [i]))] k := by
  rw [joinD_l]
  have e : (is.map fun i => PyData.str (T [i])) = (is.map fun i => T [i]).map PyData.str := by rw [List.map_map]; rfl
  refine ⟨is.map fun i => T [i], by rw [e]; exact strsOf_map _, ?_, ?_⟩
  · rw [sum_ones, T_len]; simp; omega
  · have e2 : (is.map fun i => T [i]) = (is.map fun i => [i]).map T := by rw [List.map_map]; rfl
    rw [e2, join_T]
    rw [flat_ones]; exact q
theorem map_snoc (acc : List Nat) (i : Nat) : (acc.map fun i => PyData.str (T [i])) ++ [.str (T [i])] = (acc ++ [i]).map fun i => .str (T [i]) := by rw [List.map_append]; rfl
theorem all_snoc {m : Nat} {acc : List Nat} {i : Nat} (h : ∀ j ∈ acc, j < m) (hi : i < m) : ∀ j ∈ acc ++ [i], j < m := fun j hj => by
  rcases List.mem_append.mp hj with hj | hj
  · exact h j hj
  · rw [List.mem_singleton.mp hj]; exact hi
theorem mark0 : ("000000" : Str) = T [0, 0, 0, 0, 0, 0] := by decide +kernel
theorem markz : ("zzzzzz" : Str) = T [35, 35, 35, 35, 35, 35] := by decide +kernel
theorem num_lo : ∀ (m n : Nat), n < 10 ^ (m + 1) → ∃ is : List Nat, TL.numL n = is.map dig ∧ (∀ i ∈ is, i < 10) ∧ is.length ≤ m + 1
  | 0, n, h => by
    have h : n < 10 := h
    have d : ∀ n, n < 10 → 48 + n = dig n := by decide
    exact ⟨[n], by rw [TL.numL_lt h, d n h]; rfl, by simpa using h, by simp⟩
  | m + 1, n, h => by
    have d : ∀ n, n < 10 → 48 + n = dig n := by decide
    by_cases hn : n < 10
    · exact ⟨[n], by rw [TL.numL_lt hn, d n hn]; rfl, by simpa using hn, by simp⟩
    · obtain ⟨is, e, h1, h2⟩ := num_lo m (n / 10) (by rw [Nat.pow_succ] at h; exact Nat.div_lt_of_lt_mul (by rw [Nat.mul_comm]; exact h))
      have hm : n % 10 < 10 := Nat.mod_lt _ (by decide)
      refine ⟨is ++ [n % 10], by rw [TL.numL_step (by omega), e, d _ hm, List.map_append]; rfl, ?_, by rw [List.length_append, List.length_singleton]; omega⟩
      intro i hi
      rcases List.mem_append.mp hi with hi | hi
      · exact h1 i hi
      · rw [List.mem_singleton.mp hi]; exact hm
theorem str_num {n : Nat} (h : n < 10000000) : ∃ is : List Nat, Str.ofString (toString ((n : Nat) : Int)) = T is ∧ Lo is ∧ is.length ≤ 7 := by
  obtain ⟨is, e, h1, h2⟩ := num_lo 6 n h
  refine ⟨is, ?_, fun i hi => Nat.lt_trans (h1 i hi) (by decide), h2⟩
  have t := TL.tl_num n
  rw [e] at t
  have : ∀ x : Str, x.cps.toList = is.map dig → x = T is := fun ⟨c⟩ hx => by
    unfold T
    congr 1
    have hx : c.toList = is.map dig := hx
    rw [← hx]
  exact this _ t
def wid : List (List Nat) → Nat
  | [] => 0
  | a :: r => a.length + 1 + wid r
theorem join_sp : ∀ iss : List (List Nat), (∀ is ∈ iss, Lo is) → ∃ js : List Nat, Txt.join (T [36]) (iss.map T) = T js ∧ Lo js ∧ js.length ≤ wid iss
  | [], _ => ⟨[], by rw [TL.join_eq]; decide +kernel, .nil, Nat.le_refl _⟩
  | [a], h => ⟨a, by rw [TL.join_eq]; rfl, h a (by simp), by unfold wid; omega⟩
  | a :: b :: r, h => by
    obtain ⟨js, e, h1, h2⟩ := join_sp (b :: r) fun is hi => h is (by simp at hi ⊢; right; exact hi)
    refine ⟨a ++ [36] ++ js, ?_, ((h a (by simp)).app (.one (by decide))).app h1, ?_⟩
    · rw [TL.join_eq] at e ⊢
      show T a ++ T [36] ++ Str.join (T [36]) ((b :: r).map T) = _
      rw [e, T_app, T_app]
    · unfold wid
      rw [List.length_append, List.length_append, List.length_singleton]
      omega
theorem sum_wid (iss : List (List Nat)) : ((iss.map T).map (·.length)).sum + (iss.map T).length = wid iss := by
  induction iss with
  | nil => rfl
  | cons a r ih =>
    unfold wid
    rw [← ih, List.map_cons, List.map_cons, List.sum_cons, List.length_cons, T_len]; omega
theorem w_num : PyData.strOk "num" = true := by decide +kernel
theorem w_arg : PyData.strOk "arg" = true := by decide +kernel
theorem w_call : PyData.strOk "call" = true := by decide +kernel
theorem w_ring : PyData.strOk "ring" = true := by decide +kernel
theorem ne1 : (("arg" : Str) == ("num" : Str)) = false := by decide +kernel
theorem ne2 : (("call" : Str) == ("num" : Str)) = false := by decide +kernel
theorem ne3 : (("call" : Str) == ("arg" : Str)) = false := by decide +kernel
theorem ne4 : (("ring" : Str) == ("num" : Str)) = false := by decide +kernel
theorem ne5 : (("ring" : Str) == ("arg" : Str)) = false := by decide +kernel
theorem ne6 : (("ring" : Str) == ("call" : Str)) = false := by decide +kernel
theorem abcd_T : ("abcd" : Str) = T [10, 11, 12, 13] := by decide +kernel
theorem ht_T : ("#" : Str) = T [37] := by decide +kernel
theorem at_T : ("@" : Str) = T [38] := by decide +kernel
theorem sp_T : (" " : Str) = T [36] := by decide +kernel
theorem op_T : ("(" : Str) = T [39] := by decide +kernel
theorem cl_T : (")" : Str) = T [40] := by decide +kernel
theorem inD_two {x a b : Str} {k : DL.D → Prop} : inD (.str x) (.tuple [.str a, .str b]) k = k (.bool (a == x || b == x)) := by
  show ((flatD (.str x) = true ∧ _) ∧ k (.bool (memF (.str x) [.str a, .str b]))) = _
  have e : memF (.str x) [.str a, .str b] = (a == x || b == x) := by
    show (eqF (.str a) (.str x) || (eqF (.str b) (.str x) || false)) = _
    rw [Bool.or_false]; rfl
  rw [e]
  exact propext ⟨fun h => h.2, fun h => ⟨⟨rfl, rfl⟩, h⟩⟩
theorem strs_T (iss : List (List Nat)) : (iss.map fun is => PyData.str (T is)) = (iss.map T).map PyData.str := by rw [List.map_map]; rfl
theorem join_spD {iss : List (List Nat)} {k : DL.D → Prop} (lo : ∀ is ∈ iss, Lo is) (hw : wid iss ≤ 100000) (q : ∀ js, Lo js → js.length ≤ wid iss → k (.str (T js))) : joinD (T [36]) [.list (iss.map fun is => .str (T is))] k := by
  obtain ⟨js, e, h1, h2⟩ := join_sp iss lo
  rw [joinD_l]
  refine ⟨iss.map T, by rw [strs_T]; exact strsOf_map _, ?_, by rw [e]; exact q js h1 h2⟩
  have := sum_wid iss
  rw [T_len]
  simp only [List.length_cons, List.length_nil, Nat.mul_one]
  omega
theorem cut1 {a : DL.D} {ds : List DL.D} : cutL (a :: ds) (some 1) none = ds := by
  unfold cutL
  rw [show HT.sIx (a :: ds).length 0 (some 1) = 1 from by rw [show (some (1 : Int)) = some ((1 : Nat) : Int) from rfl, HT.sIx_nat, List.length_cons]; omega, HT.sIx_none]
  simp
theorem log2_small {n : Nat} (h : n < 10000000) : (n : Int).natAbs.log2 < 1920 := by
  rw [Int.natAbs_natCast]
  by_cases h0 : n = 0
  · subst h0; decide
  · exact Nat.lt_trans ((Nat.log2_lt h0).mpr (Nat.lt_trans h (by decide : 10000000 < 2 ^ 24))) (by decide)
theorem wid_nil : wid [] = 0 := rfl
theorem eqi {r s : Int} {P : DL.D → Prop} (a : r = s → P (.bool true)) (b : r ≠ s → P (.bool false)) : eqD (.int r) (.int s) P := by
  rw [eqD_ii]
  by_cases h : r = s
  · rw [decide_eq_true h]; exact a h
  · rw [decide_eq_false h]; exact b h
theorem lti {r s : Int} {P : DL.D → Prop} (a : r < s → P (.bool true)) (b : ¬ r < s → P (.bool false)) : ltD (.int r) (.int s) P := by
  rw [ltD_ii]
  by_cases h : r < s
  · rw [decide_eq_true h]; exact a h
  · rw [decide_eq_false h]; exact b h
theorem gti {r s : Int} {P : DL.D → Prop} (a : s < r → P (.bool true)) (b : ¬ s < r → P (.bool false)) : gtD (.int r) (.int s) P := lti a b
theorem cut_lo {is : List Nat} (lo : Lo is) (a b : Option Int) : Lo (cutL is a b) := by unfold cutL; exact (lo.drop _).take _
theorem cut_len (is : List Nat) (a b : Option Int) : (cutL is a b).length ≤ is.length := by
  unfold cutL
  rw [List.length_take, List.length_drop]; omega
theorem sl_T {is : List Nat} {a b : Option Int} {k : DL.D → Prop} (hl : is.length ≤ 1000000) (q : k (.str (T (cutL is a b)))) : slD (.str (T is)) a b k := by
  refine ⟨by rw [T_len]; exact len_line (by omega), ?_⟩
  rw [T_cut]; exact q
theorem add_T {is js : List Nat} {k : DL.D → Prop} (hl : is.length + js.length ≤ 1000000) (q : k (.str (T (is ++ js)))) : addD (.str (T is)) (.str (T js)) k := by
  rw [addD_ss, T_len, T_len, T_app]
  exact ⟨len_line (by omega), q⟩
theorem at_ints {cs : List Int} {i : Int} (h0 : 0 ≤ i) (h : i < cs.length) : ∃ c, atI (cs.map PyData.int) i = some (.int c) := by
  obtain ⟨x, e, hx⟩ := atI_ex (xs := cs.map PyData.int) h0 (by rw [List.length_map]; exact h)
  obtain ⟨c, _, rfl⟩ := List.mem_map.mp hx
  exact ⟨c, e⟩
theorem box_core {c i : Int} {P : DL.D → DL.D → Prop} (h0 : 0 ≤ i) (hi : i ≤ 100) (q : ∀ a b : Int, 0 ≤ a → 0 ≤ b → b < 2147483648 → P (.int a) (.int b)) :
    CPow 10 18 ∧ CMul (if c < 0 then -c else c) (if 10 ^ Int.toNat 18 ≤ (if c < 0 then -c else c) then 1 else 0) ∧ (0 : Int) < 2147483629 ∧ CMul 15485863 i ∧ CMul (c % 2147483629 + 15485863 * i + 43) 48271 ∧ (0 : Int) < 2147483647 ∧
      P (.int ((if c < 0 then -c else c) * (if 10 ^ Int.toNat 18 ≤ (if c < 0 then -c else c) then 1 else 0))) (.int ((c % 2147483629 + 15485863 * i + 43) * 48271 % 2147483647)) := by
  refine ⟨⟨by decide, by decide, by decide⟩, ?_, by decide, cmul_l (by decide) (by decide), cmul_r (by decide) (by decide), by decide, ?_⟩
  · split <;> split <;> exact cmul_r (by decide) (by decide)
  · refine q _ _ ?_ (Int.emod_nonneg _ (by decide)) (Int.lt_trans (Int.emod_lt_of_pos _ (by decide)) (by decide))
    split <;> split <;> omega

/-! ### terms -/
inductive Hed where
  | num (n : Nat) | arg (n : Nat) | op (w : Nat) | call (m : List Nat) | ring (p : Nat)
inductive Te where
  | node (h : Hed) (ps : List Te)
def opS (w : Nat) : Str := if w = 0 then "add" else if w = 1 then "less" else if w = 2 then "times" else if w = 3 then "under" else "if"
def opL (w : Nat) : List Nat := if w = 0 then [10, 13, 13] else if w = 1 then [21, 14, 28, 28] else if w = 2 then [29, 18, 22, 14, 28] else if w = 3 then [30, 23, 13, 14, 27] else [18, 15]
def Hed.D (ds : List DL.D) : Hed → DL.D
  | .num n => .tuple [.str "num", .int (n : Nat)]
  | .arg n => .tuple [.str "arg", .int (n : Nat)]
  | .op w => .tuple (.str (opS w) :: ds)
  | .call m => .tuple [.str "call", .str (T m), .tuple ds]
  | .ring p => .tuple [.str "ring", .int (p : Nat), .tuple ds]
mutual
def Te.dat : Te → DL.D
  | .node h ps => h.D (Te.dats ps)
def Te.dats : List Te → List DL.D
  | [] => []
  | t :: ts => t.dat :: Te.dats ts
end
mutual
def Te.deep : Te → Nat
  | .node _ ps => 1 + Te.deeps ps
def Te.deeps : List Te → Nat
  | [] => 0
  | t :: ts => max t.deep (Te.deeps ts)
end
mutual
def Te.size : Te → Nat
  | .node _ ps => 1 + Te.sizes ps
def Te.sizes : List Te → Nat
  | [] => 0
  | t :: ts => t.size + Te.sizes ts
end
theorem deeps_cons (t : Te) (ts : List Te) : Te.deeps (t :: ts) = max t.deep (Te.deeps ts) := rfl
theorem sizes_cons (t : Te) (ts : List Te) : Te.sizes (t :: ts) = t.size + Te.sizes ts := rfl
theorem deep_node (h : Hed) (ps : List Te) : Te.deep (.node h ps) = 1 + Te.deeps ps := rfl
theorem size_node (h : Hed) (ps : List Te) : Te.size (.node h ps) = 1 + Te.sizes ps := rfl
def Te.ps : Te → List Te | .node _ ps => ps
def Te.hd : Te → Hed | .node h _ => h
theorem dats_eq : ∀ ts : List Te, Te.dats ts = ts.map Te.dat
  | [] => rfl
  | t :: ts => by rw [Te.dats, dats_eq ts]; rfl
theorem dats_len (ts : List Te) : (Te.dats ts).length = ts.length := by rw [dats_eq, List.length_map]
theorem deep_mem : ∀ {ts : List Te} {t : Te}, t ∈ ts → t.deep ≤ Te.deeps ts
  | a :: ts, t, h => by
    unfold Te.deeps
    rcases List.mem_cons.mp h with rfl | h
    · exact Nat.le_max_left _ _
    · exact Nat.le_trans (deep_mem h) (Nat.le_max_right _ _)
theorem deeps_le {n : Nat} : ∀ {ts : List Te}, (∀ t ∈ ts, t.deep ≤ n) → Te.deeps ts ≤ n
  | [], _ => Nat.zero_le _
  | a :: ts, h => by
    unfold Te.deeps
    exact Nat.max_le.mpr ⟨h a (by simp), deeps_le fun t ht => h t (by simp [ht])⟩
theorem deep_pos : ∀ t : Te, 1 ≤ t.deep
  | .node _ ps => by unfold Te.deep; omega
theorem size_pos : ∀ t : Te, 1 ≤ t.size
  | .node _ ps => by unfold Te.size; omega
/-- how many parts -/
def Hed.fit (k : Nat) : Hed → Prop
  | .num n => n ≤ 1000002 ∧ k = 0
  | .arg n => n < 4 ∧ k = 0
  | .op w => w < 5 ∧ k = (if w = 4 then 3 else 2)
  | .call m => m.length = 6 ∧ (∀ i ∈ m, i < 36) ∧ k ≤ 4
  | .ring p => p ≤ 11 ∧ k ≤ 4
inductive Te.Ok : Te → Prop
  | mk {h : Hed} {ps : List Te} : h.fit ps.length → (∀ p ∈ ps, Te.Ok p) → Te.Ok (.node h ps)
theorem Te.Ok.fit {h : Hed} {ps : List Te} (o : Te.Ok (.node h ps)) : h.fit ps.length := by cases o; assumption
theorem Te.Ok.all {h : Hed} {ps : List Te} (o : Te.Ok (.node h ps)) : ∀ p ∈ ps, Te.Ok p := by cases o; assumption
theorem Hed.fit.four {h : Hed} {k : Nat} (f : h.fit k) : k ≤ 4 := by
  cases h with
  | num n => have := f.2; omega
  | arg n => have := f.2; omega
  | op w => have := f.2; split at this <;> omega
  | call m => exact f.2.2
  | ring p => exact f.2
theorem sizes_le {c : Nat} : ∀ {ts : List Te}, (∀ t ∈ ts, 3 * t.size + 1 ≤ c) → 3 * Te.sizes ts + ts.length ≤ ts.length * c
  | [], _ => by simp [Te.sizes]
  | a :: ts, h => by
    have h1 := h a (by simp)
    have h2 := sizes_le (c := c) (ts := ts) fun t ht => h t (by simp [ht])
    rw [List.length_cons, Te.sizes, Nat.add_mul, Nat.one_mul]
    omega
theorem size_le : ∀ (n : Nat) (t : Te), t.Ok → t.deep ≤ n → 3 * t.size + 1 ≤ 4 ^ n
  | 0, t, _, h => by have := deep_pos t; omega
  | n + 1, .node hd ps, o, h => by
    have hp : ∀ t ∈ ps, 3 * t.size + 1 ≤ 4 ^ n := fun t ht => size_le n t (o.all t ht) (by have := deep_mem ht; unfold Te.deep at h; omega)
    have s := sizes_le hp
    have f := o.fit.four
    have c1 : 1 ≤ 4 ^ n := Nat.pos_of_ne_zero (by simp)
    have : ps.length * 4 ^ n + (4 - ps.length) * 4 ^ n = 4 * 4 ^ n := by rw [← Nat.add_mul]; congr 1; omega
    have c2 : (4 - ps.length) ≤ (4 - ps.length) * 4 ^ n := Nat.le_mul_of_pos_right _ c1
    unfold Te.size
    rw [Nat.pow_succ]
    omega
theorem size8 {t : Te} (o : t.Ok) (h : t.deep ≤ 8) : t.size ≤ 21845 := by
  have := size_le 8 t o h
  have e : 4 ^ 8 = 65536 := by decide
  omega
theorem deep_kids {h : Hed} {ps : List Te} {n : Nat} (l : Te.deep (.node h ps) ≤ n + 1) : ∀ t ∈ ps, t.deep ≤ n := fun t ht => by
  have := deep_mem ht
  unfold Te.deep at l
  omega
/-! ### what they are written as -/
theorem num_ten : ∀ m n : Nat, n < 10 ^ (m + 1) → ∃ is : List Nat, TL.numL n = is.map dig ∧ (∀ i ∈ is, i < 10) ∧ is.length ≤ m + 1 := num_lo
/-- the figures of a number, in tens -/
def tenF : Nat → Nat → List Nat → List Nat
  | 0, _, acc => acc
  | f + 1, n, acc => if n < 10 then n :: acc else tenF f (n / 10) (n % 10 :: acc)
def ten (n : Nat) : List Nat := tenF 8 n []
theorem tenF_numL : ∀ (f n : Nat) (acc : List Nat), n < 10 ^ f → 0 < f → (tenF f n acc).map dig = TL.numL n ++ acc.map dig
  | 0, _, _, _, h => absurd h (by decide)
  | f + 1, n, acc, h, _ => by
    have d : ∀ n, n < 10 → 48 + n = dig n := by decide
    unfold tenF
    by_cases hn : n < 10
    · rw [if_pos hn, TL.numL_lt hn, d n hn]; rfl
    · rw [if_neg hn]
      have hf : 0 < f := by
        cases f with
        | zero => exact absurd h (by simpa using hn)
        | succ f => omega
      rw [tenF_numL f (n / 10) _ (by rw [Nat.pow_succ] at h; exact Nat.div_lt_of_lt_mul (by rw [Nat.mul_comm]; exact h)) hf, TL.numL_step (n := n) (by omega), List.map_cons, d _ (Nat.mod_lt _ (by decide))]
      simp
theorem tenF_lt : ∀ (f n : Nat) (acc : List Nat), (∀ i ∈ acc, i < 10) → ∀ i ∈ tenF f n acc, i < 10
  | 0, _, _, h => h
  | f + 1, n, acc, h => by
    unfold tenF
    by_cases hn : n < 10
    · rw [if_pos hn]
      intro i hi
      rcases List.mem_cons.mp hi with rfl | hi
      · exact hn
      · exact h i hi
    · rw [if_neg hn]
      exact tenF_lt f _ _ fun i hi => (List.mem_cons.mp hi).elim (fun e => e ▸ Nat.mod_lt _ (by decide)) (h i)
theorem tenF_len : ∀ (f n : Nat) (acc : List Nat), n < 10 ^ f → 0 < f → acc.length < (tenF f n acc).length ∧ (tenF f n acc).length ≤ f + acc.length
  | 0, _, _, _, h => absurd h (by decide)
  | f + 1, n, acc, h, _ => by
    unfold tenF
    by_cases hn : n < 10
    · rw [if_pos hn, List.length_cons]; omega
    · rw [if_neg hn]
      have hf : 0 < f := by
        cases f with
        | zero => exact absurd h (by simpa using hn)
        | succ f => omega
      have := tenF_len f (n / 10) (n % 10 :: acc) (by rw [Nat.pow_succ] at h; exact Nat.div_lt_of_lt_mul (by rw [Nat.mul_comm]; exact h)) hf
      rw [List.length_cons] at this
      omega
theorem ten_lt (n : Nat) : ∀ i ∈ ten n, i < 10 := tenF_lt 8 n [] fun _ h => nomatch h
theorem ten_lo (n : Nat) : Lo (ten n) := fun i h => Nat.lt_trans (ten_lt n i h) (by decide)
theorem ten_pos {n : Nat} (h : n < 10000000) : 1 ≤ (ten n).length := (tenF_len 8 n [] (Nat.lt_trans h (by decide)) (by decide)).1
theorem ten_str {n : Nat} (h : n < 10000000) : Str.ofString (toString ((n : Nat) : Int)) = T (ten n) := by
  have t := TL.tl_num n
  have e : (ten n).map dig = TL.numL n := by
    have := tenF_numL 8 n [] (Nat.lt_trans h (by decide)) (by decide)
    simpa [ten] using this
  rw [← e] at t
  have : ∀ x : Str, x.cps.toList = (ten n).map dig → x = T (ten n) := fun ⟨c⟩ hx => by
    unfold T
    congr 1
    have hx : c.toList = (ten n).map dig := hx
    rw [← hx]
  exact this _ t
theorem ten_len7 {n : Nat} (h : n < 10000000) : (ten n).length ≤ 7 := by
  obtain ⟨is, e, _, l⟩ := num_lo 6 n h
  have e2 : (ten n).map dig = TL.numL n := by
    have := tenF_numL 8 n [] (Nat.lt_trans h (by decide)) (by decide)
    simpa [ten] using this
  have := congrArg List.length (e2.trans e)
  rw [List.length_map, List.length_map] at this
  omega
/-- its value -/
def val10 (is : List Nat) : Nat := is.foldl (fun a i => a * 10 + i) 0
theorem val10_app (a : Nat) (is : List Nat) : is.foldl (fun a i => a * 10 + i) a = a * 10 ^ is.length + val10 is := by
  unfold val10
  induction is generalizing a with
  | nil => simp
  | cons i is ih =>
    rw [List.foldl_cons, ih, List.foldl_cons, ih (0 * 10 + i), List.length_cons, Nat.pow_succ]
    rw [Nat.add_mul, Nat.zero_mul, Nat.zero_add, Nat.mul_assoc, Nat.mul_comm 10]
    omega
theorem tenF_val : ∀ (f n : Nat) (acc : List Nat), n < 10 ^ f → 0 < f → val10 (tenF f n acc) = n * 10 ^ acc.length + val10 acc
  | 0, _, _, _, h => absurd h (by decide)
  | f + 1, n, acc, h, _ => by
    unfold tenF
    have c : ∀ m, val10 (m :: acc) = m * 10 ^ acc.length + val10 acc := fun m => by
      show List.foldl _ (0 * 10 + m) acc = _
      rw [val10_app, Nat.zero_mul, Nat.zero_add]
    by_cases hn : n < 10
    · rw [if_pos hn]; exact c n
    · rw [if_neg hn]
      have hf : 0 < f := by
        cases f with
        | zero => exact absurd h (by simpa using hn)
        | succ f => omega
      rw [tenF_val f (n / 10) _ (by rw [Nat.pow_succ] at h; exact Nat.div_lt_of_lt_mul (by rw [Nat.mul_comm]; exact h)) hf, c, List.length_cons, Nat.pow_succ, ← Nat.add_assoc]
      congr 1
      have := Nat.div_add_mod n 10
      calc n / 10 * (10 ^ acc.length * 10) + n % 10 * 10 ^ acc.length = (10 * (n / 10) + n % 10) * 10 ^ acc.length := by
            rw [Nat.add_mul, Nat.mul_comm (10 ^ acc.length) 10, ← Nat.mul_assoc, Nat.mul_comm (n / 10) 10]
        _ = _ := by rw [this]
theorem ten_val {n : Nat} (h : n < 10000000) : val10 (ten n) = n := by
  have := tenF_val 8 n [] (Nat.lt_trans h (by decide)) (by decide)
  simpa [ten, val10] using this
def Hed.txt : Hed → List Nat
  | .op w => opL w
  | .call m => 37 :: m
  | .ring p => 38 :: ten p
  | .num n => ten n
  | .arg n => [10 + n]
def Hed.isLeaf : Hed → Bool
  | .num _ => true
  | .arg _ => true
  | _ => false
mutual
def Te.txt : Te → List Nat
  | .node h ps => if h.isLeaf then h.txt else 39 :: (h.txt ++ (Te.txts ps ++ [40]))
def Te.txts : List Te → List Nat
  | [] => []
  | t :: ts => 36 :: (t.txt ++ Te.txts ts)
end
theorem opL_ok : ∀ w, w < 5 → opS w = T (opL w) ∧ (∀ i ∈ opL w, 10 ≤ i ∧ i < 36) ∧ 2 ≤ (opL w).length ∧ (opL w).length ≤ 5 ∧ (opS w == ("num" : Str)) = false ∧ (opS w == ("arg" : Str)) = false ∧ (opS w == ("call" : Str)) = false ∧ (opS w == ("ring" : Str)) = false ∧ PyData.strOk (opS w) = true := by
  decide +kernel
theorem Hed.lo {h : Hed} {k : Nat} (f : h.fit k) : Lo h.txt := by
  cases h with
  | num n => exact ten_lo n
  | arg n => exact .one (by have := f.1; omega)
  | op w => exact fun i hi => by have := ((opL_ok w f.1).2.1 i hi).2; omega
  | call m => exact .cons (by decide) fun i hi => by have := f.2.1 i hi; omega
  | ring p => exact .cons (by decide) (ten_lo p)
theorem Hed.len {h : Hed} {k : Nat} (f : h.fit k) : h.txt.length ≤ 8 := by
  cases h with
  | num n => have := ten_len7 (n := n) (by have := f.1; omega); show (ten n).length ≤ 8; omega
  | arg n => show 1 ≤ 8; decide
  | op w => have := (opL_ok w f.1).2.2.2.1; show (opL w).length ≤ 8; omega
  | call m => show m.length + 1 ≤ 8; have := f.1; omega
  | ring p => have := ten_len7 (n := p) (by have := f.1; omega); show (ten p).length + 1 ≤ 8; omega
theorem txts_lo : ∀ {ts : List Te}, (∀ t ∈ ts, Lo t.txt) → Lo (Te.txts ts)
  | [], _ => .nil
  | a :: ts, h => by
    unfold Te.txts
    exact .cons (by decide) ((h a (by simp)).app (txts_lo fun t ht => h t (by simp [ht])))
theorem Te.lo : ∀ (n : Nat) (t : Te), t.Ok → t.deep ≤ n → Lo t.txt
  | 0, t, _, h => by have := deep_pos t; omega
  | n + 1, .node hd ps, o, h => by
    have hp : ∀ t ∈ ps, Lo t.txt := fun t ht => Te.lo n t (o.all t ht) (by have := deep_mem ht; unfold Te.deep at h; omega)
    unfold Te.txt
    split
    · exact Hed.lo o.fit
    · exact .cons (by decide) ((Hed.lo o.fit).app ((txts_lo hp).app (.one (by decide))))
theorem txts_len {ts : List Te} (h : ∀ t ∈ ts, t.txt.length + 1 ≤ 11 * t.size) : (Te.txts ts).length ≤ 11 * Te.sizes ts := by
  induction ts with
  | nil => exact Nat.zero_le _
  | cons a ts ih =>
    have h1 := h a (by simp)
    have h2 := ih fun t ht => h t (by simp [ht])
    unfold Te.txts Te.sizes
    rw [List.length_cons, List.length_append]; omega
theorem Te.txt_len : ∀ (n : Nat) (t : Te), t.Ok → t.deep ≤ n → t.txt.length + 1 ≤ 11 * t.size
  | 0, t, _, h => by have := deep_pos t; omega
  | n + 1, .node hd ps, o, h => by
    have hp := txts_len fun t (ht : t ∈ ps) => Te.txt_len n t (o.all t ht) (by have := deep_mem ht; unfold Te.deep at h; omega)
    have hl := Hed.len o.fit
    unfold Te.txt Te.size
    split
    · omega
    · rw [List.length_cons, List.length_append, List.length_append, List.length_singleton]; omega
theorem Te.txt_len8 {t : Te} (o : t.Ok) (h : t.deep ≤ 8) : t.txt.length ≤ 240295 := by
  have := Te.txt_len 8 t o h
  have := size8 o h
  omega
theorem txts_cons (t : Te) (ts : List Te) : Te.txts (t :: ts) = 36 :: (t.txt ++ Te.txts ts) := rfl
theorem txts_join (hd : List Nat) : ∀ ts : List Te, Txt.join (T [36]) ((hd :: ts.map Te.txt).map T) = T (hd ++ Te.txts ts)
  | [] => by rw [TL.join_eq]; unfold Te.txts; rw [List.append_nil]; rfl
  | t :: ts => by
    have ih := txts_join t.txt ts
    rw [TL.join_eq] at ih ⊢
    show T hd ++ T [36] ++ Str.join (T [36]) ((t.txt :: ts.map Te.txt).map T) = _
    rw [ih, T_app, T_app, txts_cons]
    simp

/-! ### comprehensions over like things -/
theorem lc_map {α : Type} {te : M DL.D} {v : Nat} {k : List DL.D → List Slot → Prop} {ρ : List Slot} (hv : ρ.set v .non = ρ) (dat f : α → DL.D) : ∀ (xs : List α) (acc : List DL.D), acc.length + xs.length ≤ 1000000 →
    (∀ x ∈ xs, ∀ kk : DL.D → List Slot → Prop, kk (f x) (ρ.set v (.dat (dat x))) → te (ρ.set v (.dat (dat x))) kk) → k (acc ++ xs.map f) ρ → lcLoop (gVar v) (mPure true) te [v] k (xs.map dat) acc ρ
  | [], acc, _, _, q => by
    rw [List.map_nil, lcLoop_nil]
    show k acc (ρ.set v .non)
    rw [hv]
    simpa using q
  | x :: xs, acc, hl, h, q => by
    rw [List.length_cons] at hl
    have ih := lc_map (te := te) (k := k) hv dat f xs (acc ++ [f x]) (by rw [List.length_append, List.length_singleton]; omega) (fun y hy => h y (by simp [hy])) (by simpa using q)
    rw [List.map_cons, lcLoop_cons]
    show te (ρ.set v (.dat (dat x))) _
    refine h x (by simp) _ ⟨Nat.lt_of_lt_of_le (by omega) (len_line (n := 1000001) (by decide)), ?_⟩
    show lcLoop _ _ _ _ _ _ _ ((ρ.set v (.dat (dat x))).set v .non)
    rw [List.set_set, hv]
    exact ih
theorem bools_map {α : Type} (xs : List α) : boolsOf (xs.map fun _ => .bool true) = some (xs.map fun _ => true) := by
  induction xs with
  | nil => rfl
  | cons x xs ih =>
    show (boolsOf (xs.map fun _ => .bool true)).map _ = _
    rw [ih]; rfl
theorem all_map {α : Type} {xs : List α} {k : DL.D → Prop} (q : k (.bool true)) : allD [.list (xs.map fun _ => .bool true)] k := ⟨_, bools_map xs, by rw [show (xs.map fun _ => true).all id = true by simp]; exact q⟩
theorem bools_of (bs : List Bool) : boolsOf (bs.map PyData.bool) = some bs := by
  induction bs with
  | nil => rfl
  | cons x xs ih =>
    show (boolsOf (xs.map PyData.bool)).map _ = _
    rw [ih]; rfl
theorem lc_map2 {α : Type} {m1 : M DL.D} {v v1 : Nat} {k : List DL.D → List Slot → Prop} {ρ : List Slot} (hv : ρ.set v .non = ρ) (hv1 : ρ.set v1 .non = ρ) (hne : v ≠ v1) (hl1 : v1 < ρ.length) (dat : α → DL.D) (f : α → List DL.D) : ∀ (xs : List α) (acc : List DL.D), acc.length + (xs.flatMap f).length ≤ 1000000 →
    (∀ x ∈ xs, ∀ kk : DL.D → List Slot → Prop, kk (.list (f x)) (ρ.set v (.dat (dat x))) → m1 (ρ.set v (.dat (dat x))) kk) → k (acc ++ xs.flatMap f) ρ →
    lcLoop2 (gVar v) (mPure true) (mItL m1) (gVar v1) (mPure true) (mVar v1) [v, v1] [v1] k (xs.map dat) acc ρ
  | [], acc, _, _, q => by
    show k acc ((ρ.set v1 .non).set v .non)
    rw [hv1, hv]
    simpa using q
  | x :: xs, acc, hl, h, q => by
    rw [List.flatMap_cons, List.length_append] at hl
    have ih := lc_map2 (m1 := m1) (k := k) hv hv1 hne hl1 dat f xs (acc ++ f x) (by rw [List.length_append]; omega) (fun y hy => h y (by simp [hy])) (by simpa [List.flatMap_cons] using q)
    have c1 : (ρ.set v (.dat (dat x))).set v1 .non = ρ.set v (.dat (dat x)) := by rw [List.set_comm _ _ hne, hv1]
    show m1 (ρ.set v (.dat (dat x))) _
    refine h x (by simp) _ ?_
    show lcLoop (gVar v1) (mPure true) (mVar v1) [v1] _ (f x) acc ((ρ.set v (.dat (dat x))).set v1 .non)
    rw [c1]
    have e : f x = (f x).map id := by simp
    rw [e]
    refine lc_map c1 id id (f x) acc (by omega) (fun y hy kk hk => ?_) ?_
    · unfold mVar
      have g : ((ρ.set v (.dat (dat x))).set v1 (.dat (id y)))[v1]? = some (.dat (id y)) := by rw [List.getElem?_set_self (by rw [List.length_set]; exact hl1)]
      rw [g]
      exact hk
    · show lcLoop2 _ _ _ _ _ _ _ _ _ _ _ (((ρ.set v (.dat (dat x))).set v1 .non).set v .non)
      rw [c1, List.set_set, hv]
      simpa using ih

local macro_rules | `(tactic| walk_at "ev") => `(tactic| (
  simp (config := { maxSteps := 100000000 }) only [fnS, fnB, sSeq, sIf, sNext, sNever, sRet, sRetN, sRet0, sRetOwn, sSet, sSetN, sDrop, sAsg, sPar, sFor, sAug, sBreak, sCont, loopK, mTest, mBin, mIxO, withOwn, mPure, mVar, mCall, mCons, mNil, mTup, mLen, mList, mListOf, mIf, mAnd, mOr, mNot, mAndV, mOrV, mNotV, mSl, mSome, mFn, mFnN, mFnB, mFnBn, mLenOwn, mAppend, mPD, mPN, mMeth, mRevS, mIsi, mIsi2, mLc, mItL, mItT, mItS, mRng1, mRng2, mZip, mEnum, wipeS, sStar, mChain, mKw, mItU, mFix, mNinF, mFnV, mLc2, mLenU, mIxU, mAddN, addN_ll,
    gTupD, gConsD, gNilD, gSubD, gVar, setAll, Put.slot, List.length_cons, List.length_nil, Nat.reduceAdd,
    addD_ii, addD_ss, addD_ll, addD_tt, subD_ii, mulD_ii, mulD_si, fdivD_ii, fdivWD_ii, modD_ii, powD_ii, divmodD_ii, absD_i, maxD_ii, minD_ii, lenD_l, lenD_t, lenD_s, intD_b, intD_i, strD_i, tupleD_l, tupleD_t, ltD_ii, leD_ii, gtD_ii, geD_ii,
    isD_nn, isD_sn, isD_in, isD_bn, isD_ln, isD_tn, isD_bb, isnD_nn, isnD_sn, isnD_in, isnD_bn, isnD_ln, isnD_tn, isnD_bb, ixD_li, ixD_ti, ixD_si, eqD_ii, neD_ii, eqD_ss, neD_ss, eqD_bb, neD_bb, at0, at1, at2, ix30, ix32, indexD_s,
    List.map_cons, List.map_nil, List.cons_append, List.nil_append, List.replicate, List.getElem?_cons_zero, List.getElem?_cons_succ, List.set_cons_zero, List.set_cons_succ,
    decide_eq_true_eq, ex_ownT, ex_ownP, ex_own1, Option.some.injEq, true_and, and_true, exists_eq_left', exists_eq_left, exists_eq, bool_ite, bool_ite', if_true, Bool.not_true, Bool.not_false, ite_true, ite_false]))
local macro_rules | `(tactic| walk_at "t") => `(tactic| (dsimp only; rw [bool_ite]))
local macro_rules | `(tactic| walk_at "f") => `(tactic| (dsimp only; rw [bool_ite']))
local macro_rules | `(tactic| walk_at "ev1") => `(tactic| (
  simp (config := { maxSteps := 100000000 }) only [fnS, fnB, sIf, sNext, sNever, sRet, sRetN, sRet0, sRetOwn, sSet, sSetN, sDrop, sAsg, sPar, sFor, sAug, sBreak, sCont, loopK, mTest, mBin, mIxO, withOwn, mPure, mVar, mCall, mCons, mNil, mTup, mLen, mList, mListOf, mIf, mAnd, mOr, mNot, mAndV, mOrV, mNotV, mSl, mSome, mFn, mFnN, mFnB, mFnBn, mLenOwn, mAppend, mPD, mPN, mMeth, mRevS, mIsi, mIsi2, mLc, mItL, mItT, mItS, mRng1, mRng2, mZip, mEnum, wipeS, sStar, mChain, mKw, mItU, mFix, mNinF, mFnV, mLc2, mLenU, mIxU, mAddN, addN_ll,
    gTupD, gConsD, gNilD, gSubD, gVar, setAll, Put.slot, List.length_cons, List.length_nil, Nat.reduceAdd,
    addD_ii, T_addD, addD_ll, addD_tt, subD_ii, mulD_ii, mulD_si, fdivD_ii, fdivWD_ii, modD_ii, powD_ii, divmodD_ii, absD_i, maxD_ii, minD_ii, lenD_l, lenD_t, lenD_s, intD_b, intD_i, strD_i, tupleD_l, tupleD_t, ltD_ii, leD_ii, gtD_ii, geD_ii,
    isD_nn, isD_sn, isD_in, isD_bn, isD_ln, isD_tn, isD_bb, isnD_nn, isnD_sn, isnD_in, isnD_bn, isnD_ln, isnD_tn, isnD_bb, ixD_li, ixD_ti, ixD_si, eqD_ii, neD_ii, eqD_ss, neD_ss, eqD_bb, neD_bb, at0, at1, at2, ix30, ix32, indexD_s,
    List.map_cons, List.map_nil, List.cons_append, List.nil_append, List.replicate, List.getElem?_cons_zero, List.getElem?_cons_succ, List.set_cons_zero, List.set_cons_succ,
    decide_eq_true_eq, List.length_append, szl0, szl1, szl2, szl3, szl4, szl5, szl6, szl7, szl8, szl9, szl10, szl11, szl12, szl13, szl14, szl15, szl16, szt0, szt1, szt2, szt3, szt4, szt5, szt6, szt7, szt8, szt9, szt10, szt11, szt12, ex_ownT, ex_ownP, ex_own1, Option.some.injEq, true_and, and_true, exists_eq_left', exists_eq_left, exists_eq, bool_ite, bool_ite', if_true, Bool.not_true, Bool.not_false, ite_true, ite_false]))
local macro_rules | `(tactic| walk_at "sq") => `(tactic| (rw [sSeq_eq]; walk_at "ev1"))
local macro_rules | `(tactic| walk_at "sz") => `(tactic| (repeat ((with_reducible refine And.intro ?_ ?_); (focus (exact len_line (by first | decide | omega | (simp; omega)))))))
/-! ### terms: what is told of them -/
theorem strok_in {x a b : Str} : (flatD (.str x) = true ∧ List.all [PyData.str a, PyData.str b] flatD = true) := ⟨rfl, rfl⟩
theorem op_word {w : Nat} (h : w < 5) : (opS w == ("num" : Str)) = false ∧ (opS w == ("arg" : Str)) = false ∧ (opS w == ("call" : Str)) = false ∧ (opS w == ("ring" : Str)) = false := by
  have := opL_ok w h
  exact ⟨this.2.2.2.2.1, this.2.2.2.2.2.1, this.2.2.2.2.2.2.1, this.2.2.2.2.2.2.2.1⟩
theorem parts_spec {t : Te} (o : t.Ok) {k : Bool → DL.D → Prop} (q : ∀ b, k b (.list (Te.dats t.ps))) : W_parts_of [t.dat] k := by
  cases t with
  | node h ps =>
    have f := o.fit
    have q : ∀ b, k b (.list (Te.dats ps)) := q
    unfold W_parts_of m_parts_of
    cases h with
    | num n =>
      have : ps = [] := List.eq_nil_of_length_eq_zero f.2
      subst this
      unfold Te.dat Hed.D
      walk_at "ev"
      refine ⟨len_line (by decide), ?_⟩
      rw [inD_two]
      simp only [beq_self_eq_true, Bool.true_or, bool_ite]
      exact ⟨len_line (by decide), q true⟩
    | arg n =>
      have : ps = [] := List.eq_nil_of_length_eq_zero f.2
      subst this
      unfold Te.dat Hed.D
      walk_at "ev"
      refine ⟨len_line (by decide), ?_⟩
      rw [inD_two]
      simp only [beq_self_eq_true, Bool.or_true, bool_ite]
      exact ⟨len_line (by decide), q true⟩
    | op w =>
      obtain ⟨w1, w2, w3, w4⟩ := op_word f.1
      unfold Te.dat Hed.D
      walk_at "ev"
      refine ⟨len_line (by decide), ?_⟩
      rw [inD_two, BEq.comm, w1, BEq.comm, w2]
      simp only [Bool.or_self, bool_ite']
      refine ⟨len_line (by decide), ?_⟩
      rw [inD_two, BEq.comm, w3, BEq.comm, w4]
      simp only [Bool.or_self, bool_ite']
      exact q false
    | call m =>
      unfold Te.dat Hed.D
      walk_at "ev"
      refine ⟨len_line (by decide), ?_⟩
      rw [inD_two, BEq.comm, ne2, BEq.comm, ne3]
      simp only [Bool.or_self, bool_ite']
      refine ⟨len_line (by decide), ?_⟩
      rw [inD_two]
      simp only [beq_self_eq_true, Bool.true_or, bool_ite]
      exact q false
    | ring p =>
      unfold Te.dat Hed.D
      walk_at "ev"
      refine ⟨len_line (by decide), ?_⟩
      rw [inD_two, BEq.comm, ne4, BEq.comm, ne5]
      simp only [Bool.or_self, bool_ite']
      refine ⟨len_line (by decide), ?_⟩
      rw [inD_two]
      simp only [beq_self_eq_true, Bool.or_true, bool_ite]
      exact q false

/-! ### the texts of terms -/
theorem ring_str {p : Nat} (h : p ≤ 11) : (p : Int).natAbs.log2 < 1920 ∧ (toString (p : Int) : Str) = T (ten p) := ⟨log2_small (by omega), ten_str (by omega)⟩
theorem head_spec {h : Hed} {ps : List Te} (o : Te.Ok (.node h ps)) (hl : h.isLeaf = false) {k : Bool → DL.D → Prop} (q : k false (.str (T h.txt))) : W_head_text [Te.dat (.node h ps)] k := by
  have f := o.fit
  unfold W_head_text m_head_text
  simp only [ht_T, at_T]
  cases h with
  | num n => cases hl
  | arg n => cases hl
  | op w =>
    have ow := opL_ok w f.1
    have ok := ow.2.2.2.2.2.2.2.2
    obtain ⟨w1, w2, w3, w4⟩ := op_word f.1
    unfold Te.dat Hed.D
    walk_at "ev"
    refine ⟨⟨ok, w_call⟩, ?_⟩
    rw [w3]
    simp only [bool_ite']
    refine ⟨⟨ok, w_ring⟩, ?_⟩
    rw [w4]
    simp only [bool_ite']
    rw [ow.1]
    exact q
  | call m =>
    unfold Te.dat Hed.D
    walk_at "ev"
    refine ⟨⟨w_call, w_call⟩, ?_⟩
    simp only [beq_self_eq_true, bool_ite, if_true]
    refine ⟨by rw [T_len, T_len, f.1]; exact len_line (by decide), ?_⟩
    rw [T_app]
    exact q
  | ring p =>
    unfold Te.dat Hed.D
    walk_at "ev"
    refine ⟨⟨w_ring, w_call⟩, ?_⟩
    rw [ne6]
    simp only [bool_ite']
    refine ⟨⟨w_ring, w_ring⟩, ?_⟩
    simp only [beq_self_eq_true, bool_ite, if_true]
    obtain ⟨l, e⟩ := ring_str f.1
    have e7 := ten_len7 (n := p) (by have := f.1; omega)
    rw [ten_str (by have := f.1; omega)]
    refine ⟨l, by rw [T_len, T_len]; exact strline (by simp; omega), ?_⟩
    rw [T_app]
    exact q
theorem kids_txt {h : Hed} {ps : List Te} (o : Te.Ok (.node h ps)) (l8 : Te.deep (.node h ps) ≤ 8) : (Te.txts ps).length ≤ 240295 ∧ Lo (Te.txts ps) := by
  have s8 := size8 o l8
  rw [size_node] at s8
  have := txts_len fun t (ht : t ∈ ps) => Te.txt_len 7 t (o.all t ht) (deep_kids l8 t ht)
  exact ⟨by omega, txts_lo fun t ht => Te.lo 7 t (o.all t ht) (deep_kids l8 t ht)⟩
theorem sum_txts (hd : List Nat) : ∀ ps : List Te, (((hd :: ps.map Te.txt).map T).map (·.length)).sum + ps.length = hd.length + (Te.txts ps).length
  | [] => by unfold Te.txts; simp [T_len]
  | p :: ps => by
    have ih := sum_txts hd ps
    simp only [List.map_cons, List.sum_cons, T_len, List.length_cons] at ih ⊢
    rw [txts_cons, List.length_cons, List.length_append]
    omega
theorem join_txts {hd : List Nat} {ps : List Te} {k : DL.D → Prop} (h1 : hd.length ≤ 8) (h2 : (Te.txts ps).length ≤ 240295) (q : k (.str (T (hd ++ Te.txts ps)))) : joinD (T [36]) [.list (.str (T hd) :: ps.map fun t => .str (T t.txt))] k := by
  rw [joinD_l]
  refine ⟨(hd :: ps.map Te.txt).map T, ?_, ?_, by rw [txts_join]; exact q⟩
  · have e : (PyData.str (T hd) :: ps.map fun t => PyData.str (T t.txt)) = ((hd :: ps.map Te.txt).map T).map PyData.str := by rw [List.map_cons, List.map_cons, List.map_map, List.map_map]; rfl
    rw [e]; exact strsOf_map _
  · have := sum_txts hd ps
    rw [T_len]
    simp only [List.length_map, List.length_cons, List.length_nil] at *
    omega
theorem text_spec : ∀ (fuel : Nat) (t : Te) (k : Bool → DL.D → Prop), t.Ok → t.deep ≤ fuel → t.deep ≤ 8 → k false (.str (T t.txt)) → W_term_text fuel [t.dat] k
  | 0, t, _, _, h, _, _ => by have := deep_pos t; omega
  | fuel + 1, .node h ps, k, o, l, l8, q => by
    have ih := fun (t : Te) (ht : t ∈ ps) k => text_spec fuel t k (o.all t ht) (deep_kids l t ht) (by have := deep_kids (n := 7) l8 t ht; omega)
    obtain ⟨kl, klo⟩ := kids_txt o l8
    have f := o.fit
    have f4 := f.four
    have h8 := Hed.len f
    -- a term with a head
    have node : h.isLeaf = false → W_head_text [Te.dat (.node h ps)] fun x d => 1 ≤ sizeLine ∧ W_parts_of [Te.dat (.node h ps)] fun x d_1 => match d_1 with
        | PyData.list ds => lcLoop (gVar 1) (mPure true) (E1_term_text (W_term_text fuel)) [1] (fun ds ρ1 => 1 + ds.length ≤ sizeLine ∧ joinD (T [36]) [PyData.list (d :: ds)] fun r => addD (PyData.str (T [39])) r fun d => addD d (PyData.str (T [40])) fun d => k false d) ds [] [Slot.dat (Te.dat (.node h ps)), Slot.non]
        | x => False := by
      intro hl
      refine head_spec o hl ?_
      refine ⟨len_line (by decide), parts_spec o fun b => ?_⟩
      dsimp only [Te.ps]
      rw [dats_eq]
      refine lc_map (ρ := [.dat (Te.dat (.node h ps)), .non]) rfl Te.dat (fun t => .str (T t.txt)) ps [] (by simp; omega) (fun t ht kk hk => ?_) ?_
      · unfold E1_term_text
        walk_at "ev"
        exact ih t ht _ hk
      · rw [List.nil_append]
        refine ⟨by simp; exact len_line (by omega), ?_⟩
        refine join_txts h8 kl ?_
        rw [addD_ss, T_len, T_len, T_app]
        refine ⟨len_line (by rw [List.length_append]; simp; omega), ?_⟩
        rw [addD_ss, T_len, T_len, T_app]
        refine ⟨len_line (by rw [List.length_append, List.length_append]; simp; omega), ?_⟩
        have e : [39] ++ (h.txt ++ Te.txts ps) ++ [40] = Te.txt (.node h ps) := by
          unfold Te.txt
          rw [hl]
          simp
        rw [e]
        exact q
    unfold W_term_text m_term_text
    simp only [abcd_T, sp_T, op_T, cl_T]
    cases h with
    | num n =>
      unfold Te.dat Hed.D
      walk_at "ev"
      refine ⟨⟨w_num, w_num⟩, ?_⟩
      simp only [beq_self_eq_true, bool_ite, if_true]
      have n7 : n < 10000000 := by have := f.1; omega
      rw [ten_str n7]
      exact ⟨log2_small n7, q⟩
    | arg n =>
      unfold Te.dat Hed.D
      walk_at "ev"
      refine ⟨⟨w_arg, w_num⟩, ?_⟩
      rw [ne1]
      simp only [bool_ite']
      refine ⟨⟨w_arg, w_arg⟩, ?_⟩
      simp only [beq_self_eq_true, bool_ite, if_true]
      refine ⟨by rw [T_len]; exact len_line (by decide), _, T_at (by omega) (by have := f.1; simp; omega), ?_⟩
      rw [T_one]
      have n4 := f.1
      have e : [10, 11, 12, 13].getD ((n : Int).toNat) 0 = 10 + n := by
        have : ∀ n : Nat, n < 4 → [10, 11, 12, 13].getD ((n : Int).toNat) 0 = 10 + n := by decide
        exact this n n4
      rw [e]
      exact q
    | op w =>
      have ow := opL_ok w f.1
      have ok := ow.2.2.2.2.2.2.2.2
      obtain ⟨w1, w2, w3, w4⟩ := op_word f.1
      have N := node rfl
      unfold Te.dat Hed.D
      walk_at "ev"
      refine ⟨⟨ok, w_num⟩, ?_⟩
      rw [w1]
      simp only [bool_ite']
      refine ⟨⟨ok, w_arg⟩, ?_⟩
      rw [w2]
      simp only [bool_ite']
      exact N
    | call m =>
      have N := node rfl
      unfold Te.dat Hed.D
      walk_at "ev"
      refine ⟨⟨w_call, w_num⟩, ?_⟩
      rw [ne2]
      simp only [bool_ite']
      refine ⟨⟨w_call, w_arg⟩, ?_⟩
      rw [ne3]
      simp only [bool_ite']
      exact N
    | ring p =>
      have N := node rfl
      unfold Te.dat Hed.D
      walk_at "ev"
      refine ⟨⟨w_ring, w_num⟩, ?_⟩
      rw [ne4]
      simp only [bool_ite']
      refine ⟨⟨w_ring, w_arg⟩, ?_⟩
      rw [ne5]
      simp only [bool_ite']
      exact N

theorem ps_len {h : Hed} {ps : List Te} (o : Te.Ok (.node h ps)) : ps.length ≤ 4 := o.fit.four
def Hed.own (c : Bool) : Hed → List DL.D
  | .call m => if c then [.str (T m)] else []
  | .ring p => if c then [] else [.int (p : Nat)]
  | _ => []
mutual
def Te.heads (c : Bool) : Te → List DL.D
  | .node h ps => h.own c ++ Te.headss c ps
def Te.headss (c : Bool) : List Te → List DL.D
  | [] => []
  | t :: ts => t.heads c ++ Te.headss c ts
end
theorem headss_eq (c : Bool) : ∀ ts : List Te, Te.headss c ts = ts.flatMap (Te.heads c)
  | [] => rfl
  | t :: ts => by rw [Te.headss, headss_eq c ts, List.flatMap_cons]
theorem own_len (c : Bool) (h : Hed) : (h.own c).length ≤ 1 := by
  cases h <;> unfold Hed.own <;> first | exact Nat.zero_le _ | (cases c <;> simp)
theorem headss_len (c : Bool) : ∀ {ts : List Te}, (∀ t ∈ ts, (t.heads c).length ≤ t.size) → (Te.headss c ts).length ≤ Te.sizes ts
  | [], _ => Nat.zero_le _
  | t :: ts, h => by
    have h1 := h t (by simp)
    have h2 := headss_len c (ts := ts) fun x hx => h x (by simp [hx])
    unfold Te.headss Te.sizes
    rw [List.length_append]; omega
theorem heads_len (c : Bool) : ∀ (n : Nat) (t : Te), t.deep ≤ n → (t.heads c).length ≤ t.size
  | 0, t, h => by have := deep_pos t; omega
  | n + 1, .node hd ps, h => by
    have := headss_len c fun t (ht : t ∈ ps) => heads_len c n t (deep_kids h t ht)
    have := own_len c hd
    unfold Te.heads Te.size
    rw [List.length_append]; omega
theorem heads_own {h : Hed} {ps : List Te} {c : Bool} {w : Str} (hw : w = if c then "call" else "ring") (o : Te.Ok (.node h ps)) {s2 s3 s4 : Slot} {K : SK} (q : K.nx [.dat (Te.dat (.node h ps)), .dat (.str w), .dat (.list (h.own c)), s3, s4]) :
    sSet 2 (mIf (mTest (mBin eqD (mBin ixD (mVar 0) (mPure (.int 0))) (mVar 1))) (mList (mLen (mCons (mBin ixD (mVar 0) (mPure (.int 1))) mNil))) (mList (mLen mNil))) K [.dat (Te.dat (.node h ps)), .dat (.str w), s2, s3, s4] := by
  have ok : PyData.strOk w = true := by subst hw; cases c <;> decide +kernel
  cases h with
  | num n =>
    unfold Te.dat Hed.D
    walk_at "ev"
    refine ⟨⟨w_num, ok⟩, ?_⟩
    rw [show (("num" : Str) == w) = false by subst hw; cases c <;> decide +kernel]
    simp only [bool_ite']
    exact ⟨len_line (by decide), q⟩
  | arg n =>
    unfold Te.dat Hed.D
    walk_at "ev"
    refine ⟨⟨w_arg, ok⟩, ?_⟩
    rw [show (("arg" : Str) == w) = false by subst hw; cases c <;> decide +kernel]
    simp only [bool_ite']
    exact ⟨len_line (by decide), q⟩
  | op w' =>
    have ow := opL_ok w' o.fit.1
    unfold Te.dat Hed.D
    walk_at "ev"
    refine ⟨⟨ow.2.2.2.2.2.2.2.2, ok⟩, ?_⟩
    rw [show (opS w' == w) = false by subst hw; cases c; exact ow.2.2.2.2.2.2.2.1; exact ow.2.2.2.2.2.2.1]
    simp only [bool_ite']
    exact ⟨len_line (by decide), q⟩
  | call m =>
    unfold Te.dat Hed.D
    walk_at "ev"
    refine ⟨⟨w_call, ok⟩, ?_⟩
    cases c with
    | true =>
      subst hw
      simp only [beq_self_eq_true, bool_ite, if_true]
      exact ⟨len_line (by decide), q⟩
    | false =>
      rw [show (("call" : Str) == w) = false by subst hw; decide +kernel]
      simp only [bool_ite']
      exact ⟨len_line (by decide), q⟩
  | ring p =>
    unfold Te.dat Hed.D
    walk_at "ev"
    refine ⟨⟨w_ring, ok⟩, ?_⟩
    cases c with
    | true =>
      rw [show (("ring" : Str) == w) = false by subst hw; decide +kernel]
      simp only [bool_ite']
      exact ⟨len_line (by decide), q⟩
    | false =>
      subst hw
      simp only [beq_self_eq_true, bool_ite, Bool.false_eq_true, if_false]
      exact ⟨len_line (by decide), q⟩
theorem heads_spec : ∀ (fuel : Nat) (c : Bool) (w : Str) (t : Te) (k : Bool → DL.D → Prop), w = (if c then "call" else "ring") → t.Ok → t.deep ≤ fuel → t.deep ≤ 8 → k hB (.list (t.heads c)) → W_heads_of fuel [t.dat, .str w] k
  | 0, c, w, t, _, _, _, h, _, _ => by have := deep_pos t; omega
  | fuel + 1, c, w, .node h ps, k, hw, o, l, l8, q => by
    have ih := fun (t : Te) (ht : t ∈ ps) k => heads_spec fuel c w t k hw (o.all t ht) (deep_kids l t ht) (by have := deep_kids (n := 7) l8 t ht; omega)
    have hl := headss_len c fun t (ht : t ∈ ps) => heads_len c 7 t (deep_kids l8 t ht)
    have s8 := size8 o l8
    rw [size_node] at s8
    have l1 := own_len c h
    unfold W_heads_of m_heads_of
    show sSet 2 _ _ [.dat (Te.dat (.node h ps)), .dat (.str w), .non, .non, .non]
    refine heads_own hw o ?_
    walk_at "ev"
    refine parts_spec o fun b => ?_
    dsimp only [Te.ps]
    rw [dats_eq]
    refine lc_map2 (ρ := [.dat (Te.dat (.node h ps)), .dat (.str w), .dat (.list (h.own c)), .non, .non]) rfl rfl (by decide) (by simp) Te.dat (Te.heads c) ps [] (by rw [← headss_eq]; simp; omega) (fun t ht kk hk => ?_) ?_
    · walk_at "ev"
      first
      | exact ih t ht _ hk
      | exact ih t ht _ ⟨rfl, _, rfl, hk⟩
    · rw [List.nil_append, ← headss_eq]
      exact ⟨len_line (by omega), q⟩
theorem places_spec {t : Te} {k : Bool → DL.D → Prop} (o : t.Ok) (l8 : t.deep ≤ 8) (q : k hB (.list (t.heads false))) : W_places_of [t.dat] k := by
  unfold W_places_of m_places_of
  walk_at "ev"
  first
  | exact heads_spec 9 false _ t _ rfl o (by omega) l8 q
  | exact heads_spec 9 false _ t _ rfl o (by omega) l8 ⟨rfl, _, rfl, q⟩

/-! ### terms with all places 0 -/
def Hed.bare : Hed → Hed
  | .ring _ => .ring 0
  | h => h
mutual
def Te.bare : Te → Te
  | .node h ps => .node h.bare (Te.bares ps)
def Te.bares : List Te → List Te
  | [] => []
  | t :: ts => t.bare :: Te.bares ts
end
theorem bares_eq : ∀ ts : List Te, Te.bares ts = ts.map Te.bare
  | [] => rfl
  | t :: ts => by rw [Te.bares, bares_eq ts]; rfl
theorem bare_fit {h : Hed} {n : Nat} (f : h.fit n) : h.bare.fit n := by
  cases h with
  | ring p => exact ⟨Nat.zero_le _, f.2⟩
  | _ => exact f
mutual
theorem bare_ok : ∀ (t : Te), t.Ok → t.bare.Ok
  | .node h ps, o => by
    unfold Te.bare
    refine .mk ?_ fun p hp => ?_
    · rw [bares_eq, List.length_map]; exact bare_fit o.fit
    · exact bares_ok ps (fun p hp => o.all p hp) p hp
theorem bares_ok : ∀ (ts : List Te), (∀ t ∈ ts, t.Ok) → ∀ p ∈ Te.bares ts, p.Ok
  | [], _, p, hp => by cases hp
  | t :: ts, h, p, hp => by
    rw [Te.bares] at hp
    rcases List.mem_cons.mp hp with rfl | hp
    · exact bare_ok t (h t (by simp))
    · exact bares_ok ts (fun t ht => h t (by simp [ht])) p hp
end
mutual
theorem bare_deep : ∀ (t : Te), t.bare.deep = t.deep
  | .node h ps => by unfold Te.bare Te.deep; rw [bares_deep ps]
theorem bares_deep : ∀ (ts : List Te), Te.deeps (Te.bares ts) = Te.deeps ts
  | [] => rfl
  | t :: ts => by rw [Te.bares, Te.deeps, Te.deeps, bare_deep t, bares_deep ts]
end
theorem mem_leaf {x : Str} {k : DL.D → Prop} : inD (.str x) (.tuple (tup_LEAF_WORDS.map PyData.str)) k = k (.bool (("num" : Str) == x || ("arg" : Str) == x)) := inD_two
theorem inD_three {x a b c : Str} {k : DL.D → Prop} : inD (.str x) (.tuple [.str a, .str b, .str c]) k = k (.bool (a == x || (b == x || c == x))) := by
  show ((flatD (.str x) = true ∧ _) ∧ k (.bool (memF (.str x) [.str a, .str b, .str c]))) = _
  have e : memF (.str x) [.str a, .str b, .str c] = (a == x || (b == x || c == x)) := by
    show (eqF (.str a) (.str x) || (eqF (.str b) (.str x) || (eqF (.str c) (.str x) || false))) = _
    rw [Bool.or_false]; rfl
  rw [e]
  exact propext ⟨fun q => q.2, fun q => ⟨⟨rfl, rfl⟩, q⟩⟩
theorem mem_head {x : Str} {k : DL.D → Prop} : inD (.str x) (.tuple (tup_HEAD_WORDS.map PyData.str)) k = k (.bool (("call" : Str) == x || (("ring" : Str) == x || ("name" : Str) == x))) := inD_three
theorem op_name {w : Nat} (h : w < 5) : (opS w == ("name" : Str)) = false := by
  have : ∀ w, w < 5 → (opS w == ("name" : Str)) = false := by decide
  exact this w h
theorem sl_two {a b c : DL.D} {k : DL.D → Prop} : slD (.tuple [a, b, c]) none (some 2) k = k (.tuple [a, b]) := rfl
theorem wp_call {m : List Nat} {k : Bool → DL.D → Prop} (q : k false (.tuple [.str "call", .str (T m)])) : W_without_places [.tuple [.str "call", .str (T m)]] k := by
  unfold W_without_places m_without_places
  walk_at "ev"
  refine ⟨⟨by decide +kernel, by decide +kernel⟩, ?_⟩
  rw [show (("call" : Str) == "ring") = false from by decide]
  simp only [bool_ite']
  exact q
theorem wp_ring {p : Int} {k : Bool → DL.D → Prop} (q : k false (.tuple [.str "ring", .int 0])) : W_without_places [.tuple [.str "ring", .int p]] k := by
  unfold W_without_places m_without_places
  walk_at "ev"
  refine ⟨⟨by decide +kernel, by decide +kernel⟩, ?_⟩
  simp only [beq_self_eq_true, bool_ite, if_true]
  exact ⟨len_line (by decide), q⟩
theorem look_wp : txLook tabL_led_term "without_places" = some (1, W_without_places) := by
  unfold tabL_led_term; simp only [txLook]; rw [if_pos trivial]
theorem led_spec : ∀ (fuel : Nat) (t : Te) (k : Bool → DL.D → Prop), t.Ok → t.deep ≤ fuel → k false t.bare.dat → W_led_term fuel [t.dat, .dict (fnD "without_places")] k
  | 0, t, _, _, h, _ => by have := deep_pos t; omega
  | fuel + 1, .node h ps, k, o, l, q => by
    have ih := fun (t : Te) (ht : t ∈ ps) k => led_spec fuel t k (o.all t ht) (deep_kids l t ht)
    have f := o.fit
    have f4 := f.four
    unfold W_led_term m_led_term
    unfold Te.bare at q
    cases h with
    | num n =>
      have : ps = [] := List.eq_nil_of_length_eq_zero f.2
      subst this
      unfold Te.dat Hed.D
      walk_at "ev"
      rw [mem_leaf]
      simp only [beq_self_eq_true, Bool.true_or, bool_ite]
      exact q
    | arg n =>
      have : ps = [] := List.eq_nil_of_length_eq_zero f.2
      subst this
      unfold Te.dat Hed.D
      walk_at "ev"
      rw [mem_leaf]
      simp only [beq_self_eq_true, Bool.or_true, bool_ite]
      exact q
    | op w =>
      obtain ⟨w1, w2, w3, w4⟩ := op_word f.1
      have w5 := op_name f.1
      unfold Te.dat Hed.D
      walk_at "ev"
      rw [mem_leaf, BEq.comm, w1, BEq.comm, w2]
      simp only [Bool.or_self, bool_ite']
      rw [mem_head, BEq.comm, w3, BEq.comm, w4, BEq.comm, w5]
      simp only [Bool.or_self, bool_ite']
      refine ⟨len_line (by decide), ?_⟩
      rw [dats_eq]
      refine lc_map (ρ := [.dat (.tuple (.str (opS w) :: ps.map Te.dat)), .dat (.dict (fnD "without_places")), .dat (.str (opS w)), .dat (.list (ps.map Te.dat)), .non]) rfl Te.dat (fun t => t.bare.dat) ps [] (by simp; omega) (fun t ht kk hk => ?_) ?_
      · unfold E2_led_term
        walk_at "ev"
        exact ih t ht _ hk
      · refine ⟨⟨by simp, by simp; exact len_line (by omega)⟩, ?_⟩
        unfold Te.dat Hed.bare Hed.D at q
        rw [dats_eq, bares_eq, List.map_map] at q
        exact q
    | call m =>
      unfold Te.dat Hed.D
      walk_at "ev"
      rw [mem_leaf, BEq.comm, ne2, BEq.comm, ne3]
      simp only [Bool.or_self, bool_ite']
      rw [mem_head]
      simp only [beq_self_eq_true, Bool.true_or, bool_ite]
      refine ⟨_, _, _, rfl, look_wp, ?_⟩
      rw [sl_two]
      refine ⟨rfl, wp_call ?_⟩
      rw [dats_eq]
      refine lc_map (ρ := [.dat (.tuple [.str "call", .str (T m), .tuple (ps.map Te.dat)]), .dat (.dict (fnD "without_places")), .dat (.str "call"), .own false [.str (T m), .tuple (ps.map Te.dat)], .non]) rfl Te.dat (fun t => t.bare.dat) ps [] (by simp; omega) (fun t ht kk hk => ?_) ?_
      · unfold E1_led_term
        walk_at "ev"
        exact ih t ht _ hk
      · refine ⟨len_line (by decide), ?_⟩
        rw [addD_tt]
        refine ⟨⟨by simp, by simp; exact len_line (by omega)⟩, ?_⟩
        unfold Te.dat Hed.bare Hed.D at q
        rw [dats_eq, bares_eq, List.map_map] at q
        exact q
    | ring p =>
      unfold Te.dat Hed.D
      walk_at "ev"
      rw [mem_leaf, BEq.comm, ne4, BEq.comm, ne5]
      simp only [Bool.or_self, bool_ite']
      rw [mem_head]
      simp only [beq_self_eq_true, Bool.true_or, Bool.or_true, bool_ite]
      refine ⟨_, _, _, rfl, look_wp, ?_⟩
      rw [sl_two]
      refine ⟨rfl, wp_ring ?_⟩
      rw [dats_eq]
      refine lc_map (ρ := [.dat (.tuple [.str "ring", .int (p : Nat), .tuple (ps.map Te.dat)]), .dat (.dict (fnD "without_places")), .dat (.str "ring"), .own false [.int (p : Nat), .tuple (ps.map Te.dat)], .non]) rfl Te.dat (fun t => t.bare.dat) ps [] (by simp; omega) (fun t ht kk hk => ?_) ?_
      · unfold E1_led_term
        walk_at "ev"
        exact ih t ht _ hk
      · refine ⟨len_line (by decide), ?_⟩
        rw [addD_tt]
        refine ⟨⟨by simp, by simp; exact len_line (by omega)⟩, ?_⟩
        unfold Te.dat Hed.bare Hed.D at q
        rw [dats_eq, bares_eq, List.map_map] at q
        exact q

/-! ### saying -/
theorem numbers_spec {ds : List DL.D} {k : Bool → DL.D → Prop} (b : Bool) (h : ∀ d ∈ ds, okKey b d) (hz : ds.length ≤ 1000000) (q : ∀ ns : List Nat, NumOf ds ns → k true (.list (ns.map natD))) : W_numbers_of [.list ds] k := by
  obtain ⟨ns, hn⟩ := numOf_ex ds
  refine ⟨?_, ?_, b, ds, ns.map natD, rfl, h, len_line (by omega), hn.nums, fun ρ' => q ns hn⟩
  · show 1 < 3; decide
  · show 2 < 3; decide
mutual
def Te.places : Te → List Nat
  | .node (.ring p) ps => p :: Te.placess ps
  | .node _ ps => Te.placess ps
def Te.placess : List Te → List Nat
  | [] => []
  | t :: ts => t.places ++ Te.placess ts
end
mutual
theorem heads_places : ∀ t : Te, t.heads false = t.places.map natD
  | .node h ps => by
    have ih := headss_places ps
    unfold Te.heads
    cases h <;> (unfold Te.places; rw [ih]; rfl)
theorem headss_places : ∀ ts : List Te, Te.headss false ts = (Te.placess ts).map natD
  | [] => rfl
  | t :: ts => by rw [Te.headss, Te.placess, heads_places t, headss_places ts, List.map_append]
end
abbrev Bdy := Nat × Te
def bD (b : Bdy) : DL.D := .tuple [.int (b.1 : Nat), b.2.dat]
def bsD (bs : List Bdy) : DL.D := .list (bs.map bD)
def btxt (b : Bdy) : Str := Str.empty ++ (toString ((b.1 : Nat) : Int) : Str) ++ (":" : Str) ++ T b.2.bare.txt
structure Fits (bs : List Bdy) : Prop where
  len : bs.length ≤ 100
  ok : ∀ b ∈ bs, b.1 ≤ 4 ∧ b.2.Ok ∧ b.2.deep ≤ 8 ∧ ∀ p ∈ b.2.places, p < bs.length
def txOf (bs : List Bdy) (i : Nat) : Option Str := bs[i]?.map btxt
def rowOf (bs : List Bdy) (i : Nat) : List Nat := match bs[i]? with
  | some b => b.2.places
  | none => []
/-- the numbers behind t rounds -/
structure Said (bs : List Bdy) (t : Nat) (ns : List Nat) : Prop where
  len : ns.length = bs.length
  rise : Rise 0 ns
  eq_ : ∀ (i j a b : Nat), ns[i]? = some a → ns[j]? = some b → (a = b ↔ Same (txOf bs) (rowOf bs) t i j)
theorem said_zero {bs : List Bdy} {ns : List Nat} (h : NumOf (bs.map fun b => .str (btxt b)) ns) : Said bs 0 ns := by
  refine ⟨by rw [h.len, List.length_map], h.rise, fun i j a b ea eb => ?_⟩
  have li : i < bs.length := by have := (List.getElem?_eq_some_iff.mp ea).1; rw [h.len, List.length_map] at this; exact this
  have lj : j < bs.length := by have := (List.getElem?_eq_some_iff.mp eb).1; rw [h.len, List.length_map] at this; exact this
  rw [h.eq_ i j a b _ _ ea eb (by rw [List.getElem?_map, List.getElem?_eq_getElem li]; rfl) (by rw [List.getElem?_map, List.getElem?_eq_getElem lj]; rfl)]
  show _ ↔ txOf bs i = txOf bs j
  unfold txOf
  rw [List.getElem?_eq_getElem li, List.getElem?_eq_getElem lj]
  simp
/-- a row's numbers -/
def numRow (ns : List Nat) (row : List Nat) : List DL.D := row.map fun c => natD (ns.getD c 0)
def keyOf (ns : List Nat) (p : Nat × Bdy) : DL.D := .tuple [natD p.1, .tuple (numRow ns p.2.2.places)]
theorem said_succ {bs : List Bdy} {t : Nat} {ns ms : List Nat} (fit : Fits bs) (s : Said bs t ns) (h : NumOf ((ns.zip bs).map (keyOf ns)) ms) : Said bs (t + 1) ms := by
  have lm : ms.length = bs.length := by rw [h.len, List.length_map, List.length_zip, s.len, Nat.min_self]
  refine ⟨lm, h.rise, fun i j a b ea eb => ?_⟩
  have li : i < bs.length := by have := (List.getElem?_eq_some_iff.mp ea).1; omega
  have lj : j < bs.length := by have := (List.getElem?_eq_some_iff.mp eb).1; omega
  have li' : i < ns.length := by rw [s.len]; exact li
  have lj' : j < ns.length := by rw [s.len]; exact lj
  have ki : ((ns.zip bs).map (keyOf ns))[i]? = some (keyOf ns (ns[i], bs[i])) := by
    rw [List.getElem?_map, List.getElem?_zip_eq_some (z := (ns[i], bs[i])) |>.mpr ⟨List.getElem?_eq_getElem li', List.getElem?_eq_getElem li⟩]; rfl
  have kj : ((ns.zip bs).map (keyOf ns))[j]? = some (keyOf ns (ns[j], bs[j])) := by
    rw [List.getElem?_map, List.getElem?_zip_eq_some (z := (ns[j], bs[j])) |>.mpr ⟨List.getElem?_eq_getElem lj', List.getElem?_eq_getElem lj⟩]; rfl
  rw [h.eq_ i j a b _ _ ea eb ki kj]
  have ri : rowOf bs i = bs[i].2.places := by unfold rowOf; rw [List.getElem?_eq_getElem li]
  have rj : rowOf bs j = bs[j].2.places := by unfold rowOf; rw [List.getElem?_eq_getElem lj]
  have lt : ∀ (b : Bdy), b ∈ bs → ∀ p ∈ b.2.places, p < ns.length := fun b hb p hp => by rw [s.len]; exact (fit.ok b hb).2.2.2 p hp
  have eq_ : ∀ (c d : Nat), c < ns.length → d < ns.length → (natD (ns.getD c 0) = natD (ns.getD d 0) ↔ Same (txOf bs) (rowOf bs) t c d) := fun c d hc hd => by
    rw [← s.eq_ c d ns[c] ns[d] (List.getElem?_eq_getElem hc) (List.getElem?_eq_getElem hd)]
    rw [show ns.getD c 0 = ns[c] by rw [List.getD_eq_getElem?_getD, List.getElem?_eq_getElem hc]; rfl, show ns.getD d 0 = ns[d] by rw [List.getD_eq_getElem?_getD, List.getElem?_eq_getElem hd]; rfl]
    exact ⟨natD_inj, fun e => by rw [e]⟩
  show keyOf ns (ns[i], bs[i]) = keyOf ns (ns[j], bs[j]) ↔ Same (txOf bs) (rowOf bs) t i j ∧ (rowOf bs i).length = (rowOf bs j).length ∧ _
  rw [ri, rj, ← s.eq_ i j ns[i] ns[j] (List.getElem?_eq_getElem li') (List.getElem?_eq_getElem lj')]
  have rows : numRow ns bs[i].2.places = numRow ns bs[j].2.places ↔ bs[i].2.places.length = bs[j].2.places.length ∧ ∀ (k a b : Nat), bs[i].2.places[k]? = some a → bs[j].2.places[k]? = some b → Same (txOf bs) (rowOf bs) t a b := by
    constructor
    · intro e
      have el := congrArg List.length e
      unfold numRow at el
      rw [List.length_map, List.length_map] at el
      refine ⟨el, fun k a b ha hb => ?_⟩
      rw [← eq_ a b (lt _ (List.getElem_mem li) a (List.mem_of_getElem? ha)) (lt _ (List.getElem_mem lj) b (List.mem_of_getElem? hb))]
      have := congrArg (fun l : List DL.D => l[k]?) e
      unfold numRow at this
      simp only [List.getElem?_map, ha, hb] at this
      exact Option.some.inj this
    · rintro ⟨el, f⟩
      unfold numRow
      refine List.ext_getElem? fun k => ?_
      rw [List.getElem?_map, List.getElem?_map]
      cases ca : bs[i].2.places[k]? with
      | none =>
        have : bs[j].2.places[k]? = none := List.getElem?_eq_none_iff.mpr (by rw [← el]; exact List.getElem?_eq_none_iff.mp ca)
        rw [this]
      | some a =>
        have hk : k < bs[j].2.places.length := by rw [← el]; exact (List.getElem?_eq_some_iff.mp ca).1
        rw [List.getElem?_eq_getElem hk]
        have := (eq_ a _ (lt _ (List.getElem_mem li) a (List.mem_of_getElem? ca)) (lt _ (List.getElem_mem lj) _ (List.getElem_mem hk))).mpr (f k a _ ca (List.getElem?_eq_getElem hk))
        simp only [Option.map_some]
        rw [this]
  rw [← rows]
  unfold keyOf
  constructor
  · intro e
    simp only [PyData.tuple.injEq, List.cons.injEq, and_true] at e
    exact ⟨natD_inj e.1, e.2⟩
  · rintro ⟨e1, e2⟩
    rw [e1]
    dsimp only
    rw [e2]

/-! ### clean data -/
theorem lc_mapG {α : Type} {g : GMn} {te : M DL.D} {vs : List Nat} {k : List DL.D → List Slot → Prop} {ρ : List Slot} (dat f : α → DL.D) (st : α → List Slot) (hg : ∀ x (kk : List Slot → Prop), kk (st x) → g (dat x) ρ kk) (hw : ∀ x, wipeS (st x) vs = ρ) (hρ : wipeS ρ vs = ρ) :
    ∀ (xs : List α) (acc : List DL.D), acc.length + xs.length ≤ 1000000 → (∀ x ∈ xs, ∀ kk : DL.D → List Slot → Prop, kk (f x) (st x) → te (st x) kk) → k (acc ++ xs.map f) ρ → lcLoop g (mPure true) te vs k (xs.map dat) acc ρ
  | [], acc, _, _, q => by
    rw [List.map_nil, lcLoop_nil, hρ]
    simpa using q
  | x :: xs, acc, hl, h, q => by
    rw [List.length_cons] at hl
    have ih := lc_mapG (te := te) (k := k) dat f st hg hw hρ xs (acc ++ [f x]) (by rw [List.length_append, List.length_singleton]; omega) (fun y hy => h y (by simp [hy])) (by simpa using q)
    rw [List.map_cons, lcLoop_cons]
    refine hg x _ ?_
    show te (st x) _
    refine h x (by simp) _ ⟨Nat.lt_of_lt_of_le (by omega) (len_line (n := 1000001) (by decide)), ?_⟩
    rw [hw]
    exact ih
def Cl : Nat → DL.D → Prop
  | 0, _ => False
  | _ + 1, .none => True
  | _ + 1, .bool _ => True
  | _ + 1, .int _ => True
  | _ + 1, .str x => PyData.strOk x = true
  | n + 1, .list ds => ds.length ≤ 1000000 ∧ ∀ d ∈ ds, Cl n d
  | n + 1, .tuple ds => ds.length ≤ 1000000 ∧ ∀ d ∈ ds, Cl n d
  | _ + 1, .dict _ => False
theorem cl_up : ∀ (n : Nat) (d : DL.D), Cl n d → Cl (n + 1) d
  | 0, _, h => h.elim
  | n + 1, d, h => by
    cases d with
    | none => trivial
    | bool b => trivial
    | int i => trivial
    | str x => exact h
    | list ds => exact ⟨h.1, fun d hd => cl_up n d (h.2 d hd)⟩
    | tuple ds => exact ⟨h.1, fun d hd => cl_up n d (h.2 d hd)⟩
    | dict l => exact h.elim
theorem zip_self (ds : List DL.D) : zipD ds ds = ds.map fun d => .tuple [d, d] := by
  unfold zipD
  induction ds with
  | nil => rfl
  | cons d ds ih => rw [List.zip_cons_cons, List.map_cons, ih]; rfl
theorem bools_true {α : Type} (xs : List α) : boolsOf (xs.map fun _ => .bool true) = some (xs.map fun _ => true) := by
  induction xs with
  | nil => rfl
  | cons x xs ih =>
    show (boolsOf (xs.map fun _ => .bool true)).map _ = _
    rw [ih]; rfl
theorem all_true {α : Type} {xs : List α} {k : DL.D → Prop} (q : k (.bool true)) : allD [.list (xs.map fun _ => .bool true)] k := ⟨_, bools_true xs, by rw [show (xs.map fun _ => true).all id = true by simp]; exact q⟩

theorem says1 {b : Bdy} (o : b.1 ≤ 4 ∧ b.2.Ok ∧ b.2.deep ≤ 8) {ρ : List Slot} {kk : DL.D → List Slot → Prop} (e4 : ρ[4]? = some (.dat (.int (b.1 : Nat)))) (e5 : ρ[5]? = some (.dat b.2.dat)) (q : kk (.str (btxt b)) ρ) : E1_saying ρ kk := by
  obtain ⟨o1, o2, o3⟩ := o
  unfold E1_saying
  simp only [mJoinF, mFmt, mPure, mVar, mFn, mCons, mNil, e4, e5, List.length_cons, List.length_nil, Nat.reduceAdd, true_and]
  refine ⟨log2_small (by omega), ?_⟩
  have n1 : ∀ n, n < 5 → (Str.empty ++ Str.ofString (toString ((n : Nat) : Int))).length ≤ 10 ∧ (Str.empty ++ Str.ofString (toString ((n : Nat) : Int)) ++ Str.ofString ":").length ≤ 10 := by decide
  obtain ⟨l1, l2⟩ := n1 b.1 (by omega)
  refine ⟨len_line (by omega), len_line (by omega), led_spec 9 b.2 _ o2 (by omega) (text_spec 9 _ _ (bare_ok _ o2) (by rw [bare_deep]; omega) (by rw [bare_deep]; exact o3) ?_)⟩
  have tl := Te.txt_len8 (bare_ok _ o2) (by rw [bare_deep]; exact o3)
  refine ⟨by rw [T_len]; exact len_line (by omega), ?_, q⟩
  show (Str.empty ++ Str.ofString (toString ((b.1 : Nat) : Int)) ++ Str.ofString ":" ++ T b.2.bare.txt).cps.size ≤ sizeLine
  have l3 : (Str.empty ++ Str.ofString (toString ((b.1 : Nat) : Int)) ++ Str.ofString ":").cps.size ≤ 10 := l2
  have l4 : (T b.2.bare.txt).cps.size ≤ 240295 := by have := T_len b.2.bare.txt; unfold Str.length at this; omega
  have e : (Str.empty ++ Str.ofString (toString ((b.1 : Nat) : Int)) ++ Str.ofString ":" ++ T b.2.bare.txt).cps = (Str.empty ++ Str.ofString (toString ((b.1 : Nat) : Int)) ++ Str.ofString ":").cps ++ (T b.2.bare.txt).cps := rfl
  rw [e, Array.size_append]
  exact len_line (by omega)
/-- a round -/
theorem says2 {bs : List Bdy} {ns : List Nat} (fit : Fits bs) (hl : ns.length = bs.length) {p : Nat × Bdy} (hp : p ∈ ns.zip bs) {ρ : List Slot} {kk : DL.D → List Slot → Prop} (e1 : ρ[1]? = some (.dat (.list (ns.map natD)))) (e6 : ρ[6]? = some (.dat (natD p.1))) (e7 : ρ[7]? = some (.dat (.list (p.2.2.places.map natD)))) (e8 : ρ.set 8 .non = ρ) (h8 : 8 < ρ.length) (q : kk (keyOf ns p) ρ) : E4_saying ρ kk := by
  have hb : p.2 ∈ bs := (List.of_mem_zip hp).2
  obtain ⟨o1, o2, o3, o4⟩ := fit.ok _ hb
  unfold E4_saying
  simp only [mTup, mPure, mVar, mCall, mCons, mNil, mList, mLc, mItL, e6, e7, wipeS, e8]
  refine lc_map (ρ := ρ) e8 natD (fun c => natD (ns.getD c 0)) p.2.2.places [] ?_ (fun c hc kk h => ?_) ?_
  · have h1 := heads_len false 8 p.2.2 o3
    have h2 := size8 o2 o3
    rw [heads_places, List.length_map] at h1
    simp; omega
  · unfold E3_saying
    simp only [mBin, mVar, List.getElem?_set_ne (show 8 ≠ 1 by decide), e1, List.getElem?_set_self h8]
    have hc' : c < ns.length := by rw [hl]; exact o4 c hc
    refine ⟨_, atI_of (Int.natCast_nonneg c) ?_, h⟩
    rw [Int.toNat_natCast, List.getElem?_map, List.getElem?_eq_getElem hc']
    rw [List.getD_eq_getElem?_getD, List.getElem?_eq_getElem hc']
    rfl
  · rw [tupleD_l]
    exact ⟨len_line (n := 2) (by decide), q⟩
theorem nks_nat : ∀ l : List Nat, nks (l.map natD) = some (l.map fun n => NestedKey.num (n : Nat))
  | [] => rfl
  | n :: l => by
    rw [List.map_cons, nks, nks_nat l]; rfl
theorem depth_num : ∀ l : List Nat, NestedKey.depthAll (l.map fun n => NestedKey.num (n : Nat)) = 0
  | [] => rfl
  | n :: l => by
    rw [List.map_cons, NestedKey.depthAll, depth_num l]; rfl
theorem lay_nat : ∀ l : List Nat, PyData.canLayAll0 (l.map natD) = true
  | [] => rfl
  | n :: l => by
    rw [List.map_cons]
    show (PyData.canLay0 (natD n) && PyData.canLayAll0 (l.map natD)) = true
    rw [lay_nat l]; rfl
theorem key_ok {ns : List Nat} {p : Nat × Bdy} : okKey false (keyOf ns p) := by
  have e : numRow ns p.2.2.places = (p.2.2.places.map fun c => ns.getD c 0).map natD := by unfold numRow; rw [List.map_map]; rfl
  refine ⟨_, .tup [.num (p.1 : Nat), .tup ((p.2.2.places.map fun c => ns.getD c 0).map fun n => NestedKey.num (n : Nat))], rfl, ?_, ?_, ?_⟩
  · unfold keyOf
    rw [e]
    have := nks_nat (p.2.2.places.map fun c => ns.getD c 0)
    simp only [nk, nks, natD, this]
    rfl
  · simp only [NestedKey.depth, NestedKey.depthAll, depth_num]
    decide
  · unfold keyOf
    rw [e]
    have := lay_nat (p.2.2.places.map fun c => ns.getD c 0)
    show (PyData.canLay0 (natD p.1) && (PyData.canLay0 (.tuple ((p.2.2.places.map fun c => ns.getD c 0).map natD)) && true)) = true
    show (true && (PyData.canLayAll0 ((p.2.2.places.map fun c => ns.getD c 0).map natD) && true)) = true
    rw [this]; rfl
def rowsD (bs : List Bdy) : List DL.D := bs.map fun b => .list (b.2.places.map natD)
theorem zip_rows {bs : List Bdy} {ns : List Nat} : zipD (ns.map natD) (rowsD bs) = (ns.zip bs).map fun p => .tuple [natD p.1, .list (p.2.2.places.map natD)] := by
  unfold zipD rowsD
  rw [List.zip_map, List.map_map]; rfl
theorem says_loop {bs : List Bdy} {K : SK} (fit : Fits bs) : ∀ (ds : List DL.D) (t : Nat) (ns : List Nat) (s2 s3 : Slot), Said bs t ns → (s2 = .own false (rowsD bs) ∨ s2 = .dat (.list (rowsD bs))) →
    (∀ ms s2 s3, Said bs (t + ds.length) ms → K.nx [.dat (.list (bs.map bD)), .dat (.list (ms.map natD)), s2, s3, .non, .non, .non, .non, .non]) →
    forLoop G1_saying L1_saying K ds [.dat (.list (bs.map bD)), .dat (.list (ns.map natD)), s2, s3, .non, .non, .non, .non, .non]
  | [], t, ns, s2, s3, s, _, q => q ns s2 s3 s
  | d :: ds, t, ns, s2, s3, s, h2, q => by
    rw [forLoop_cons]
    have key : ∀ s2', W_numbers_of [.list ((ns.zip bs).map (keyOf ns))] fun _ d' => forLoop G1_saying L1_saying K ds [.dat (.list (bs.map bD)), .dat d', .dat (.list (rowsD bs)), s2', .non, .non, .non, .non, .non] := fun s2' => by
      refine numbers_spec false (fun d hd => ?_) ?_ fun ms hm => ?_
      · obtain ⟨p, _, rfl⟩ := List.mem_map.mp hd
        exact key_ok
      · have := fit.len
        rw [List.length_map, List.length_zip]; omega
      · exact says_loop fit ds (t + 1) ms _ _ (said_succ fit s hm) (.inr rfl) fun ms s2 s3 h => q ms s2 s3 (by rw [List.length_cons, show t + (ds.length + 1) = t + 1 + ds.length by omega]; exact h)
    have comp : ∀ (kk : List DL.D → List Slot → Prop), kk ((ns.zip bs).map (keyOf ns)) [.dat (.list (bs.map bD)), .dat (.list (ns.map natD)), .dat (.list (rowsD bs)), .dat d, .non, .non, .non, .non, .non] →
        lcLoop (gTupD 2 (gConsD (gVar 6) (gConsD (gVar 7) gNilD))) (mPure true) E4_saying [6, 7] kk (zipD (ns.map natD) (rowsD bs)) [] [.dat (.list (bs.map bD)), .dat (.list (ns.map natD)), .dat (.list (rowsD bs)), .dat d, .non, .non, .non, .non, .non] := fun kk hk => by
      rw [zip_rows]
      refine lc_mapG (ρ := [.dat (.list (bs.map bD)), .dat (.list (ns.map natD)), .dat (.list (rowsD bs)), .dat d, .non, .non, .non, .non, .non]) (fun p : Nat × Bdy => .tuple [natD p.1, .list (p.2.2.places.map natD)]) (keyOf ns) (fun p => [.dat (.list (bs.map bD)), .dat (.list (ns.map natD)), .dat (.list (rowsD bs)), .dat d, .non, .non, .dat (natD p.1), .dat (.list (p.2.2.places.map natD)), .non]) (fun p kk h => ⟨rfl, h⟩) (fun p => rfl) rfl _ [] ?_ (fun p hp kk h => ?_) (by rw [List.nil_append]; exact hk)
      · have := fit.len
        rw [List.length_zip]; simp; omega
      · exact says2 fit s.len hp rfl rfl rfl rfl (show 8 < 9 by decide) h
    rcases h2 with rfl | rfl
    · show L1_saying _ [.dat (.list (bs.map bD)), .dat (.list (ns.map natD)), .own false (rowsD bs), .dat d, .non, .non, .non, .non, .non]
      unfold L1_saying
      walk_at "ev"
      exact comp _ (key _)
    · show L1_saying _ [.dat (.list (bs.map bD)), .dat (.list (ns.map natD)), .dat (.list (rowsD bs)), .dat d, .non, .non, .non, .non, .non]
      unfold L1_saying
      walk_at "ev"
      exact comp _ (key _)
theorem saying_spec {bs : List Bdy} {k : Bool → DL.D → Prop} (fit : Fits bs) (q : ∀ ns : List Nat, Said bs bs.length ns → k false (.list (ns.map natD))) : W_saying [bsD bs] k := by
  unfold W_saying m_saying
  show sSeq _ _ _ [.dat (bsD bs), .non, .non, .non, .non, .non, .non, .non, .non]
  unfold bsD
  walk_at "sq"
  refine lc_mapG (ρ := [Slot.dat (PyData.list (List.map bD bs)), Slot.non, Slot.non, Slot.non, Slot.non, Slot.non, Slot.non, Slot.non, Slot.non]) bD (fun b => .str (btxt b)) (fun b => [Slot.dat (PyData.list (List.map bD bs)), Slot.non, Slot.non, Slot.non, Slot.dat (.int (b.1 : Nat)), Slot.dat b.2.dat, Slot.non, Slot.non, Slot.non]) (fun b kk h => ⟨rfl, h⟩) (fun b => rfl) rfl bs [] (by have := fit.len; simp; omega) (fun b hb kk h => ?_) ?_
  · obtain ⟨o1, o2, o3, _⟩ := fit.ok b hb
    exact says1 ⟨o1, o2, o3⟩ rfl rfl h
  refine numbers_spec true (fun d hd => ?_) ?_ fun ns hn => ?_
  · rw [List.nil_append] at hd
    obtain ⟨b, _, rfl⟩ := List.mem_map.mp hd
    exact ⟨_, rfl⟩
  · have := fit.len; simp; omega
  have s0 := said_zero (by simpa using hn)
  walk_at "sq"
  refine lc_mapG (ρ := [Slot.dat (PyData.list (List.map bD bs)), Slot.dat (PyData.list (List.map natD ns)), Slot.non, Slot.non, Slot.non, Slot.non, Slot.non, Slot.non, Slot.non]) bD (fun b => .list (b.2.places.map natD)) (fun b => [Slot.dat (PyData.list (List.map bD bs)), Slot.dat (PyData.list (List.map natD ns)), Slot.non, Slot.non, Slot.dat (.int (b.1 : Nat)), Slot.dat b.2.dat, Slot.non, Slot.non, Slot.non]) (fun b kk h => ⟨rfl, h⟩) (fun b => rfl) rfl bs [] (by have := fit.len; simp; omega) (fun b hb kk h => ?_) ?_
  · obtain ⟨o1, o2, o3, _⟩ := fit.ok b hb
    unfold E2_saying
    walk_at "ev"
    refine places_spec o2 o3 ?_
    rw [heads_places]
    exact h
  rw [List.nil_append]
  walk_at "sq"
  refine ⟨by omega, by have := fit.len; rw [List.length_map]; omega, ?_⟩
  refine says_loop fit _ 0 ns _ _ s0 (.inl rfl) fun ms s2 s3 h => ?_
  refine q ms ?_
  have e : (rngD 0 ((bs.map bD).length : Int).toNat).length = bs.length := by unfold rngD; simp
  rw [e, Nat.zero_add] at h
  exact h

/-! ### draws -/
theorem take_spec {n : Nat} {bs : List DL.D} {size : Int} {k : Bool → DL.D → List DL.D → Prop} (h : Bx n bs) (hn : n < CAP) (hs : 1 ≤ size) (hs2 : size ≤ 10000000)
    (q : ∀ r bs', 0 ≤ r → r < size → Bx (n + 1) bs' → k false (.int r) bs') : W__law_take bs [.int size] k := by
  obtain ⟨a, b, c, rfl, ha, hb, hb2, hc, hc2⟩ := h
  unfold CAP at hn
  unfold W__law_take m__law_take
  walk_at "ev"
  have m1 : ∀ i : Int, 0 ≤ i % 2147483587 ∧ i % 2147483587 < 2147483587 := fun i => ⟨Int.emod_nonneg _ (by decide), Int.emod_lt_of_pos _ (by decide)⟩
  have m2 : ∀ i : Int, 0 ≤ i % 2147483563 ∧ i % 2147483563 < 2147483563 := fun i => ⟨Int.emod_nonneg _ (by decide), Int.emod_lt_of_pos _ (by decide)⟩
  split
  · rename_i h0
    exact ⟨⟨by omega, by omega⟩, q _ _ (Int.emod_nonneg _ (by omega)) (Int.emod_lt_of_pos _ (by omega)) ⟨_, _, _, rfl, Int.ediv_nonneg ha (by omega), hb, hb2, hc, by omega⟩⟩
  · refine ⟨⟨by decide, by decide, by decide⟩, ?_⟩
    rw [if_neg (by rw [show ((10 : Int) ^ Int.toNat 7) = 10000000 by decide]; omega)]
    refine ⟨cmul_l (by omega) (by omega), cmul_l (by decide) (by decide), cmul_l (by omega) (by omega), by decide, by decide, ?_, by decide, by decide, ?_, by decide, ⟨by decide, by decide⟩, by omega, ?_⟩
    · exact cmul_l (m1 _).1 (by have := (m1 ((b + 39373 * (c + 1)) * (69621 + (c + 1) * (c + 1)))).2; omega)
    · exact cmul_l (m2 _).1 (Int.lt_trans (m2 _).2 (by decide))
    · exact q _ _ (Int.emod_nonneg _ (by omega)) (Int.emod_lt_of_pos _ (by omega)) ⟨_, _, _, rfl, ha, hb, hb2, by omega, by omega⟩

/-! ### an order drawn -/
theorem seq_ixN {j n : Nat} (u : j < n) : seqIndex? (j : Int) n = some j := by
  unfold seqIndex?
  simp
  omega
theorem erase_permN {α : Type} : ∀ (L : List α) (i : Nat) (h : i < L.length), (L[i] :: L.eraseIdx i).Perm L
  | [], _, h => absurd h (by simp)
  | x :: L, 0, _ => .refl _
  | x :: L, i + 1, h => by
    have := erase_permN L i (by simpa using h)
    exact (List.Perm.swap x _ _).trans (this.cons x)
theorem map_eraseN {α β : Type} (f : α → β) : ∀ (l : List α) (j : Nat), (l.eraseIdx j).map f = (l.map f).eraseIdx j
  | [], _ => rfl
  | x :: l, 0 => rfl
  | x :: l, j + 1 => by
    show f x :: (l.eraseIdx j).map f = f x :: (l.map f).eraseIdx j
    rw [map_eraseN f l j]
theorem order_loop {K : SK} {N : Nat} (hN : N ≤ 100) {sz : Int} : ∀ (ds : List DL.D) (left found : List Nat) (n : Nat) (bs : List DL.D) (s4 : Slot), Bx n bs → n + ds.length < CAP → left.length = ds.length → found.length + left.length = N → (found ++ left).Perm (List.range N) →
    (∀ (fs : List Nat) bs' s4 m, fs.Perm (List.range N) → Bx m bs' → m ≤ n + ds.length → K.nx [.own true bs', .dat (.int sz), .own false [], .own false (fs.map natD), s4]) →
    forLoop G1__law_order L1__law_order K ds [.own true bs, .dat (.int sz), .own false (left.map natD), .own false (found.map natD), s4]
  | [], left, found, n, bs, s4, h, hn, hl, hN, hp, q => by
    have : left = [] := List.eq_nil_of_length_eq_zero hl
    subst this
    rw [List.append_nil] at hp
    exact q found bs s4 n hp h (by simp)
  | d :: ds, left, found, n, bs, s4, h, hn, hl, hN', hp, q => by
    rw [forLoop_cons]
    show L1__law_order (loopK K (forLoop G1__law_order L1__law_order K ds)) [.own true bs, .dat (.int sz), .own false (left.map natD), .own false (found.map natD), .dat d]
    generalize hF : forLoop G1__law_order L1__law_order K ds = F
    unfold L1__law_order
    walk_at "ev"
    unfold mPopAt
    walk_at "ev"
    have h0 : left.length = ds.length + 1 := hl
    rw [List.length_cons] at hn
    refine take_spec h (by omega) (by rw [List.length_map]; omega) (by rw [List.length_map]; omega) fun r bs' r0 r1 h' => ?_
    rw [List.length_map] at r1
    obtain ⟨j, rfl⟩ : ∃ j : Nat, r = (j : Int) := ⟨r.toNat, by omega⟩
    have hj : j < left.length := by omega
    refine ⟨by omega, by omega, j, natD left[j], seq_ixN (by rw [List.length_map]; exact hj), by rw [List.getElem?_map, List.getElem?_eq_getElem hj]; rfl, by rw [List.length_map]; exact len_line (by omega), ?_⟩
    have he : (left.eraseIdx j).length + 1 = left.length := by rw [List.length_eraseIdx_of_lt hj]; omega
    have hp' : (found ++ [left[j]] ++ left.eraseIdx j).Perm (List.range N) := by
      refine List.Perm.trans ?_ hp
      rw [List.append_assoc]
      exact List.Perm.append_left found (erase_permN left j hj)
    have ih := order_loop (K := K) hN (sz := sz) ds (left.eraseIdx j) (found ++ [left[j]]) (n + 1) bs' (.dat d) h' (by omega) (by omega) (by rw [List.length_append, List.length_singleton]; omega) hp' fun fs bs2 s4 m a b c => q fs bs2 s4 m a b (by rw [List.length_cons]; omega)
    have e1 : (left.eraseIdx j).map natD = (left.map natD).eraseIdx j := map_eraseN _ _ _
    rw [e1, List.map_append, hF] at ih
    exact ih
theorem order_spec {N : Nat} (h1 : 1 ≤ N) (hN : N ≤ 100) {n : Nat} {bs : List DL.D} {k : Bool → DL.D → List DL.D → Prop} (h : Bx n bs) (hn : n + 200 < CAP) (q : ∀ (b : Bool) (fs : List Nat) bs' m, fs.Perm (List.range N) → Bx m bs' → m ≤ n + 100 → k b (.list (fs.map natD)) bs') : W__law_order bs [.int (N : Nat)] k := by
  unfold W__law_order m__law_order
  walk_at "ev"
  refine ⟨by omega, by omega, len_line (by decide), ?_⟩
  have e : (rngD 0 (N : Int).toNat) = (List.range N).map natD := by
    unfold rngD natD
    rw [Int.toNat_natCast]
    refine List.map_congr_left fun i _ => by rw [Int.zero_add]
  rw [e]
  refine ⟨by omega, by omega, ?_⟩
  have lr : (rngD 0 (N : Int).toNat).length = N := by unfold rngD; simp
  refine order_loop hN _ (List.range N) [] n bs .non h (by rw [lr]; omega) (by rw [lr, List.length_range]) (by simp) (by simp) fun fs bs' s4 m hp hb hm => ?_
  rw [lr] at hm
  exact ⟨bs', rfl, q _ fs bs' m hp hb (by omega)⟩

theorem sl_tail {a d : DL.D} {ds : List DL.D} {k : DL.D → Prop} (q : k (.tuple (d :: ds))) : slD (.tuple (a :: d :: ds)) (some 1) none k := by
  show k (.tuple (cutL (a :: d :: ds) (some 1) none))
  rw [cut1]
  exact q

/-! ### the law's spots: the places of a term -/
theorem spots_loop {self : FS} {K : SK} {s0 s2 : Slot} : ∀ (ts : List Te) (acc : List DL.D) (s1 s3 : Slot), s1 = .dat (.list acc) ∨ s1 = .own false acc → (∀ t ∈ ts, ∀ kk : Bool → DL.D → Prop, (∀ b, kk b (.list (t.heads false))) → self [t.dat] kk) → acc.length + (Te.headss false ts).length ≤ 1000000 →
    (∀ s1 s3, s1 = .dat (.list (acc ++ Te.headss false ts)) ∨ s1 = .own false (acc ++ Te.headss false ts) → K.nx [s0, s1, s2, s3]) → forLoop (G1__law_spots self) (L1__law_spots self) K (Te.dats ts) [s0, s1, s2, s3]
  | [], acc, s1, s3, e, _, _, q => by
    refine q s1 s3 ?_
    rwa [show Te.headss false [] = [] from rfl, List.append_nil]
  | t :: ts, acc, s1, s3, e, h, hl, q => by
    rw [show Te.headss false (t :: ts) = t.heads false ++ Te.headss false ts from rfl, List.length_append] at hl
    have ih := fun s3 => spots_loop (K := K) (s0 := s0) (s2 := s2) ts (acc ++ t.heads false) _ s3 (.inl rfl) (fun x hx => h x (by simp [hx])) (by rw [List.length_append]; omega) fun s1 s3 e => by
      refine q s1 s3 ?_
      rwa [show Te.headss false (t :: ts) = t.heads false ++ Te.headss false ts from rfl, ← List.append_assoc]
    rw [show Te.dats (t :: ts) = t.dat :: Te.dats ts from rfl, forLoop_cons]
    generalize forLoop (G1__law_spots self) (L1__law_spots self) K (Te.dats ts) = F at ih ⊢
    unfold G1__law_spots L1__law_spots
    rcases e with rfl | rfl
    · walk_at "ev"
      refine h t (by simp) _ fun _ => ?_
      exact ⟨len_line (by omega), ih _⟩
    · walk_at "ev"
      refine h t (by simp) _ fun _ => ?_
      exact ⟨len_line (by omega), ih _⟩
theorem heads8 (c : Bool) {h : Hed} {ps : List Te} (o : Te.Ok (.node h ps)) (l : Te.deep (.node h ps) ≤ 8) : (h.own c).length ≤ 1 ∧ (Te.headss c ps).length ≤ 30000 := by
  have hl := headss_len c fun t (ht : t ∈ ps) => heads_len c 7 t (deep_kids l t ht)
  have s8 := size8 o l
  rw [size_node] at s8
  exact ⟨own_len c h, by omega⟩
theorem spotsL_spec : ∀ (fuel : Nat) (t : Te) (k : Bool → DL.D → Prop), t.Ok → t.deep ≤ fuel → t.deep ≤ 8 → (∀ b, k b (.list (t.heads false))) → W__law_spots fuel [t.dat] k
  | 0, t, _, _, h, _, _ => by have := deep_pos t; omega
  | fuel + 1, .node h ps, k, o, l, l8, q => by
    have ih := fun (t : Te) (ht : t ∈ ps) (k : Bool → DL.D → Prop) => spotsL_spec fuel t k (o.all t ht) (deep_kids l t ht) (by have := deep_kids (n := 7) l8 t ht; omega)
    have f := o.fit
    obtain ⟨b1, b2⟩ := heads8 false o l8
    unfold W__law_spots m__law_spots
    cases h with
    | num n =>
      have : ps = [] := List.eq_nil_of_length_eq_zero f.2
      subst this
      unfold Te.dat Hed.D
      walk_at "ev1"
      walk_at "sq"
      rw [inD_two]
      simp only [beq_self_eq_true, Bool.true_or, bool_ite]
      exact q true
    | arg n =>
      have : ps = [] := List.eq_nil_of_length_eq_zero f.2
      subst this
      unfold Te.dat Hed.D
      walk_at "ev1"
      walk_at "sq"
      rw [inD_two]
      simp only [beq_self_eq_true, Bool.or_true, bool_ite]
      exact q true
    | op w =>
      obtain ⟨w1, w2, w3, w4⟩ := op_word f.1
      obtain ⟨p, ps', e⟩ : ∃ p ps', ps = p :: ps' := by
        cases ps with
        | nil => have := f.2; simp at this; split at this <;> omega
        | cons p ps' => exact ⟨p, ps', rfl⟩
      unfold Te.dat Hed.D
      walk_at "ev1"
      walk_at "sq"
      rw [inD_two, BEq.comm, w1, BEq.comm, w2]
      simp only [Bool.or_self, bool_ite']
      walk_at "sq"
      rw [e] at ih b2 q ⊢
      refine sl_tail ?_
      walk_at "sq"
      rw [inD_two, BEq.comm, w3, BEq.comm, w4]
      simp only [Bool.or_self, bool_ite']
      walk_at "sq"
      refine spots_loop (p :: ps') [] _ _ (.inr rfl) ih (by simp; omega) fun s1 s3 e => ?_
      rcases e with rfl | rfl
      · exact q false
      · exact q false
    | call m =>
      unfold Te.dat Hed.D
      walk_at "ev1"
      walk_at "sq"
      rw [inD_two, BEq.comm, ne2, BEq.comm, ne3]
      simp only [Bool.or_self, bool_ite']
      walk_at "sq"
      refine sl_tail ?_
      walk_at "sq"
      rw [inD_two]
      simp only [beq_self_eq_true, Bool.true_or, bool_ite]
      walk_at "ev1"
      refine ⟨⟨w_call, w_ring⟩, ?_⟩
      rw [show (("call" : Str) == ("ring" : Str)) = false by decide +kernel]
      simp only [Bool.false_eq_true, if_false]
      refine ⟨⟨by decide, by decide, by simp⟩, ?_⟩
      dsimp only
      walk_at "sq"
      refine spots_loop ps [] _ _ (.inl rfl) ih (by simp; omega) fun s1 s3 e => ?_
      rcases e with rfl | rfl
      · exact q false
      · exact q false
    | ring p =>
      unfold Te.dat Hed.D
      walk_at "ev1"
      walk_at "sq"
      rw [inD_two, BEq.comm, ne4, BEq.comm, ne5]
      simp only [Bool.or_self, bool_ite']
      walk_at "sq"
      refine sl_tail ?_
      walk_at "sq"
      rw [inD_two]
      simp only [beq_self_eq_true, Bool.or_true, bool_ite]
      walk_at "ev1"
      refine ⟨⟨w_ring, w_ring⟩, ?_⟩
      refine ⟨⟨by decide, by decide, by simp; exact len_line (by decide)⟩, ?_⟩
      dsimp only
      walk_at "sq"
      refine spots_loop ps [.int (p : Nat)] _ _ (.inl rfl) ih (by simp; omega) fun s1 s3 e => ?_
      rcases e with rfl | rfl
      · exact q false
      · exact q false

/-! ### cells of the world -/
theorem wget_new {Ω : Wd} {p : Addr} {c : Cell} : wget ((p, c) :: Ω) p = some c := by unfold wget; rw [List.find?_cons_of_pos (by simp)]; rfl
theorem wget_old {Ω : Wd} {p b : Addr} {c : Cell} (h : p ≠ b) : wget ((p, c) :: Ω) b = wget Ω b := by unfold wget; rw [List.find?_cons_of_neg (by simpa using h)]
theorem wget_ne {a b : Addr} {c : Cell} (h : a ≠ b) : ∀ Ω : Wd, wget (wset Ω a c) b = wget Ω b
  | [] => rfl
  | (x, o) :: Ω => by
    have ih := wget_ne (c := c) h Ω
    show wget ((if x = a then (a, c) else (x, o)) :: wset Ω a c) b = _
    by_cases hx : x = a
    · subst hx
      rw [if_pos rfl, wget_old h, wget_old h, ih]
    · rw [if_neg hx]
      by_cases hb : x = b
      · subst hb; rw [wget_new, wget_new]
      · rw [wget_old hb, wget_old hb, ih]
theorem wget_self {a : Addr} {c : Cell} : ∀ {Ω : Wd} {c0 : Cell}, wget Ω a = some c0 → wget (wset Ω a c) a = some c
  | [], c0, h => by cases h
  | (x, o) :: Ω, c0, h => by
    show wget ((if x = a then (a, c) else (x, o)) :: wset Ω a c) a = _
    by_cases hx : x = a
    · rw [if_pos hx, wget_new]
    · rw [if_neg hx, wget_old hx]
      rw [wget_old hx] at h
      exact wget_self h
theorem kys_wget {Ω : Wd} {a b : Addr} {c : Cell} (h : wget Ω a = some c) (n : ¬ Kys Ω b) : b ≠ a := fun e => n (e ▸ ⟨c, wget_mem h⟩)
theorem map_wset {Ω : Wd} {a : Addr} {c : Cell} {as : List Addr} (h : a ∉ as) : as.map (wget (wset Ω a c)) = as.map (wget Ω) := List.map_congr_left fun b hb => wget_ne (fun e => h (by subst e; exact hb)) Ω
theorem map_wnew {Ω : Wd} {a : Addr} {c : Cell} {as : List Addr} (h : a ∉ as) : as.map (wget ((a, c) :: Ω)) = as.map (wget Ω) := List.map_congr_left fun b hb => wget_old fun e => h (by subst e; exact hb)
theorem at_last {α : Type} {xs : List α} {a : α} : atI (xs ++ [a]) (-1) = some a := by
  unfold atI ixN
  simp only [List.length_append, List.length_cons, List.length_nil]
  rw [if_neg (by decide), if_pos (by omega)]
  rw [Option.bind_some]
  rw [show (-1 + ((xs.length + (0 + 1) : Nat) : Int)).toNat = xs.length by omega]
  simp
theorem lay_all0 : ∀ {ds : List DL.D}, (∀ d ∈ ds, d.canLay0 = true) → PyData.canLayAll0 ds = true
  | [], _ => rfl
  | x :: xs, h => by
    show (x.canLay0 && PyData.canLayAll0 xs) = true
    rw [h x (by simp), lay_all0 fun d hd => h d (by simp [hd])]; rfl
theorem lay_alls0 : ∀ {ds : List (List DL.D)}, (∀ xs ∈ ds, ∀ d ∈ xs, d.canLay0 = true) → PyData.canLayAll0 (ds.map .list) = true
  | [], _ => rfl
  | x :: xs, h => by
    show (PyData.canLayAll0 x && PyData.canLayAll0 (xs.map .list)) = true
    rw [lay_all0 (h x (by simp)), lay_alls0 fun d hd => h d (by simp [hd])]; rfl
theorem derefs_cells0 {Ω : Wd} {n : Nat} : ∀ (as : List Addr) (P : List (List DL.D)), as.map (wget Ω) = P.map (fun xs => some (.lst xs)) → (∀ xs ∈ P, ∀ d ∈ xs, d.canLay0 = true) → derefs Ω (n + 1) (as.map aD) = some (P.map .list)
  | [], [], _, _ => derefs_nil
  | [], _ :: _, h, _ => by cases h
  | _ :: _, [], h, _ => by cases h
  | a :: as, xs :: P, h, hp => by
    rw [List.map_cons, List.map_cons] at h
    injection h with h1 h2
    rw [List.map_cons, List.map_cons]
    exact derefs_cons (deref_cell h1 (derefs_data fun d hd => hp xs (by simp) d hd)) (derefs_cells0 as P h2 fun xs hx => hp xs (by simp [hx]))
theorem deref_refs {Ω : Wd} {n : Nat} {as : List Addr} {P : List (List DL.D)} (h : as.map (wget Ω) = P.map (fun xs => some (.lst xs))) (hp : ∀ xs ∈ P, ∀ d ∈ xs, d.canLay0 = true) : deref Ω (n + 2) (.list (as.map aD)) = some (.list (P.map .list)) := by
  cases as with
  | nil =>
    cases P with
    | nil => exact deref_data rfl
    | cons x P => cases h
  | cons a as => exact deref_list (derefs_cells0 _ _ h hp) rfl
theorem eqok_nil0 {xs : List DL.D} (h : PyData.canLayAll0 xs = true) : EqOk (.list xs) (.list []) := ⟨h, rfl, Nat.le_trans (Nat.min_le_right _ _) (by decide)⟩
theorem eq_nil0 {xs : List DL.D} : PyData.eqv (.list xs) (.list []) = decide (xs = []) := by cases xs <;> rfl

/-! ### a term with other places -/
mutual
def Te.put : Te → List Nat → Te
  | .node (.ring _) ps, q => .node (.ring (q.headD 0)) (Te.puts ps q.tail)
  | .node h ps, q => .node h (Te.puts ps q)
def Te.puts : List Te → List Nat → List Te
  | [], _ => []
  | t :: ts, q => t.put (q.take t.places.length) :: Te.puts ts (q.drop t.places.length)
end
theorem slTailN {a : DL.D} {ds : List DL.D} {k : DL.D → Prop} : slD (.tuple (a :: ds)) (some 1) none k = k (.tuple ds) := by
  show k (.tuple (cutL (a :: ds) (some 1) none)) = _
  rw [cut1]
theorem sl_one {a : DL.D} {ds : List DL.D} {k : DL.D → Prop} : slD (.tuple (a :: ds)) none (some 1) k = k (.tuple [a]) := by
  have : cutL (a :: ds) none (some 1) = [a] := by
    unfold cutL
    rw [HT.sIx_none, show (some (1 : Int)) = some ((1 : Nat) : Int) from rfl, HT.sIx_nat, List.length_cons, Nat.min_eq_left (by omega)]; rfl
  show k (.tuple (cutL (a :: ds) none (some 1))) = _
  rw [this]
theorem op_ok {w : Nat} (h : w < 5) : PyData.strOk (opS w) = true := by
  have : ∀ w, w < 5 → PyData.strOk (opS w) = true := by decide +kernel
  exact this w h
theorem puts_dats : ∀ (ts : List Te) (qs : List Nat), (Te.puts ts qs).length = ts.length
  | [], _ => rfl
  | t :: ts, qs => by rw [Te.puts, List.length_cons, List.length_cons, puts_dats]
/-- what is promised of a part -/
def PlOk (self : FW) (a : Addr) (t : Te) : Prop := ∀ (qs rest : List Nat) (Ω : Wd) (k : Bool → DL.D → Wd → Prop), qs.length = t.places.length → wget Ω a = some (.lst ((qs ++ rest).map natD)) →
  (∀ Ω', wget Ω' a = some (.lst (rest.map natD)) → k false (t.put qs).dat Ω') → self [t.dat, aD a] Ω k
theorem placed_loop {self : FW} {a : Addr} {s0 s2 : Slot} {kk : List DL.D → List Slot → Prop} : ∀ (ts : List Te) (acc : List DL.D) (qs rest : List Nat) (Ω : Wd), (∀ t ∈ ts, PlOk self a t) → qs.length = (Te.placess ts).length → wget Ω a = some (.lst ((qs ++ rest).map natD)) → acc.length + ts.length ≤ 1000000 →
    (∀ Ω', wget Ω' a = some (.lst (rest.map natD)) → kk (acc ++ Te.dats (Te.puts ts qs)) [s0, .dat (aD a), s2, .non, .wld Ω']) →
    lcLoop (gVar 3) (mPure true) (mFnW 2 self 4 (mCons (mVar 3) (mCons (mVar 1) mNil))) [3] kk (Te.dats ts) acc [s0, .dat (aD a), s2, .non, .wld Ω]
  | [], acc, qs, rest, Ω, _, hq, hw, _, q => by
    have : qs = [] := List.eq_nil_of_length_eq_zero hq
    subst this
    have := q Ω hw
    rw [Te.puts, Te.dats, List.append_nil] at this
    exact this
  | t :: ts, acc, qs, rest, Ω, h, hq, hw, hl, q => by
    rw [Te.placess, List.length_append] at hq
    rw [List.length_cons] at hl
    show lcLoop (gVar 3) (mPure true) (mFnW 2 self 4 (mCons (mVar 3) (mCons (mVar 1) mNil))) [3] kk (t.dat :: Te.dats ts) acc [s0, .dat (aD a), s2, .non, .wld Ω]
    rw [lcLoop_cons]
    have l1 : (qs.take t.places.length).length = t.places.length := by rw [List.length_take]; omega
    have e1 : qs.take t.places.length ++ (qs.drop t.places.length ++ rest) = qs ++ rest := by rw [← List.append_assoc, List.take_append_drop]
    refine ⟨rfl, Ω, rfl, h t (by simp) (qs.take t.places.length) (qs.drop t.places.length ++ rest) Ω _ l1 (by rw [e1]; exact hw) fun Ω' hw' => ⟨len_line (by omega), ?_⟩⟩
    refine placed_loop ts (acc ++ [(t.put (qs.take t.places.length)).dat]) (qs.drop t.places.length) rest Ω' (fun x hx => h x (by simp [hx])) (by rw [List.length_drop]; omega) hw' (by rw [List.length_append, List.length_singleton]; omega) fun Ω2 hw2 => ?_
    have := q Ω2 hw2
    rw [Te.puts, Te.dats] at this
    rw [List.append_assoc]
    exact this
theorem placed_spec : ∀ (fuel : Nat) (t : Te) (a : Addr), t.Ok → t.deep ≤ fuel → PlOk (W__law_placed fuel) a t
  | 0, t, _, _, h => by have := deep_pos t; omega
  | fuel + 1, .node h ps, a, o, l => by
    intro qs rest Ω k hq hw q
    have ih := fun (t : Te) (ht : t ∈ ps) => placed_spec fuel t a (o.all t ht) (deep_kids l t ht)
    have f := o.fit
    have f4 := f.four
    unfold W__law_placed m__law_placed fnW
    cases h with
    | num n =>
      have : ps = [] := List.eq_nil_of_length_eq_zero f.2
      subst this
      have q0 : qs = [] := List.eq_nil_of_length_eq_zero hq
      subst q0
      unfold Te.dat Hed.D
      walk_at "ev"
      refine ⟨len_line (by decide), ?_⟩
      rw [inD_two]
      simp only [beq_self_eq_true, Bool.true_or, bool_ite]
      exact ⟨Ω, rfl, q Ω hw⟩
    | arg n =>
      have : ps = [] := List.eq_nil_of_length_eq_zero f.2
      subst this
      have q0 : qs = [] := List.eq_nil_of_length_eq_zero hq
      subst q0
      unfold Te.dat Hed.D
      walk_at "ev"
      refine ⟨len_line (by decide), ?_⟩
      rw [inD_two]
      simp only [beq_self_eq_true, Bool.or_true, bool_ite]
      exact ⟨Ω, rfl, q Ω hw⟩
    | op w =>
      obtain ⟨w1, w2, w3, w4⟩ := op_word f.1
      unfold Te.dat Hed.D
      show sSeq _ _ _ [.dat (.tuple (.str (opS w) :: Te.dats ps)), .dat (aD a), .non, .non, .wld Ω]
      walk_at "sq"
      rw [inD_two, BEq.comm, w1, BEq.comm, w2]
      simp only [Bool.or_self, bool_ite']
      walk_at "sq"
      refine ⟨⟨op_ok f.1, w_call⟩, ?_⟩
      rw [w3]
      simp only [Bool.false_eq_true, if_false]
      walk_at "sq"
      refine ⟨⟨op_ok f.1, w_ring⟩, ?_⟩
      rw [w4]
      simp only [Bool.false_eq_true, if_false]
      have hq' : qs.length = (Te.placess ps).length := hq
      rw [sl_one, slTailN]
      dsimp only
      refine placed_loop ps [] qs rest Ω ih hq' hw (by simp; omega) fun Ω' hw' => ?_
      rw [addD_tt]
      exact ⟨⟨by simp, by rw [List.nil_append, dats_eq, List.length_map, puts_dats]; exact len_line (n := 1 + ps.length) (by omega)⟩, Ω', rfl, q Ω' hw'⟩
    | call m =>
      unfold Te.dat Hed.D
      show sSeq _ _ _ [.dat (.tuple [.str "call", .str (T m), .tuple (Te.dats ps)]), .dat (aD a), .non, .non, .wld Ω]
      walk_at "sq"
      rw [inD_two, BEq.comm, ne2, BEq.comm, ne3]
      simp only [Bool.or_self, bool_ite']
      walk_at "sq"
      refine ⟨⟨w_call, w_call⟩, ?_⟩
      simp only [beq_self_eq_true, if_true]
      have hq' : qs.length = (Te.placess ps).length := hq
      rw [sl_two]
      refine placed_loop ps [] qs rest Ω ih hq' hw (by simp; omega) fun Ω' hw' => ?_
      rw [addD_tt]
      exact ⟨⟨by simp, by simp; exact len_line (by omega)⟩, Ω', rfl, q Ω' hw'⟩
    | ring p =>
      unfold Te.dat Hed.D
      show sSeq _ _ _ [.dat (.tuple [.str "ring", .int (p : Nat), .tuple (Te.dats ps)]), .dat (aD a), .non, .non, .wld Ω]
      walk_at "sq"
      rw [inD_two, BEq.comm, ne4, BEq.comm, ne5]
      simp only [Bool.or_self, bool_ite']
      walk_at "sq"
      refine ⟨⟨w_ring, w_call⟩, ?_⟩
      rw [ne6]
      simp only [Bool.false_eq_true, if_false]
      walk_at "sq"
      refine ⟨⟨w_ring, w_ring⟩, ?_⟩
      simp only [beq_self_eq_true, if_true]
      obtain ⟨p', qs', rfl⟩ : ∃ p' qs', qs = p' :: qs' := by
        cases qs with
        | nil => cases hq
        | cons p' qs' => exact ⟨p', qs', rfl⟩
      have hq' : qs'.length = (Te.placess ps).length := by
        have e : (Te.node (.ring p) ps).places = p :: Te.placess ps := by unfold Te.places; rfl
        rw [e] at hq
        simpa using hq
      rw [sSeq_eq]
      refine ⟨⟨Ω, rfl, a, _, rfl, hw, trivial⟩, Ω, rfl, ?_⟩
      unfold popAtW
      dsimp only
      rw [inL_eq hw]
      refine ⟨by decide, 0, natD p', seq_ixN (j := 0) (by rw [List.length_map, List.cons_append, List.length_cons]; omega), rfl, ?_⟩
      have hw2 : wget (wset Ω a (.lst ((qs' ++ rest).map natD))) a = some (.lst ((qs' ++ rest).map natD)) := wget_self hw
      show sRet _ _ [.dat (.tuple [.str "ring", .int (p : Nat), .tuple (Te.dats ps)]), .dat (aD a), .dat (natD p'), .non, .wld (wset Ω a (.lst ((qs' ++ rest).map natD)))]
      walk_at "ev1"
      refine placed_loop ps [] qs' rest _ ih hq' hw2 (by simp; omega) fun Ω' hw' => ?_
      walk_at "ev1"
      exact ⟨Ω', rfl, q Ω' hw'⟩

/-! ### the known ones -/
def tN (n : Nat) : Te := .node (.num n) []
def tA (n : Nat) : Te := .node (.arg n) []
def tR (p : Nat) (ts : List Te) : Te := .node (.ring p) ts
def tO (w : Nat) (ts : List Te) : Te := .node (.op w) ts
def stepT : Te := tO 1 [tA 0, tN 1]
def kEO : List Bdy := [(1, tO 4 [tA 0, tR 1 [stepT], tN 1]), (1, tO 4 [tA 0, tR 0 [stepT], tN 0])]
def kOne : List Bdy := [1, 0, 2].map fun p => (0, tO 0 [tN 1, tR p []])
def kSix (m : Nat) : List Bdy := (List.range 6).map fun k => (0, tO 0 [tN (k % m), tR ((k + 1) % 6) []])
def kLast (n : Nat) : Bdy := (0, tO 0 [tN 2, tR 0 []])
def kCall : List Bdy := [[0,0,0,0,0,10], [0,0,0,0,0,11], [0,0,0,0,0,10]].map fun m => (0, .node (.call m) [])
def deepT (n : Nat) : Te := tO 2 [tO 0 [tN 3, tO 4 [tA 0, tA 0, tN n]], tA 0]
def kDeep : List Bdy := [(1, deepT 4), (1, deepT 5), (2, deepT 4), (1, deepT 4)]
def kTwo (n : Nat) : List Bdy := [(0, tO 0 [tR 2 [], tR 3 []]), (0, tO 0 [tR 2 [], tR 2 []]), (0, tN 1), (0, tN n)]
def kTwelve : List Bdy := (List.range 12).map fun k => (0, tO 0 [tN 1, tR ((k + 1) % 12) []])
def known : List (List Bdy × Str) := [(kEO, "ab"), (kOne, "aaa"), (kSix 2, "ababab"), (kSix 3, "abcabc"), ((kSix 2).take 5 ++ [kLast 2], "abcdef"), (kCall, "aba"), (kDeep, "abca"), (kTwo 2, "abcd"), (kTwo 1, "aabb"), (kTwelve, "aaaaaaaaaaaa"), (kTwelve.take 11 ++ [kLast 2], "abcdefghijkl")]
def knD (c : List Bdy × Str) : DL.D := .tuple [bsD c.1, .str c.2]
theorem kn1 {ρ : List Slot} {p : Nat} {kk : DL.D → List Slot → Prop} (e : ρ[12]? = some (.dat (natD p))) (q : kk (bD (0, tO 0 [tN 1, tR p []])) ρ) : E1__law_known ρ kk := by
  unfold E1__law_known
  simp only [mTup, mCons, mNil, mPure, mVar, e]
  exact ⟨len_line (by simp), len_line (by simp), len_line (by simp), len_line (by simp), len_line (by simp), q⟩
theorem modN {a b : Nat} (h : 0 < b) {k : DL.D → Prop} (q : k (natD (a % b))) : modD (.int ((a : Nat) : Int)) (.int ((b : Nat) : Int)) k := by
  rw [modD_ii]
  refine ⟨by omega, ?_⟩
  rw [show ((a : Nat) : Int) % ((b : Nat) : Int) = ((a % b : Nat) : Int) by rw [Int.natCast_emod]]
  exact q
theorem kn2 {ρ : List Slot} {p : Nat} {kk : DL.D → List Slot → Prop} (e : ρ[13]? = some (.dat (natD p))) (q : kk (bD (0, tO 0 [tN (p % 2), tR ((p + 1) % 6) []])) ρ) : E2__law_known ρ kk := by
  unfold E2__law_known
  simp only [mTup, mCons, mNil, mPure, mVar, mBin, e]
  refine modN (b := 2) (by decide) ⟨len_line (by simp), ?_⟩
  show addD (.int (p : Nat)) (.int 1) _
  rw [addD_ii]
  refine modN (a := p + 1) (b := 6) (by decide) ?_
  exact ⟨len_line (by simp), len_line (by simp), len_line (by simp), len_line (by simp), q⟩
theorem kn3 {ρ : List Slot} {p : Nat} {kk : DL.D → List Slot → Prop} (e : ρ[13]? = some (.dat (natD p))) (q : kk (bD (0, tO 0 [tN (p % 3), tR ((p + 1) % 6) []])) ρ) : E3__law_known ρ kk := by
  unfold E3__law_known
  simp only [mTup, mCons, mNil, mPure, mVar, mBin, e]
  refine modN (b := 3) (by decide) ⟨len_line (by simp), ?_⟩
  show addD (.int (p : Nat)) (.int 1) _
  rw [addD_ii]
  refine modN (a := p + 1) (b := 6) (by decide) ?_
  exact ⟨len_line (by simp), len_line (by simp), len_line (by simp), len_line (by simp), q⟩
theorem kn4 {ρ : List Slot} {p : Nat} {kk : DL.D → List Slot → Prop} (e : ρ[13]? = some (.dat (natD p))) (q : kk (bD (0, tO 0 [tN 1, tR ((p + 1) % 12) []])) ρ) : E4__law_known ρ kk := by
  unfold E4__law_known
  simp only [mTup, mCons, mNil, mPure, mVar, mBin, e]
  refine ⟨len_line (by simp), ?_⟩
  show addD (.int (p : Nat)) (.int 1) _
  rw [addD_ii]
  refine modN (a := p + 1) (b := 12) (by decide) ?_
  exact ⟨len_line (by simp), len_line (by simp), len_line (by simp), len_line (by simp), q⟩
theorem app_step {m : M DL.D} {rest : SMon} {K : SK} {ρ ρ' : List Slot} {acc : List DL.D} {d : DL.D} (h4 : ρ[4]? = some (.own false acc)) (h4' : ρ'[4]? = some (.own false acc)) (hl : acc.length ≤ 100) (hm : ∀ kk : DL.D → List Slot → Prop, kk d ρ' → m ρ kk) (q : rest K (ρ'.set 4 (.own false (acc ++ [d])))) : sSeq (sDrop (mAppend 4 m)) rest K ρ := by
  show mAppend 4 m ρ fun _ ρ1 => rest K ρ1
  unfold mAppend withOwn
  rw [h4]
  refine hm _ ?_
  dsimp only
  rw [h4']
  exact ⟨Nat.lt_of_le_of_lt hl (len_line (n := 101) (by decide)), q⟩

/-! ### who says the same among bodies written down: by labels -/
section
variable {β : Type} [DecidableEq β]
/-- the first place with the same key -/
def firstOf (n : Nat) (key : Nat → β) (i : Nat) : Nat := (List.range n).findIdx fun j => decide (key j = key i)
theorem firstOf_iff {n : Nat} {key : Nat → β} {i j : Nat} (hi : i < n) (hj : j < n) : firstOf n key i = firstOf n key j ↔ key i = key j := by
  have spec : ∀ i, i < n → firstOf n key i < n ∧ key (firstOf n key i) = key i := by
    intro i hi
    have hl : firstOf n key i < (List.range n).length := List.findIdx_lt_length_of_exists ⟨i, List.mem_range.mpr hi, by simp⟩
    have hg : ∀ h, decide (key ((List.range n)[firstOf n key i]'h) = key i) = true := fun h => List.findIdx_getElem (xs := List.range n) (p := fun j => decide (key j = key i)) (w := h)
    have h2 := hg hl
    rw [List.getElem_range] at h2
    rw [List.length_range] at hl
    exact ⟨hl, by simpa using h2⟩
  constructor
  · intro h
    rw [← (spec i hi).2, ← (spec j hj).2, h]
  · intro h
    unfold firstOf
    rw [h]
end
def lab {α : Type} [DecidableEq α] (n : Nat) (tx : Nat → α) (row : Nat → List Nat) : Nat → List Nat
  | 0 => (List.range n).map (firstOf n tx)
  | t + 1 => (List.range n).map (firstOf n fun i => ((lab n tx row t).getD i 0, (row i).map fun c => (lab n tx row t).getD c 0))
theorem lab_len {α : Type} [DecidableEq α] {n : Nat} {tx : Nat → α} {row : Nat → List Nat} : ∀ t, (lab n tx row t).length = n
  | 0 => by rw [lab, List.length_map, List.length_range]
  | t + 1 => by rw [lab, List.length_map, List.length_range]
theorem lab_get {n : Nat} {f : Nat → Nat} {i : Nat} (h : i < n) : ((List.range n).map f).getD i 0 = f i := by
  rw [List.getD_eq_getElem?_getD, List.getElem?_map, List.getElem?_range h]; rfl
theorem lab_same {α : Type} [DecidableEq α] {n : Nat} {tx : Nat → α} {row : Nat → List Nat} (hn : ∀ p, p < n → ∀ a ∈ row p, a < n) :
    ∀ (t i j : Nat), i < n → j < n → ((lab n tx row t).getD i 0 = (lab n tx row t).getD j 0 ↔ Same tx row t i j)
  | 0, i, j, hi, hj => by
    rw [lab, lab_get hi, lab_get hj, firstOf_iff hi hj]
    exact Iff.rfl
  | t + 1, i, j, hi, hj => by
    have ih := lab_same (tx := tx) hn t
    rw [lab, lab_get hi, lab_get hj, firstOf_iff hi hj, Prod.mk.injEq]
    refine and_congr (ih i j hi hj) ⟨fun h => ?_, fun h => ?_⟩
    · have hl : (row i).length = (row j).length := by have := congrArg List.length h; simpa using this
      refine ⟨hl, fun k a b ea eb => ?_⟩
      have := congrArg (fun l => l[k]?) h
      rw [List.getElem?_map, List.getElem?_map, ea, eb] at this
      exact (ih a b (hn i hi a (List.mem_of_getElem? ea)) (hn j hj b (List.mem_of_getElem? eb))).mp (by simpa using this)
    · refine List.ext_getElem? fun k => ?_
      rw [List.getElem?_map, List.getElem?_map]
      by_cases hk : k < (row i).length
      · have hk' : k < (row j).length := by rw [← h.1]; exact hk
        rw [List.getElem?_eq_getElem hk, List.getElem?_eq_getElem hk']
        have := (ih _ _ (hn i hi _ (List.getElem_mem hk)) (hn j hj _ (List.getElem_mem hk'))).mpr (h.2 k _ _ (List.getElem?_eq_getElem hk) (List.getElem?_eq_getElem hk'))
        simpa using this
      · rw [List.getElem?_eq_none (by omega), List.getElem?_eq_none (by rw [← h.1]; omega)]
def keyB (b : Bdy) : Option Str := some (btxt b)
/-- letters by which the known ones are told -/
def RightC (c : List Bdy × Str) : Bool :=
  decide (c.2.cps.size = c.1.length) && ((List.range c.1.length).all fun p => (rowOf c.1 p).all fun a => decide (a < c.1.length)) &&
  ((List.range c.1.length).all fun i => (List.range c.1.length).all fun j =>
    decide ((lab c.1.length (txOf c.1) (rowOf c.1) c.1.length).getD i 0 = (lab c.1.length (txOf c.1) (rowOf c.1) c.1.length).getD j 0) == decide (c.2.cps[i]? = c.2.cps[j]?))
theorem known_right0 : (known.all RightC) = true := by decide +kernel

/-! ### the first place of a sign in a text -/
section
open Builtin Builtin.Str PySem.StrLaws
theorem occ_keep1 (s sub : Str) (hi : Nat) : ∀ (l : List Nat) (st : Array Nat × Nat), 1 ≤ st.fst.size → (forIn l st (occBody s sub hi 1)).run.fst = st.fst
  | [], st, h => rfl
  | a :: l, st, h => by
    rw [List.forIn_cons]
    unfold occBody
    rw [if_neg (fun c => by have := c.1.1.1; omega)]
    exact occ_keep1 s sub hi l _ h
theorem occ_find1 (s sub : Str) (hi i : Nat) (h1 : i + sub.length ≤ hi) (h2 : subAt s sub i = true) : ∀ (m a : Nat), a ≤ i → i < a + m → (∀ j, a ≤ j → j < i → subAt s sub j = false) →
    (forIn (List.range' a m) ((#[] : Array Nat), 0) (occBody s sub hi 1)).run.fst = #[i]
  | 0, a, h3, h4, _ => by omega
  | m + 1, a, h3, h4, h5 => by
    rw [List.range'_succ, List.forIn_cons]
    unfold occBody
    by_cases e : a = i
    · subst e
      rw [if_pos ⟨⟨⟨by simp, Nat.zero_le _⟩, h1⟩, h2⟩]
      exact occ_keep1 s sub hi _ _ (by simp)
    · rw [if_neg (fun c => by have := h5 a (Nat.le_refl a) (by omega); rw [this] at c; exact absurd c.2 (by simp))]
      exact occ_find1 s sub hi i h1 h2 m (a + 1) (by omega) (by omega) fun j hj hj' => h5 j (by omega) hj'
theorem occ_first {z : Str} {c i : Nat} (h : z.cps.toList[i]? = some c) (h' : ∀ j, j < i → z.cps.toList[j]? ≠ some c) : occurrences z ⟨#[c]⟩ 0 z.length 1 = [i] := by
  have hi : i < z.length := by have := (List.getElem?_eq_some_iff.mp h).1; rw [Array.length_toList] at this; exact this
  rw [occ_eq, occ_find1 z ⟨#[c]⟩ z.length i (by show i + 1 ≤ _; omega) ((subAt_one z c i).mpr h).2 _ 0 (by omega) (by omega) fun j _ hj => by
    cases q : subAt z ⟨#[c]⟩ j with
    | false => rfl
    | true => exact absurd ((subAt_one z c j).mp ⟨by show j + 1 ≤ _; omega, q⟩) (h' j hj)]
end
theorem index_first {z : Str} {c i : Nat} {k : DL.D → Prop} (h : z.cps.toList[i]? = some c) (h' : ∀ j, j < i → z.cps.toList[j]? ≠ some c) (q : k (natD i)) : indexD z [.str ⟨#[c]⟩] k := by
  rw [indexD_s]
  exact ⟨i, [], occ_first h h', q⟩
/-! ### the first places of numbers and of letters -/
def fst_ {α : Type} [DecidableEq α] (xs : List α) (x : α) : Nat := xs.findIdx fun y => decide (y = x)
theorem fst_get {α : Type} [DecidableEq α] {xs : List α} {x : α} (h : x ∈ xs) : xs[fst_ xs x]? = some x := by
  have hl : fst_ xs x < xs.length := List.findIdx_lt_length_of_exists ⟨x, h, by simp⟩
  rw [List.getElem?_eq_getElem hl]
  have := List.findIdx_getElem (xs := xs) (p := fun y => decide (y = x)) (w := hl)
  rw [decide_eq_true_eq] at this
  exact congrArg some this
theorem fst_not {α : Type} [DecidableEq α] {xs : List α} {x : α} {j : Nat} (h : j < fst_ xs x) : xs[j]? ≠ some x := by
  intro e
  have := List.not_of_lt_findIdx (p := fun y => decide (y = x)) h
  obtain ⟨hj, e2⟩ := List.getElem?_eq_some_iff.mp e
  rw [e2] at this
  simp at this
theorem fst_eq {α β : Type} [DecidableEq α] [DecidableEq β] {xs : List α} {ys : List β} (hl : xs.length = ys.length) (h : ∀ (i j : Nat) (a b : α) (c d : β), xs[i]? = some a → xs[j]? = some b → ys[i]? = some c → ys[j]? = some d → (a = b ↔ c = d)) :
    xs.map (fst_ xs) = ys.map (fst_ ys) := by
  refine List.ext_getElem? fun i => ?_
  rw [List.getElem?_map, List.getElem?_map]
  by_cases hi : i < xs.length
  · have hi' : i < ys.length := by omega
    rw [List.getElem?_eq_getElem hi, List.getElem?_eq_getElem hi']
    show some _ = some _
    congr 1
    have key : ∀ j, j < xs.length → (xs[j]? = some xs[i] ↔ ys[j]? = some ys[i]) := by
      intro j hj
      have hj' : j < ys.length := by omega
      rw [List.getElem?_eq_getElem hj, List.getElem?_eq_getElem hj', Option.some.injEq, Option.some.injEq]
      exact h j i _ _ _ _ (List.getElem?_eq_getElem hj) (List.getElem?_eq_getElem hi) (List.getElem?_eq_getElem hj') (List.getElem?_eq_getElem hi')
    have g1 := fst_get (List.getElem_mem hi)
    have g2 := fst_get (List.getElem_mem hi')
    have l1 := (List.getElem?_eq_some_iff.mp g1).1
    have l2 := (List.getElem?_eq_some_iff.mp g2).1
    rcases Nat.lt_trichotomy (fst_ xs xs[i]) (fst_ ys ys[i]) with c | c | c
    · exact absurd ((key _ l1).mp g1) (fst_not c)
    · exact c
    · exact absurd ((key _ (by omega)).mpr g2) (fst_not c)
  · rw [List.getElem?_eq_none (by omega), List.getElem?_eq_none (by omega)]
    rfl
/-! ### bodies in another order -/
mutual
theorem put_bare : ∀ (t : Te) (q : List Nat), (t.put q).bare = t.bare
  | .node (.num n) ps, q => by unfold Te.put Te.bare; rw [puts_bare ps]
  | .node (.arg n) ps, q => by unfold Te.put Te.bare; rw [puts_bare ps]
  | .node (.op n) ps, q => by unfold Te.put Te.bare; rw [puts_bare ps]
  | .node (.call n) ps, q => by unfold Te.put Te.bare; rw [puts_bare ps]
  | .node (.ring n) ps, q => by unfold Te.put Te.bare; rw [puts_bare ps]; rfl
theorem puts_bare : ∀ (ts : List Te) (q : List Nat), Te.bares (Te.puts ts q) = Te.bares ts
  | [], q => by rw [Te.puts]
  | t :: ts, q => by rw [Te.puts, Te.bares, Te.bares, put_bare t, puts_bare ts]
end
theorem bare_h {h : Hed} {ps : List Te} : Te.bare (.node h ps) = .node h.bare (Te.bares ps) := by rw [Te.bare]
mutual
theorem put_places : ∀ (t : Te) (q : List Nat), q.length = t.places.length → (t.put q).places = q
  | .node (.num n) ps, q, h => by unfold Te.put Te.places at *; exact puts_places ps q h
  | .node (.arg n) ps, q, h => by unfold Te.put Te.places at *; exact puts_places ps q h
  | .node (.op n) ps, q, h => by unfold Te.put Te.places at *; exact puts_places ps q h
  | .node (.call n) ps, q, h => by unfold Te.put Te.places at *; exact puts_places ps q h
  | .node (.ring n) ps, q, h => by
    unfold Te.put Te.places at *
    cases q with
    | nil => simp at h
    | cons a q => rw [List.tail_cons, puts_places ps q (by simpa using h)]; rfl
theorem puts_places : ∀ (ts : List Te) (q : List Nat), q.length = (Te.placess ts).length → Te.placess (Te.puts ts q) = q
  | [], q, h => by
    have : q = [] := List.eq_nil_of_length_eq_zero h
    subst this
    rfl
  | t :: ts, q, h => by
    rw [Te.placess, List.length_append] at h
    rw [Te.puts, Te.placess, put_places t _ (by rw [List.length_take]; omega), puts_places ts _ (by rw [List.length_drop]; omega), List.take_append_drop]
end
theorem puts_len : ∀ (ts : List Te) (q : List Nat), (Te.puts ts q).length = ts.length := puts_dats
mutual
theorem put_deep : ∀ (t : Te) (q : List Nat), (t.put q).deep = t.deep
  | .node (.num n) ps, q => by unfold Te.put Te.deep; rw [puts_deep ps]
  | .node (.arg n) ps, q => by unfold Te.put Te.deep; rw [puts_deep ps]
  | .node (.op n) ps, q => by unfold Te.put Te.deep; rw [puts_deep ps]
  | .node (.call n) ps, q => by unfold Te.put Te.deep; rw [puts_deep ps]
  | .node (.ring n) ps, q => by unfold Te.put Te.deep; rw [puts_deep ps]
theorem puts_deep : ∀ (ts : List Te) (q : List Nat), Te.deeps (Te.puts ts q) = Te.deeps ts
  | [], q => by rw [Te.puts]
  | t :: ts, q => by rw [Te.puts, Te.deeps, Te.deeps, put_deep t, puts_deep ts]
end
mutual
theorem put_ok : ∀ (t : Te) (q : List Nat), t.Ok → (∀ x ∈ q, x ≤ 11) → (t.put q).Ok
  | .node h ps, q, o, hq => by
    have oo := o.all
    have ff := o.fit
    have hs : ∀ q', (∀ x ∈ q', x ≤ 11) → ∀ p ∈ Te.puts ps q', p.Ok := fun q' h' => puts_ok ps q' oo h'
    cases h with
    | ring p =>
      unfold Te.put
      refine .mk ⟨?_, by rw [puts_len]; exact ff.2⟩ (hs _ fun x hx => hq x (List.mem_of_mem_tail hx))
      cases q with
      | nil => exact Nat.zero_le _
      | cons a q => exact hq a (by simp)
    | num n => unfold Te.put; exact .mk (by rw [puts_len]; exact ff) (hs q hq)
    | arg n => unfold Te.put; exact .mk (by rw [puts_len]; exact ff) (hs q hq)
    | op n => unfold Te.put; exact .mk (by rw [puts_len]; exact ff) (hs q hq)
    | call n => unfold Te.put; exact .mk (by rw [puts_len]; exact ff) (hs q hq)
theorem puts_ok : ∀ (ts : List Te) (q : List Nat), (∀ t ∈ ts, t.Ok) → (∀ x ∈ q, x ≤ 11) → ∀ p ∈ Te.puts ts q, p.Ok
  | [], q, _, _, p, hp => by rw [Te.puts] at hp; cases hp
  | t :: ts, q, o, hq, p, hp => by
    rw [Te.puts] at hp
    rcases List.mem_cons.mp hp with rfl | hp
    · exact put_ok t _ (o t (by simp)) fun x hx => hq x (List.mem_of_mem_take hx)
    · exact puts_ok ts _ (fun t ht => o t (by simp [ht])) (fun x hx => hq x (List.mem_of_mem_drop hx)) p hp
end

/-! ### what a meaning without draws comes to -/
def Ev {α : Type} (m : M α) (ρ : List Slot) (a : α) (ρ' : List Slot) : Prop := ∀ k : α → List Slot → Prop, k a ρ' → m ρ k
section
variable {α : Type} {ρ ρ1 ρ2 ρ3 : List Slot} {d : DL.D} {ds : List DL.D} {i : Nat} {m m1 : M DL.D} {ms : M (List DL.D)}
theorem Ev.pure {a : α} : Ev (mPure a) ρ a ρ := fun _ q => q
theorem Ev.var (h : ρ[i]? = some (.dat d)) : Ev (mVar i) ρ d ρ := fun k q => by unfold mVar; rw [h]; exact q
theorem Ev.varO (h : ρ[i]? = some (.own false ds)) : Ev (mVar i) ρ (.list ds) (ρ.set i (.dat (.list ds))) := fun k q => by unfold mVar; rw [h]; exact q
theorem Ev.nil : Ev mNil ρ [] ρ := fun _ q => q
theorem Ev.cons (h : Ev m ρ d ρ1) (hs : Ev ms ρ1 ds ρ2) : Ev (mCons m ms) ρ (d :: ds) ρ2 := fun k q => h _ (hs _ q)
theorem Ev.tup (h : Ev ms ρ ds ρ1) (hl : ds.length ≤ 100) : Ev (mTup ms) ρ (.tuple ds) ρ1 := fun k q => h _ ⟨len_line (by omega), q⟩
theorem Ev.len (h : Ev ms ρ ds ρ1) (hl : ds.length ≤ 100) : Ev (mLen ms) ρ ds ρ1 := fun k q => h _ ⟨len_line (by omega), q⟩
theorem Ev.list (h : Ev ms ρ ds ρ1) : Ev (mList ms) ρ (.list ds) ρ1 := fun k q => h _ q
theorem Ev.ixL {j : Int} (h : Ev m ρ (.list ds) ρ1) (h1 : Ev m1 ρ1 (.int j) ρ2) (e : atI ds j = some d) : Ev (mBin ixD m m1) ρ d ρ2 := fun k q => h _ (h1 _ ⟨d, e, q⟩)
theorem Ev.ixT {j : Int} (h : Ev m ρ (.tuple ds) ρ1) (h1 : Ev m1 ρ1 (.int j) ρ2) (e : atI ds j = some d) : Ev (mBin ixD m m1) ρ d ρ2 := fun k q => h _ (h1 _ ⟨d, e, q⟩)
theorem Ev.addL {es : List DL.D} (h : Ev m ρ (.list ds) ρ1) (h1 : Ev m1 ρ1 (.list es) ρ2) (hl : ds.length + es.length ≤ 100) : Ev (mBin addD m m1) ρ (.list (ds ++ es)) ρ2 := fun k q => h _ (h1 _ ⟨len_line (by omega), q⟩)
theorem Ev.cut {n : Int} {es : List DL.D} (h : Ev m ρ (.list ds) ρ1) (e : cutL ds none (some n) = es) : Ev (mSl m (mPure none) (mSome (mPure (.int n)))) ρ (.list es) ρ1 := fun k q => h _ (by rw [← e] at q; exact q)
theorem set_step {rest : SMon} {K : SK} (h : Ev m ρ d ρ1) (q : rest K (ρ1.set i (.dat d))) : sSeq (sSet i m) rest K ρ := h _ q
theorem setN_step {rest : SMon} {K : SK} (h : Ev ms ρ ds ρ1) (q : rest K (ρ1.set i (.own false ds))) : sSeq (sSetN i ms) rest K ρ := h _ q
theorem append_step {acc : List DL.D} {rest : SMon} {K : SK} (h4 : ρ[i]? = some (.own false acc)) (h : Ev m ρ d ρ1) (h4' : ρ1[i]? = some (.own false acc)) (hl : acc.length ≤ 100) (q : rest K (ρ1.set i (.own false (acc ++ [d])))) : sSeq (sDrop (mAppend i m)) rest K ρ := by
  show mAppend i m ρ fun _ ρ1 => rest K ρ1
  unfold mAppend withOwn
  rw [h4]
  refine h _ ?_
  dsimp only
  rw [h4']
  exact ⟨Nat.lt_of_le_of_lt hl (len_line (n := 101) (by decide)), q⟩
end
theorem lc_ev {α : Type} {te : M DL.D} {v : Nat} {ρ : List Slot} {mi : M (List DL.D)} {ρ1 : List Slot} (dat f : α → DL.D) (xs : List α) (hi : Ev mi ρ (xs.map dat) ρ1) (hv : ρ1.set v .non = ρ1) (hn : xs.length ≤ 1000) (h : ∀ x ∈ xs, Ev te (ρ1.set v (.dat (dat x))) (f x) (ρ1.set v (.dat (dat x)))) : Ev (mLc mi (gVar v) (mPure true) te [v]) ρ (xs.map f) ρ1 := fun k q => by
  refine hi _ ?_
  show lcLoop _ _ _ _ _ _ _ (ρ1.set v .non)
  rw [hv]
  exact lc_map (ρ := ρ1) hv dat f xs [] (by simp only [List.length_nil]; omega) (fun x hx kk h' => h x hx kk h') (by simpa using q)
theorem rng_ev {n : Nat} {ρ : List Slot} (hn : n ≤ 1000) : Ev (mRng1 (mCons (mPure (.int (n : Nat))) mNil)) ρ ((List.range n).map natD) ρ := fun k q => by
  refine ⟨by omega, by omega, ?_⟩
  have e : rngD 0 ((n : Int)).toNat = (List.range n).map natD := by
    unfold rngD
    rw [Int.toNat_natCast]
    refine List.map_congr_left fun x _ => ?_
    rw [Int.zero_add]; rfl
  rw [e]
  exact q

local macro_rules | `(tactic| walk_at "evs") => `(tactic| repeat (first | exact Ev.pure | exact Ev.var rfl | exact Ev.varO rfl | exact Ev.nil | apply Ev.cons | apply Ev.tup | apply Ev.len | apply Ev.list | (focus (show _ ≤ _; decide)) | (focus (show _ ≤ _; simp))))
def dUp : DL.D := (tA 0).dat
def dStep : DL.D := stepT.dat
def dEven : DL.D := (tO 4 [tA 0, tR 1 [stepT], tN 1]).dat
def dOdd : DL.D := (tO 4 [tA 0, tR 0 [stepT], tN 0]).dat
def dDeep (n : Nat) : DL.D := (deepT n).dat
theorem known_spec {k : Bool → DL.D → Prop} (q : ∀ b, k b (.list (known.map knD))) : W__law_known [] k := by
  unfold W__law_known m__law_known fnS
  apply set_step (d := dUp)
  · walk_at "evs"
  apply set_step (d := dStep)
  · walk_at "evs"
  apply set_step (d := dEven)
  · walk_at "evs"
  apply set_step (d := dOdd)
  · walk_at "evs"
  apply setN_step (ds := [knD (kEO, "ab")])
  · walk_at "evs"
  refine' setN_step (lc_ev natD (fun p => bD (0, tO 0 [tN 1, tR p []])) [1, 0, 2] (fun k q => ⟨len_line (by decide), q⟩) rfl (by decide) (fun p _ kk h => kn1 rfl h)) ?_
  apply append_step (d := knD (kOne, "aaa"))
  · rfl
  · walk_at "evs"
  · rfl
  · decide
  refine' setN_step (lc_ev natD (fun p => bD (0, tO 0 [tN (p % 2), tR ((p + 1) % 6) []])) (List.range 6) (rng_ev (by decide)) rfl (by decide) (fun p _ kk h => kn2 rfl h)) ?_
  apply append_step (d := knD (kSix 2, "ababab"))
  · rfl
  · walk_at "evs"
  · rfl
  · decide
  apply append_step (d := knD (kSix 3, "abcabc"))
  · rfl
  · apply Ev.tup
    · apply Ev.cons
      · exact Ev.list (lc_ev natD (fun p => bD (0, tO 0 [tN (p % 3), tR ((p + 1) % 6) []])) (List.range 6) (rng_ev (by decide)) rfl (by decide) (fun p _ kk h => kn3 rfl h))
      · walk_at "evs"
    · decide
  · rfl
  · decide
  apply append_step (d := knD ((kSix 2).take 5 ++ [kLast 2], "abcdef"))
  · rfl
  · apply Ev.tup
    · apply Ev.cons
      · exact Ev.addL (ds := ((kSix 2).take 5).map bD) (es := [bD (kLast 2)]) (Ev.cut (Ev.var rfl) rfl) (by walk_at "evs") (by decide)
      · walk_at "evs"
    · decide
  · rfl
  · decide
  apply append_step (d := knD (kCall, "aba"))
  · rfl
  · walk_at "evs"
  · rfl
  · decide
  apply set_step (d := dDeep 4)
  · walk_at "evs"
  apply set_step (d := dDeep 5)
  · walk_at "evs"
  apply append_step (d := knD (kDeep, "abca"))
  · rfl
  · walk_at "evs"
  · rfl
  · decide
  apply setN_step (ds := [(tR 2 []).dat, (tR 3 []).dat])
  · walk_at "evs"
  apply setN_step (ds := (kTwo 2).map bD)
  · apply Ev.len
    · apply Ev.cons
      · exact Ev.tup (Ev.cons Ev.pure (Ev.cons (Ev.tup (Ev.cons Ev.pure (Ev.cons (Ev.ixL (Ev.varO rfl) Ev.pure rfl) (Ev.cons (Ev.ixL (Ev.var rfl) Ev.pure rfl) Ev.nil))) (by decide)) Ev.nil)) (by decide)
      · apply Ev.cons
        · exact Ev.tup (Ev.cons Ev.pure (Ev.cons (Ev.tup (Ev.cons Ev.pure (Ev.cons (Ev.ixL (Ev.var rfl) Ev.pure rfl) (Ev.cons (Ev.ixL (Ev.var rfl) Ev.pure rfl) Ev.nil))) (by decide)) Ev.nil)) (by decide)
        · walk_at "evs"
    · decide
  apply append_step (d := knD (kTwo 2, "abcd"))
  · rfl
  · walk_at "evs"
  · rfl
  · decide
  apply append_step (d := knD (kTwo 1, "aabb"))
  · rfl
  · apply Ev.tup
    · apply Ev.cons
      · exact Ev.addL (ds := ((kTwo 2).take 3).map bD) (es := [bD (0, tN 1)]) (Ev.cut (Ev.var rfl) rfl) (by walk_at "evs") (by decide)
      · walk_at "evs"
    · decide
  · rfl
  · decide
  refine' setN_step (lc_ev natD (fun p => bD (0, tO 0 [tN 1, tR ((p + 1) % 12) []])) (List.range 12) (rng_ev (by decide)) rfl (by decide) (fun p _ kk h => kn4 rfl h)) ?_
  apply append_step (d := knD (kTwelve, "aaaaaaaaaaaa"))
  · rfl
  · walk_at "evs"
  · rfl
  · decide
  apply append_step (d := knD (kTwelve.take 11 ++ [kLast 2], "abcdefghijkl"))
  · rfl
  · apply Ev.tup
    · apply Ev.cons
      · exact Ev.addL (ds := (kTwelve.take 11).map bD) (es := [bD (kLast 2)]) (Ev.cut (Ev.var rfl) rfl) (by walk_at "evs") (by decide)
      · walk_at "evs"
    · decide
  · rfl
  · decide
  exact q true

/-! ### the known ones in another order -/
def Hed.okb (k : Nat) : Hed → Bool
  | .num n => decide (n ≤ 1000002) && decide (k = 0)
  | .arg n => decide (n < 4) && decide (k = 0)
  | .op w => decide (w < 5) && decide (k = if w = 4 then 3 else 2)
  | .call m => decide (m.length = 6) && (m.all fun i => decide (i < 36)) && decide (k ≤ 4)
  | .ring p => decide (p ≤ 11) && decide (k ≤ 4)
theorem hokb_fit {k : Nat} {h : Hed} (o : h.okb k = true) : h.fit k := by
  cases h with
  | num n => simp only [Hed.okb, Bool.and_eq_true, decide_eq_true_eq] at o; exact o
  | arg n => simp only [Hed.okb, Bool.and_eq_true, decide_eq_true_eq] at o; exact o
  | op n => simp only [Hed.okb, Bool.and_eq_true, decide_eq_true_eq] at o; exact o
  | call m => simp only [Hed.okb, Bool.and_eq_true, decide_eq_true_eq, List.all_eq_true] at o; exact ⟨o.1.1, o.1.2, o.2⟩
  | ring p => simp only [Hed.okb, Bool.and_eq_true, decide_eq_true_eq] at o; exact o
mutual
def Te.okb : Te → Bool
  | .node h ps => h.okb ps.length && Te.okbs ps
def Te.okbs : List Te → Bool
  | [] => true
  | t :: ts => t.okb && Te.okbs ts
end
mutual
theorem okb_ok : ∀ (t : Te), t.okb = true → t.Ok
  | .node h ps, o => by
    rw [Te.okb, Bool.and_eq_true] at o
    exact .mk (hokb_fit o.1) (okbs_ok ps o.2)
theorem okbs_ok : ∀ (ts : List Te), Te.okbs ts = true → ∀ p ∈ ts, p.Ok
  | [], _, p, hp => by cases hp
  | t :: ts, o, p, hp => by
    rw [Te.okbs, Bool.and_eq_true] at o
    rcases List.mem_cons.mp hp with e | hp
    · rw [e]; exact okb_ok t o.1
    · exact okbs_ok ts o.2 p hp
end
def ltr (c : List Bdy × Str) : List Nat := c.2.cps.toList.map (· - 87)
def OkC (c : List Bdy × Str) : Bool := decide (c.2 = T (ltr c)) && ((ltr c).all fun i => decide (i < 43)) && decide ((ltr c).length = c.1.length) && decide (1 ≤ c.1.length) && decide (c.1.length ≤ 12) &&
  c.1.all fun b => decide (b.1 ≤ 4) && b.2.okb && decide (b.2.deep ≤ 8) && b.2.places.all fun p => decide (p < c.1.length)
theorem known_ok0 : (known.all OkC) = true := by decide +kernel
def FewC (c : List Bdy × Str) : Bool := c.1.all fun b => decide (b.2.places.length ≤ 100)
theorem known_few0 : (known.all FewC) = true := by decide +kernel
def RightL (c : List Bdy × Str) : Bool := (List.range c.1.length).all fun i => (List.range c.1.length).all fun j =>
    decide ((lab c.1.length (txOf c.1) (rowOf c.1) c.1.length).getD i 0 = (lab c.1.length (txOf c.1) (rowOf c.1) c.1.length).getD j 0) == decide ((ltr c).getD i 0 = (ltr c).getD j 0)
theorem known_right1 : (known.all RightL) = true := by decide +kernel
structure Kn (bs : List Bdy) (ls : List Nat) : Prop where
  low : ∀ i ∈ ls, i < 43
  len : ls.length = bs.length
  one : 1 ≤ bs.length
  most : bs.length ≤ 12
  ok : ∀ b ∈ bs, b.1 ≤ 4 ∧ b.2.Ok ∧ b.2.deep ≤ 8 ∧ ∀ p ∈ b.2.places, p < bs.length
  few : ∀ b ∈ bs, b.2.places.length ≤ 100
  same : ∀ i j, i < bs.length → j < bs.length → (Same (txOf bs) (rowOf bs) bs.length i j ↔ ls.getD i 0 = ls.getD j 0)
theorem known_kn {c : List Bdy × Str} (h : c ∈ known) : c.2 = T (ltr c) ∧ Kn c.1 (ltr c) := by
  have h1 := List.all_eq_true.mp known_ok0 c h
  have h2 := List.all_eq_true.mp known_right1 c h
  unfold OkC at h1
  unfold RightL at h2
  simp only [Bool.and_eq_true, decide_eq_true_eq, List.all_eq_true] at h1
  have okk : ∀ b ∈ c.1, b.1 ≤ 4 ∧ b.2.Ok ∧ b.2.deep ≤ 8 ∧ ∀ p ∈ b.2.places, p < c.1.length := fun b hb => by
    have := h1.2 b hb
    exact ⟨this.1.1.1, okb_ok _ this.1.1.2, this.1.2, this.2⟩
  refine ⟨h1.1.1.1.1.1, h1.1.1.1.1.2, h1.1.1.1.2, h1.1.1.2, h1.1.2, okk, fun b hb => of_decide_eq_true (List.all_eq_true.mp (List.all_eq_true.mp known_few0 c h) b hb), fun i j hi hj => ?_⟩
  have hn : ∀ p, p < c.1.length → ∀ a ∈ rowOf c.1 p, a < c.1.length := fun p hp a ha => by
    unfold rowOf at ha
    rw [List.getElem?_eq_getElem hp] at ha
    exact (okk _ (List.getElem_mem hp)).2.2.2 a ha
  rw [← lab_same hn c.1.length i j hi hj]
  have := List.all_eq_true.mp (List.all_eq_true.mp h2 i (List.mem_range.mpr hi)) j (List.mem_range.mpr hj)
  rw [beq_iff_eq, decide_eq_decide] at this
  exact this
def b0 : Bdy := (0, tN 0)
def mvB (fs : List Nat) (b : Bdy) : Bdy := (b.1, b.2.put (b.2.places.map (fst_ fs)))
def mv (bs : List Bdy) (fs : List Nat) : List Bdy := fs.map fun o => mvB fs (bs.getD o b0)
theorem btxt_mv {fs : List Nat} {b : Bdy} : btxt (mvB fs b) = btxt b := by
  unfold btxt mvB
  dsimp only
  rw [put_bare]
theorem places_mv {fs : List Nat} {b : Bdy} : (mvB fs b).2.places = b.2.places.map (fst_ fs) := put_places _ _ (by rw [List.length_map])
section
variable {bs : List Bdy} {ls fs : List Nat}
theorem perm_lt (hp : fs.Perm (List.range bs.length)) {o : Nat} (h : o ∈ fs) : o < bs.length := List.mem_range.mp (hp.mem_iff.mp h)
theorem perm_in (hp : fs.Perm (List.range bs.length)) {o : Nat} (h : o < bs.length) : o ∈ fs := hp.mem_iff.mpr (List.mem_range.mpr h)
theorem perm_len (hp : fs.Perm (List.range bs.length)) : fs.length = bs.length := by rw [hp.length_eq, List.length_range]
theorem getD_mem {o : Nat} (h : o < bs.length) : bs.getD o b0 ∈ bs := by
  rw [List.getD_eq_getElem?_getD, List.getElem?_eq_getElem h]; exact List.getElem_mem h
theorem mv_len : (mv bs fs).length = fs.length := by unfold mv; rw [List.length_map]
theorem fst_lt {x : Nat} (h : x ∈ fs) : fst_ fs x < fs.length := (List.getElem?_eq_some_iff.mp (fst_get h)).1
theorem mv_fits (K : Kn bs ls) (hp : fs.Perm (List.range bs.length)) : Fits (mv bs fs) := by
  have hl := perm_len hp
  refine ⟨by rw [mv_len, hl]; have := K.most; omega, fun b hb => ?_⟩
  obtain ⟨o, ho, rfl⟩ := List.mem_map.mp hb
  have kk := K.ok _ (getD_mem (perm_lt hp ho))
  have pl : ∀ p ∈ (mvB fs (bs.getD o b0)).2.places, p < bs.length := fun p hq => by
    rw [places_mv] at hq
    obtain ⟨x, hx, rfl⟩ := List.mem_map.mp hq
    have := fst_lt (perm_in hp (kk.2.2.2 x hx))
    omega
  refine ⟨kk.1, put_ok _ _ kk.2.1 fun x hx => ?_, by show Te.deep (Te.put _ _) ≤ 8; rw [put_deep]; exact kk.2.2.1, fun p hq => by rw [mv_len, hl]; exact pl p hq⟩
  obtain ⟨y, hy, rfl⟩ := List.mem_map.mp hx
  have := fst_lt (perm_in hp (kk.2.2.2 y hy))
  have := K.most
  omega
theorem mv_get (hp : fs.Perm (List.range bs.length)) {p : Nat} (h : p < bs.length) : (mv bs fs)[p]? = some (mvB fs (bs.getD (fs.getD p 0) b0)) := by
  unfold mv
  have hl := perm_len hp
  rw [List.getElem?_map, List.getElem?_eq_getElem (by omega), List.getD_eq_getElem?_getD (l := fs), List.getElem?_eq_getElem (by omega)]
  rfl
theorem fs_lt (hp : fs.Perm (List.range bs.length)) {p : Nat} (h : p < bs.length) : fs.getD p 0 < bs.length := by
  have hl := perm_len hp
  rw [List.getD_eq_getElem?_getD, List.getElem?_eq_getElem (by omega)]
  exact perm_lt hp (List.getElem_mem _)
theorem mv_same (K : Kn bs ls) (hp : fs.Perm (List.range bs.length)) {p q : Nat} (h1 : p < bs.length) (h2 : q < bs.length) :
    Same (txOf (mv bs fs)) (rowOf (mv bs fs)) bs.length p q ↔ ls.getD (fs.getD p 0) 0 = ls.getD (fs.getD q 0) 0 := by
  rw [← K.same _ _ (fs_lt hp h1) (fs_lt hp h2)]
  have get : ∀ o, o < bs.length → bs[o]? = some (bs.getD o b0) := fun o ho => by rw [List.getD_eq_getElem?_getD, List.getElem?_eq_getElem ho]; rfl
  refine same_moved (f := fun p => fs.getD p 0) (n := bs.length) (fun p h => ?_) (fun p h => ?_) (fun p h a ha => ?_) bs.length p q h1 h2
  · unfold txOf
    rw [mv_get hp h, get _ (fs_lt hp h)]
    show some _ = some _
    rw [btxt_mv]
  · unfold rowOf
    rw [mv_get hp h, get _ (fs_lt hp h)]
    dsimp only
    rw [places_mv, List.map_map]
    have kk := K.ok _ (getD_mem (fs_lt hp h))
    have : ∀ x ∈ (bs.getD (fs.getD p 0) b0).2.places, ((fun p => fs.getD p 0) ∘ fst_ fs) x = x := fun x hx => by
      have := fst_get (perm_in hp (kk.2.2.2 x hx))
      show fs.getD (fst_ fs x) 0 = x
      rw [List.getD_eq_getElem?_getD, this]; rfl
    rw [List.map_congr_left this, List.map_id']
  · unfold rowOf at ha
    rw [mv_get hp h] at ha
    dsimp only at ha
    rw [places_mv] at ha
    obtain ⟨x, hx, rfl⟩ := List.mem_map.mp ha
    have kk := K.ok _ (getD_mem (fs_lt hp h))
    have := fst_lt (perm_in hp (kk.2.2.2 x hx))
    rw [perm_len hp] at this
    exact this
/-- the letters in their order -/
def lt (ls fs : List Nat) : List Nat := fs.map fun o => ls.getD o 0
theorem firsts_eq (K : Kn bs ls) (hp : fs.Perm (List.range bs.length)) {ns : List Nat} (S : Said (mv bs fs) (mv bs fs).length ns) : ns.map (fst_ ns) = (lt ls fs).map (fst_ (lt ls fs)) := by
  have hl := perm_len hp
  have e0 : (mv bs fs).length = bs.length := by rw [mv_len, hl]
  have nl : ns.length = bs.length := by rw [S.len, e0]
  refine fst_eq (by rw [nl]; unfold lt; rw [List.length_map, hl]) fun i j a b c d e1 e2 e3 e4 => ?_
  have h1 : i < bs.length := by have := (List.getElem?_eq_some_iff.mp e1).1; omega
  have h2 : j < bs.length := by have := (List.getElem?_eq_some_iff.mp e2).1; omega
  rw [S.eq_ i j a b e1 e2, e0, mv_same K hp h1 h2]
  have get : ∀ i, i < bs.length → (lt ls fs)[i]? = some (ls.getD (fs.getD i 0) 0) := fun i h => by
    unfold lt
    rw [List.getElem?_map, List.getElem?_eq_getElem (by omega), List.getD_eq_getElem?_getD (l := fs), List.getElem?_eq_getElem (by omega)]
    rfl
  rw [get i h1] at e3
  rw [get j h2] at e4
  cases e3; cases e4
  exact Iff.rfl
end

/-! ### clean data: how it is laid, like itself -/
theorem cl_lay : ∀ (n : Nat) (d : DL.D), Cl n d → d.canLay0 = true ∧ d.depth ≤ n ∧ PyData.eqv d d = true
  | 0, d, h => h.elim
  | n + 1, d, h => by
    have all : ∀ ds : List DL.D, (∀ d ∈ ds, Cl n d) → PyData.canLayAll0 ds = true ∧ PyData.depthAll ds ≤ n ∧ PyData.eqvAll ds ds = true := by
      intro ds
      induction ds with
      | nil => intro _; exact ⟨rfl, Nat.zero_le _, rfl⟩
      | cons x xs ih =>
        intro hd
        obtain ⟨a, b, c⟩ := cl_lay n x (hd x (by simp))
        obtain ⟨a', b', c'⟩ := ih fun d h => hd d (by simp [h])
        refine ⟨?_, ?_, ?_⟩
        · show (x.canLay0 && PyData.canLayAll0 xs) = true
          rw [a, a']; rfl
        · show max x.depth (PyData.depthAll xs) ≤ n
          omega
        · show (PyData.eqv x x && PyData.eqvAll xs xs) = true
          rw [c, c']; rfl
    cases d with
    | none => exact ⟨rfl, Nat.zero_le _, rfl⟩
    | bool b => exact ⟨rfl, Nat.zero_le _, by show (b == b) = true; simp⟩
    | int i => exact ⟨rfl, Nat.zero_le _, by show (i == i) = true; simp⟩
    | str x => exact ⟨h, Nat.zero_le _, by show (x == x) = true; simp⟩
    | list ds =>
      obtain ⟨a, b, c⟩ := all ds h.2
      refine ⟨a, ?_, c⟩
      show PyData.depthAll ds + 1 ≤ n + 1
      omega
    | tuple ds =>
      obtain ⟨a, b, c⟩ := all ds h.2
      refine ⟨a, ?_, c⟩
      show PyData.depthAll ds + 1 ≤ n + 1
      omega
    | dict l => exact h.elim
theorem cl_shaped {n : Nat} {d : DL.D} (h : Cl n d) (hn : n ≤ 64) : SeqAt.shaped d = true := by
  obtain ⟨a, b, _⟩ := cl_lay n d h
  exact Bool.and_eq_true_iff.mpr ⟨a, decide_eq_true (by omega)⟩
theorem eqD_self {n : Nat} {d : DL.D} (h : Cl n d) (hn : n ≤ 64) {k : DL.D → Prop} (q : k (.bool true)) : eqD d d k := by
  refine ⟨⟨cl_shaped h hn, cl_shaped h hn⟩, ?_⟩
  rw [(cl_lay n d h).2.2]; exact q
theorem neD_self {n : Nat} {d : DL.D} (h : Cl n d) (hn : n ≤ 64) {k : DL.D → Prop} (q : k (.bool false)) : neD d d k := by
  refine ⟨⟨cl_shaped h hn, cl_shaped h hn⟩, ?_⟩
  rw [(cl_lay n d h).2.2]; exact q

/-! ### one of the known ones -/
theorem dig_inj43 : ∀ a, a < 43 → ∀ b, b < 43 → dig a = dig b → a = b := by decide +kernel
theorem letter_ev {ls : List Nat} {o : Nat} (ho : o < ls.length) (hl : ls.length ≤ 100) {ρ : List Slot} (e2 : ρ[2]? = some (.dat (.str (T ls)))) (e6 : ρ[6]? = some (.dat (natD o))) : Ev E1__law_right ρ (.str (T [ls.getD o 0])) ρ := by
  intro k q
  unfold E1__law_right
  refine Ev.var e2 _ (Ev.var e6 _ ⟨?_, dig (ls.getD o 0), ?_, q⟩)
  · refine len_line ?_
    show (T ls).cps.size ≤ _
    unfold T
    simp
    omega
  · have : (T ls).cps.toList = ls.map dig := by unfold T; simp
    rw [this]
    refine atI_of (by omega) ?_
    rw [Int.toNat_natCast, List.getElem?_map, List.getD_eq_getElem?_getD, List.getElem?_eq_getElem ho]
    rfl
theorem sign_first {ls : List Nat} (hl : ∀ i ∈ ls, i < 43) {i : Nat} (hi : i ∈ ls) {k : DL.D → Prop} (q : k (natD (fst_ ls i))) : indexD (T ls) [.str (T [i])] k := by
  have e : (T ls).cps.toList = ls.map dig := by unfold T; simp
  refine index_first (c := dig i) ?_ ?_ q
  · rw [e, List.getElem?_map, fst_get hi]; rfl
  · intro j hj h
    rw [e, List.getElem?_map] at h
    have := fst_not hj
    cases g : ls[j]? with
    | none => rw [g] at h; cases h
    | some y =>
      rw [g] at h this
      have hy := hl y (List.mem_of_getElem? g)
      have : dig y = dig i := by simpa using h
      have := dig_inj43 y hy i (hl i hi) this
      subst this
      contradiction
theorem nat_first {ns : List Nat} {x : Nat} (hx : x ∈ ns) {ρ : List Slot} {a b : Nat} (ea : ρ[a]? = some (.dat (.list (ns.map natD)))) (eb : ρ[b]? = some (.dat (natD x))) : Ev (mIndexI (mVar a) (mCons (mVar b) mNil)) ρ (natD (fst_ ns x)) ρ := by
  intro k q
  unfold mIndexI
  refine Ev.var ea _ ?_
  dsimp only
  refine Ev.cons (Ev.var eb) Ev.nil _ ⟨ns.map Int.ofNat, (x : Int), fst_ ns x, rfl, ?_, ?_, ?_, q⟩
  · rw [List.map_map]; rfl
  · rw [List.getElem?_map, fst_get hx]; rfl
  · intro m y hm hy e
    rw [List.getElem?_map] at hy
    cases g : ns[m]? with
    | none => rw [g] at hy; cases hy
    | some z =>
      rw [g] at hy
      have h1 : (z : Int) = y := by simpa using hy
      have h2 : z = x := by have := h1.trans e; exact Int.ofNat.inj this
      subst h2
      exact fst_not hm g
theorem nats_cl (l : List Nat) (h : l.length ≤ 1000000) : Cl 2 (.list (l.map natD)) := ⟨by rw [List.length_map]; exact h, fun d hd => by obtain ⟨x, _, rfl⟩ := List.mem_map.mp hd; trivial⟩
theorem fst_lst {ns : List Nat} : ns.map (fun x => natD (fst_ ns x)) = (ns.map (fst_ ns)).map natD := by rw [List.map_map]; rfl
/-- the list that the law appends to: each body moved -/
theorem moved_loop {K : SK} {bs : List Bdy} {ls fs : List Nat} (kn : Kn bs ls) (hp : fs.Perm (List.range bs.length)) {s0 s2 s5 s9 s11 s12 s13 : Slot} : ∀ (os : List Nat) (acc : List Bdy) (s6 s7 s8 : Slot) (Ω : Wd), (∀ o ∈ os, o < bs.length) → acc.length + os.length ≤ 100 →
    (∀ s6 s7 s8 Ω, K.nx [s0, .dat (bsD bs), s2, .dat (.list (fs.map natD)), .own false ((acc ++ os.map fun o => mvB fs (bs.getD o b0)).map bD), s5, s6, s7, s8, s9, .non, s11, s12, s13, .wld Ω]) →
    forLoop G1__law_right L1__law_right K (os.map natD) [s0, .dat (bsD bs), s2, .dat (.list (fs.map natD)), .own false (acc.map bD), s5, s6, s7, s8, s9, .non, s11, s12, s13, .wld Ω]
  | [], acc, s6, s7, s8, Ω, _, _, q => by
    have := q s6 s7 s8 Ω
    rw [List.map_nil, List.append_nil] at this
    exact this
  | o :: os, acc, s6, s7, s8, Ω, h, hl, q => by
    rw [List.map_cons, forLoop_cons]
    show L1__law_right (loopK K (forLoop G1__law_right L1__law_right K (os.map natD))) [s0, .dat (bsD bs), s2, .dat (.list (fs.map natD)), .own false (acc.map bD), s5, .dat (natD o), s7, s8, s9, .non, s11, s12, s13, .wld Ω]
    generalize hF : forLoop G1__law_right L1__law_right K (os.map natD) = F
    have ho := h o (by simp)
    have hm := getD_mem (bs := bs) ho
    have kk := kn.ok _ hm
    unfold L1__law_right
    rw [sSeq_eq]
    refine Ev.ixL (d := bD (bs.getD o b0)) (Ev.var rfl) (Ev.var rfl) (atI_of (by omega) ?_) _ ?_
    · rw [Int.toNat_natCast, List.getElem?_map, List.getD_eq_getElem?_getD, List.getElem?_eq_getElem ho]
      rfl
    generalize hb : bs.getD o b0 = b at hm kk
    obtain ⟨c, t⟩ := b
    refine ⟨rfl, ?_⟩
    walk_at "ev"
    have k1 : c ≤ 4 := kk.1
    have k2 : t.Ok := kk.2.1
    have k3 : t.deep ≤ 8 := kk.2.2.1
    have k4 : ∀ p ∈ t.places, p < bs.length := kk.2.2.2
    generalize hρ : [s0, Slot.dat (bsD bs), s2, Slot.dat (PyData.list (List.map natD fs)), Slot.own false (List.map bD acc), s5, Slot.dat (natD o), Slot.dat (PyData.int ↑c), Slot.dat t.dat, s9, Slot.non, s11, s12, s13, Slot.wld Ω] = ρ
    have e8 : ρ[8]? = some (.dat t.dat) := by rw [← hρ]; rfl
    have pl : t.places.length ≤ 100 := kn.few _ hm
    have hi : Ev (mItL (mFn 1 (W__law_spots 9) (mCons (mVar 8) (mPure [])))) ρ (t.places.map natD) ρ := fun k q => by
      refine Ev.var e8 _ ⟨rfl, spotsL_spec 9 t _ k2 (by omega) k3 fun b => ?_⟩
      rw [heads_places]
      exact q
    have hl0 := lc_ev (te := E2__law_right) (v := 10) natD (fun x => natD (fst_ fs x)) t.places hi (by rw [← hρ]; rfl) (by omega) (fun x hx => nat_first (a := 3) (b := 10) (perm_in hp (k4 x hx)) (by rw [← hρ]; rfl) (by rw [← hρ]; rfl))
    have e0 : t.places.map (fun x => natD (fst_ fs x)) = (t.places.map (fst_ fs)).map natD := by rw [List.map_map]; rfl
    rw [e0] at hl0
    unfold mFnW
    refine Ev.var e8 _ ?_
    refine hl0 _ ?_
    refine ⟨Ω, by rw [← hρ]; rfl, fun p np => ⟨rfl, (p, .lst ((t.places.map (fst_ fs)).map natD)) :: Ω, by rw [← hρ]; rfl, ?_⟩⟩
    refine placed_spec 9 t p k2 (by omega) (t.places.map (fst_ fs)) [] _ _ (by rw [List.length_map]) ?_ fun Ω' _ => ?_
    · rw [List.append_nil]
      unfold wget
      simp
    refine ⟨len_line (by decide), ?_⟩
    rw [← hρ]
    show _ ∧ F _
    refine ⟨Nat.lt_of_le_of_lt (m := 100) (by rw [List.length_map]; omega) (len_line (n := 101) (by decide)), ?_⟩
    rw [← hF]
    have e1 : List.map bD acc ++ [PyData.tuple [PyData.int ↑c, (t.put (t.places.map (fst_ fs))).dat]] = List.map bD (acc ++ [mvB fs (bs.getD o b0)]) := by rw [List.map_append, hb]; rfl
    rw [e1]
    exact moved_loop kn hp os (acc ++ [mvB fs (bs.getD o b0)]) _ _ _ Ω' (fun x hx => h x (by simp [hx])) (by rw [List.length_append, List.length_singleton]; simp only [List.length_cons] at hl; omega) fun s6 s7 s8 Ω => by
      have := q s6 s7 s8 Ω
      rw [List.map_cons] at this
      rw [List.append_assoc]
      exact this
/-- numbers told as they first come -/
theorem top_max : ∀ (l : List Nat) (t m : Int), (∀ y ∈ t :: l.map Int.ofNat, y ≤ m) → m ∈ t :: l.map Int.ofNat → topI t l = m
  | [], t, m, h, hm => by simp at hm; exact hm.symm
  | x :: l, t, m, h, hm => by
    unfold topI
    refine top_max l (max t x) m (fun y hy => ?_) ?_
    · rcases List.mem_cons.mp hy with rfl | hy
      · have a := h t (by simp)
        have b := h (Int.ofNat x) (by simp)
        show max t (Int.ofNat x) ≤ m
        omega
      · exact h y (by simp at hy ⊢; right; right; exact hy)
    · rcases List.mem_cons.mp hm with e | hm
      · have b := h (Int.ofNat x) (by simp)
        have : max t (x : Int) = m := by show max t (Int.ofNat x) = m; omega
        rw [this]; simp
      · rw [List.map_cons] at hm
        rcases List.mem_cons.mp hm with e | hm
        · have a := h t (by simp)
          have : max t (x : Int) = m := by show max t (Int.ofNat x) = m; omega
          rw [this]; simp
        · simp only [List.mem_cons]; right; exact hm
theorem cut_takeX {α : Type} (xs : List α) {r : Nat} (h : r ≤ xs.length) : cutL xs none (some ((r : Nat) : Int)) = xs.take r := by
  unfold cutL
  rw [HT.sIx_none, HT.sIx_nat, Nat.min_eq_left h]
  simp
theorem lc_evW {α : Type} {te : M DL.D} {v : Nat} {ρ : List Slot} {mi : M (List DL.D)} {ρ1 : List Slot} (dat f : α → DL.D) (xs : List α) (hi : Ev mi ρ (xs.map dat) ρ1) (hn : xs.length ≤ 1000) (h : ∀ x ∈ xs, Ev te (ρ1.set v (.dat (dat x))) (f x) (ρ1.set v (.dat (dat x)))) : Ev (mLc mi (gVar v) (mPure true) te [v]) ρ (xs.map f) (ρ1.set v .non) := fun k q => by
  refine hi _ ?_
  show lcLoop _ _ _ _ _ _ _ (ρ1.set v .non)
  have e : ∀ s : Slot, (ρ1.set v .non).set v s = ρ1.set v s := fun s => List.set_set ..
  refine lc_map (ρ := ρ1.set v .non) (e _) dat f xs [] (by simp only [List.length_nil]; omega) (fun x hx kk h' => ?_) (by simpa using q)
  rw [e] at h' ⊢
  exact h x hx kk h'
theorem join_letters {is : List Nat} {k : DL.D → Prop} (hl : is.length ≤ 10000) (q : k (.str (T is))) : joinD "" [.list (is.map fun i => .str (T [i]))] k := join_signs hl q
theorem intsOf_nat : ∀ (l : List Nat), intsOf (l.map natD) = some (l.map Int.ofNat)
  | [] => rfl
  | x :: l => by
    rw [List.map_cons, List.map_cons]
    show (intsOf (l.map natD)).map _ = _
    rw [intsOf_nat l]; rfl
theorem rise_ev {ns : List Nat} (R : Rise 0 ns) (hl : ns.length ≤ 100) {p : Nat × Nat} (hp : ns[p.2]? = some p.1) {ρ : List Slot} (e9 : ρ[9]? = some (.dat (.list (ns.map natD)))) (e11 : ρ[11]? = some (.dat (natD p.1))) (e13 : ρ[13]? = some (.dat (natD p.2))) : Ev E5__law_right ρ (.bool true) ρ := by
  intro k q
  have hi : p.2 < ns.length := (List.getElem?_eq_some_iff.mp hp).1
  unfold E5__law_right mChain
  refine Ev.pure _ (Ev.var e11 _ ?_)
  show leD (.int 0) (.int (p.1 : Nat)) _
  rw [leD_ii, decide_eq_true (by omega : (0 : Int) ≤ (p.1 : Nat))]
  dsimp only
  have hm : Ev (mBin addD (mList (mLen (mCons (mNeg (mPure (PyData.int 1))) mNil))) (mSl (mVar 9) (mPure none) (mSome (mVar 13)))) ρ (.list (.int (-1) :: (ns.take p.2).map natD)) ρ := by
    intro k q
    refine ⟨len_line (by decide), ?_⟩
    refine Ev.var e9 _ ?_
    simp only [mPure, mSome]
    refine Ev.var e13 _ ?_
    simp only [natD, slD]
    rw [addD_ll]
    rw [cut_takeX _ (by rw [List.length_map]; omega), ← List.map_take]
    exact ⟨len_line (by rw [List.length_map, List.length_take]; simp; omega), q⟩
  refine hm _ ?_
  refine ⟨-1 :: (ns.take p.2).map Int.ofNat, ?_, by simp, fun m h1 h2 => ?_⟩
  · show (intsOf ((ns.take p.2).map natD)).map _ = _
    rw [intsOf_nat]; rfl
  have := top_max (ns.take p.2) (-1) m h2 h1
  have r := R.step p.2 p.1 hp
  have e : ((0 : Nat) : Int) - 1 = -1 := by omega
  rw [e, this] at r
  simp only [mPure, addD_ii]
  show leD (.int (p.1 : Nat)) (.int (m + 1)) _
  rw [leD_ii, decide_eq_true r]
  exact q
theorem sIf_ev {c : M Bool} {a b : SMon} {K : SK} {ρ ρ1 : List Slot} {t : Bool} (h : Ev c ρ t ρ1) (q : if t = true then a K ρ1 else b K ρ1) : sIf c a b K ρ := h _ q
theorem Ev.test {m : M DL.D} {ρ ρ1 : List Slot} {b : Bool} (h : Ev m ρ (.bool b) ρ1) : Ev (mTest m) ρ b ρ1 := fun k q => h _ q
theorem Ev.not {m : M Bool} {ρ ρ1 : List Slot} {b : Bool} (h : Ev m ρ b ρ1) : Ev (mNot m) ρ (!b) ρ1 := fun k q => h _ q
theorem Ev.neSelf {a b : M DL.D} {ρ ρ1 ρ2 : List Slot} {d : DL.D} {n : Nat} (h : Ev a ρ d ρ1) (h' : Ev b ρ1 d ρ2) (c : Cl n d) (hn : n ≤ 64) : Ev (mBin neD a b) ρ (.bool false) ρ2 := fun k q => h _ (h' _ (neD_self c hn q))
theorem Ev.allT {m : M (List DL.D)} {ρ ρ1 : List Slot} {n : Nat} (h : Ev m ρ (List.replicate n (.bool true)) ρ1) : Ev (mCall allD (mCons (mList m) (mPure []))) ρ (.bool true) ρ1 := fun k q => h _ (show allD [.list (List.replicate n (.bool true))] (fun d => k d ρ1) from allD_rep q)
theorem zipN (ns : List Nat) : enumD (ns.map natD) = ns.zipIdx.map fun p => .tuple [natD p.2, natD p.1] := by
  unfold enumD
  rw [List.zipIdx_map, List.map_map]
  rfl
theorem zip_get {ns : List Nat} {p : Nat × Nat} (h : p ∈ ns.zipIdx) : ns[p.2]? = some p.1 := by
  have := List.mem_zipIdx_iff_getElem?.mp h
  exact this
theorem map_true {α : Type} (xs : List α) : xs.map (fun _ => PyData.bool true) = List.replicate xs.length (.bool true) := List.map_const'
theorem nx_seq {R : SMon} {K : SK} {ρ : List Slot} (h : R K ρ) : SK.nx { K with nx := R K } ρ := h
theorem one_spec {K : SK} {bs : List Bdy} {ls : List Nat} (kn : Kn bs ls) {n : Nat} {bx : List DL.D} (hb : Bx n bx) (hn : n + 200 < CAP) {s3 s4 s5 s6 s7 s8 s9 s11 s12 s13 : Slot} {Ω : Wd}
    (q : ∀ bx' m s3 s4 s5 s6 s7 s8 s9 s11 s12 s13 Ω, Bx m bx' → m ≤ n + 100 → K.nx [.own true bx', .dat (bsD bs), .dat (.str (T ls)), s3, s4, s5, s6, s7, s8, s9, .non, s11, s12, s13, .wld Ω]) :
    L2__law_right K [.own true bx, .dat (bsD bs), .dat (.str (T ls)), s3, s4, s5, s6, s7, s8, s9, .non, s11, s12, s13, .wld Ω] := by
  unfold L2__law_right
  walk_at "sq"
  unfold bsD
  rw [lenD_l, List.length_map]
  refine order_spec kn.one (by have := kn.most; omega) hb hn fun b fs bx' m hp hb' hm => ?_
  have flt : ∀ o ∈ fs, o < bs.length := fun o ho => perm_lt hp ho
  have fl := perm_len hp
  have h12 := kn.most
  have ll := kn.len
  walk_at "sq"
  refine lc_map (ρ := [Slot.own true bx', Slot.dat (PyData.list (List.map bD bs)), Slot.dat (PyData.str (T ls)), Slot.dat (PyData.list (List.map natD fs)), s4, s5, Slot.non, s7, s8, s9, Slot.non, s11, s12, s13, Slot.wld Ω]) rfl natD (fun o => .str (T [ls.getD o 0])) fs [] (by simp; omega) (fun o ho kk h => letter_ev (by have := flt o ho; omega) (by omega) rfl rfl kk h) ?_
  have e1 : fs.map (fun o => PyData.str (T [ls.getD o 0])) = (lt ls fs).map fun i => .str (T [i]) := by unfold lt; rw [List.map_map]; rfl
  rw [List.nil_append, e1]
  have ltl : (lt ls fs).length = bs.length := by unfold lt; rw [List.length_map, fl]
  refine join_letters (by omega) ?_
  rw [sSeq_eq]
  show forLoop G1__law_right L1__law_right _ (fs.map natD) [.own true bx', .dat (bsD bs), .dat (.str (T ls)), .dat (.list (fs.map natD)), .own false (([] : List Bdy).map bD), .dat (.str (T (lt ls fs))), .non, s7, s8, s9, .non, s11, s12, s13, .wld Ω]
  refine moved_loop kn hp fs [] _ _ _ _ flt (by simp; omega) fun s6 s7 s8 Ω => ?_
  have e2 : ([] ++ fs.map fun o => mvB fs (bs.getD o b0)) = mv bs fs := rfl
  rw [e2]
  refine nx_seq ?_
  walk_at "sq"
  refine saying_spec (mv_fits kn hp) fun ns S => ?_
  have nl : ns.length = bs.length := by rw [S.len, mv_len, fl]
  have fe := firsts_eq kn hp S
  have low : ∀ i ∈ lt ls fs, i < 43 := fun i hi => by
    obtain ⟨o, ho, rfl⟩ := List.mem_map.mp hi
    have := flt o ho
    refine kn.low _ ?_
    rw [List.getD_eq_getElem?_getD, List.getElem?_eq_getElem (by omega)]
    exact List.getElem_mem _
  rw [sSeq_eq]
  have e5 : ns.map (fun x => natD (fst_ ns x)) = (ns.map (fst_ ns)).map natD := by rw [List.map_map]; rfl
  have e6 : (lt ls fs).map (fun i => natD (fst_ (lt ls fs) i)) = (ns.map (fst_ ns)).map natD := by rw [fe, List.map_map]; rfl
  generalize h0 : [Slot.own true bx', Slot.dat (bsD bs), Slot.dat (PyData.str (T ls)), Slot.dat (PyData.list (List.map natD fs)),
      Slot.dat (PyData.list (List.map bD (mv bs fs))), Slot.dat (PyData.str (T (lt ls fs))), s6, s7, s8,
      Slot.dat (PyData.list (List.map natD ns)), Slot.non, s11, s12, s13, Slot.wld Ω] = ρ0
  have g9 : ∀ s, (ρ0.set 11 s)[9]? = some (.dat (.list (ns.map natD))) := fun s => by rw [← h0]; rfl
  have g5 : ∀ s t, ((ρ0.set 11 s).set 12 t)[5]? = some (.dat (.str (T (lt ls fs)))) := fun s t => by rw [← h0]; rfl
  have hA := lc_evW (te := E3__law_right) (v := 11) (ρ := ρ0) (ρ1 := ρ0) (mi := mItL (mVar 9)) natD (fun x => natD (fst_ ns x)) ns (fun k q => Ev.var (i := 9) (d := .list (ns.map natD)) (by rw [← h0]; rfl) _ q) (by omega) fun x hx => nat_first hx (g9 _) (by rw [← h0]; rfl)
  have hB := lc_evW (te := E4__law_right) (v := 12) (ρ := ρ0.set 11 .non) (ρ1 := ρ0.set 11 .non) (mi := mItS (mVar 5)) (fun i => PyData.str (T [i])) (fun i => natD (fst_ (lt ls fs) i)) (lt ls fs) (fun k q => Ev.var (i := 5) (d := .str (T (lt ls fs))) (by rw [← h0]; rfl) _ (by
      have : signsD (T (lt ls fs)) = (lt ls fs).map fun i => PyData.str (T [i]) := by unfold signsD T; simp
      show k (signsD (T (lt ls fs))) _
      rw [this]
      exact q)) (by omega) fun x hx k q => by
    unfold E4__law_right mMeth
    refine Ev.var (i := 5) (d := .str (T (lt ls fs))) (g5 _ _) _ ?_
    dsimp only
    exact Ev.cons (Ev.var (i := 12) (d := .str (T [x])) (by rw [← h0]; rfl)) Ev.nil _ (sign_first low hx q)
  rw [e5] at hA
  rw [e6] at hB
  refine sIf_ev (Ev.test (Ev.neSelf (Ev.list hA) (Ev.list hB) (nats_cl _ (by rw [List.length_map]; omega)) (by decide))) ?_
  rw [if_neg (by decide)]
  refine nx_seq ?_
  have hC : Ev (mLc (mEnum (mCons (mVar 9) (mPure []))) (gTupD 2 (gConsD (gVar 13) (gConsD (gVar 11) gNilD))) (mPure true) E5__law_right [13, 11]) ((ρ0.set 11 .non).set 12 .non) (List.replicate ns.length (.bool true)) (((ρ0.set 11 .non).set 12 .non).set 13 .non) := by
    intro k q
    refine Ev.var (i := 9) (d := .list (ns.map natD)) (by rw [← h0]; rfl) _ ?_
    show lcLoop _ _ _ _ _ (enumD (ns.map natD)) _ _
    rw [zipN]
    refine lc_mapG (ρ := wipeS ((ρ0.set 11 Slot.non).set 12 Slot.non) [13, 11]) (fun p : Nat × Nat => .tuple [natD p.2, natD p.1]) (fun _ => .bool true) (fun p => ((wipeS ((ρ0.set 11 Slot.non).set 12 Slot.non) [13, 11]).set 13 (.dat (natD p.2))).set 11 (.dat (natD p.1))) (fun x kk h => ⟨rfl, h⟩) (fun x => by rw [← h0]; rfl) (by rw [← h0]; rfl) ns.zipIdx [] (by simp; omega) (fun p hp kk h => rise_ev S.rise (by omega) (zip_get hp) (by rw [← h0]; rfl) (by rw [← h0]; rfl) (by rw [← h0]; rfl) _ h) ?_
    rw [List.nil_append, map_true, List.length_zipIdx]
    rw [← h0] at q ⊢
    exact q
  refine sIf_ev (Ev.not (b := true) (Ev.test (Ev.allT hC))) ?_
  rw [if_neg (by decide), ← h0]
  exact q _ _ _ _ _ _ _ _ _ _ _ _ _ hb' hm

/-! ### boxes of lists of ints -/
theorem box_spec {cs : List Int} {i : Int} {k : Bool → DL.D → Prop} (h0 : 0 ≤ i) (hi : i ≤ 100) (q : ∀ bs, Bx 0 bs → k true (.list bs)) : W__law_box [.list (cs.map PyData.int), .int i] k := by
  unfold W__law_box m__law_box
  walk_at "ev"
  rw [List.length_map]
  have fin : ∀ a b : Int, 0 ≤ a → 0 ≤ b → b < 2147483648 → 3 ≤ sizeLine ∧ k true (.list [.int a, .int b, .int 0]) := fun a b h1 h2 h3 => ⟨len_line (by decide), q _ ⟨a, b, 0, rfl, h1, h2, h3, by decide, by decide⟩⟩
  split
  · rename_i h
    obtain ⟨c, e⟩ := at_ints h0 h
    refine ⟨_, e, ?_⟩
    rw [absD_i, absD_i]
    obtain ⟨c1, c2, c3, c4, c5, c6, c7⟩ := box_core (c := c) (P := fun a b => 3 ≤ sizeLine ∧ k true (.list [a, b, .int 0])) h0 hi fin
    refine ⟨c1, ?_⟩
    rw [geD_ii, intD_b, mulD_ii]
    simp only [decide_eq_true_eq]
    refine ⟨c2, ?_⟩
    rw [modD_ii]
    refine ⟨c3, c4, ?_⟩
    rw [addD_ii, addD_ii, mulD_ii, modD_ii]
    exact ⟨c5, c6, c7⟩
  · exact box_core (c := 0) (P := fun a b => 3 ≤ sizeLine ∧ k true (.list [a, b, .int 0])) h0 hi fin

/-! ### the cells of a script -/
theorem foldS_loop {m : Nat} (hm : 1 ≤ m) (hm2 : m ≤ 100) {K : SK} {s0 : Slot} : ∀ (ms : List Int) (j : Nat) (cs : List Int) (s3 s4 : Slot), cs.length = m → j + ms.length ≤ 100 → (∀ (cs : List Int) s3 s4, cs.length = m → K.nx [s0, .dat (.int (m : Nat)), .own false (cs.map PyData.int), s3, s4]) →
    forLoop G1__law_folded L1__law_folded K (((ms.map PyData.int).zipIdx j).map fun p => .tuple [.int (p.2 : Nat), p.1]) [s0, .dat (.int (m : Nat)), .own false (cs.map PyData.int), s3, s4]
  | [], j, cs, s3, s4, hc, _, q => q cs s3 s4 hc
  | x :: ms, j, cs, s3, s4, hc, hj, q => by
    rw [List.length_cons] at hj
    have ih := fun (cs : List Int) s3 s4 (hc : cs.length = m) => foldS_loop hm hm2 (K := K) (s0 := s0) ms (j + 1) cs s3 s4 hc (by omega) q
    rw [List.map_cons, List.zipIdx_cons, List.map_cons, forLoop_cons]
    generalize forLoop G1__law_folded L1__law_folded K (((ms.map PyData.int).zipIdx (j + 1)).map fun p => .tuple [.int (p.2 : Nat), p.1]) = F at ih ⊢
    unfold G1__law_folded L1__law_folded
    walk_at "ev"
    have h0 : 0 ≤ (j : Int) % (m : Int) := Int.emod_nonneg _ (by omega)
    have h1 : (j : Int) % (m : Int) < m := Int.emod_lt_of_pos _ (by omega)
    obtain ⟨c, e⟩ := at_ints (cs := cs) h0 (by rw [hc]; exact h1)
    refine ⟨by omega, _, e, cmul_r (by omega) (by omega), ?_⟩
    rw [addD_ii]
    refine ⟨by omega, _, ixN_of h0 (by rw [List.length_map, hc]; exact h1), ?_⟩
    have := ih (cs.set ((j : Int) % (m : Int)).toNat (c + x * ((j : Int) + 2))) (.dat (.int (j : Int))) (.dat (.int x)) (by rw [List.length_set]; exact hc)
    rw [List.map_set] at this
    exact this
theorem foldS_spec {m : Nat} (hm : 1 ≤ m) (hm2 : m ≤ 60) {ns : List Int} {k : Bool → DL.D → Prop} (hl : ns.length ≤ 63) (q : ∀ cs : List Int, cs.length ≤ m → k true (.list (cs.map PyData.int))) : W__law_folded [.dict (scrD ns), .int (m : Nat)] k := by
  unfold W__law_folded m__law_folded
  walk_at "ev"
  refine ⟨ns, rfl, ?_⟩
  walk_at "ev"
  refine ⟨ns, rfl, ?_⟩
  walk_at "ev"
  have hc : (cutL ns none (some ((m : Nat) : Int))).length = min m ns.length := by
    unfold cutL
    rw [HT.sIx_none, HT.sIx_nat, List.length_take, List.length_drop]; omega
  have hr : (cutL ns (some ((m : Nat) : Int)) (some 63)).length = min 63 ns.length - min m ns.length := by
    unfold cutL
    rw [show (some (63 : Int)) = some ((63 : Nat) : Int) from rfl, HT.sIx_nat, HT.sIx_nat, List.length_take, List.length_drop]; omega
  unfold enumD
  by_cases h3 : m ≤ ns.length
  · refine foldS_loop hm (by omega) (cutL ns (some ((m : Nat) : Int)) (some 63)) 0 (cutL ns none (some ((m : Nat) : Int))) .non .non (by omega) (by omega) fun cs s3 s4 h => ?_
    walk_at "ev"
    exact q cs (by omega)
  · have : cutL ns (some ((m : Nat) : Int)) (some 63) = [] := List.eq_nil_of_length_eq_zero (by omega)
    rw [this]
    rw [List.map_nil, List.zipIdx_nil, List.map_nil, forLoop]
    walk_at "ev"
    exact q _ (by omega)
/-- the turns of a comprehension, each true, that draw -/
theorem lc_draws {g : GMn} {te : M DL.D} {vs : List Nat} {k : List DL.D → List Slot → Prop} {c : Nat} (st st' : List DL.D → DL.D → List Slot) (ρ : List DL.D → List Slot) (hg : ∀ bs d (kk : List Slot → Prop), kk (st bs d) → g d (ρ bs) kk) (hρ : ∀ bs, wipeS (ρ bs) vs = ρ bs)
    (hs : ∀ bs d n, Bx n bs → n + c ≤ CAP → ∀ kk : DL.D → List Slot → Prop, (∀ bs', Bx (n + c) bs' → kk (.bool true) (st' bs' d)) → te (st bs d) kk) (hw : ∀ bs d, wipeS (st' bs d) vs = ρ bs) :
    ∀ (ds : List DL.D) (m n : Nat) (bs : List DL.D), Bx n bs → n + c * ds.length ≤ CAP → m + ds.length ≤ 1000 → (∀ m bs' n', Bx n' bs' → n' ≤ n + c * ds.length → k (List.replicate m (.bool true)) (ρ bs')) → lcLoop g (mPure true) te vs k ds (List.replicate m (.bool true)) (ρ bs)
  | [], m, n, bs, hb, _, _, q => by
    rw [lcLoop_nil, hρ]
    exact q m bs n hb (Nat.le_add_right _ _)
  | d :: ds, m, n, bs, hb, hn, hm, q => by
    rw [List.length_cons] at hn hm
    have hmul : c * (ds.length + 1) = c * ds.length + c := Nat.mul_succ _ _
    rw [lcLoop_cons]
    refine hg bs d _ ?_
    show te (st bs d) _
    refine hs bs d n hb (by omega) _ fun bs' hb' => ⟨by rw [List.length_replicate]; exact Nat.lt_of_lt_of_le (by omega) (len_line (n := 1001) (by decide)), ?_⟩
    rw [hw, ← List.replicate_succ']
    exact lc_draws st st' ρ hg hρ hs hw ds (m + 1) (n + c) bs' hb' (by omega) (by omega) fun m bs'' n' h1 h2 => q m bs'' n' h1 (by rw [List.length_cons]; omega)

/-! ### the law -/
theorem knows_loop {K : SK} : ∀ (cs : List (List Bdy × Str)) (n : Nat) (bx : List DL.D) (s1 s2 s3 s4 s5 s6 s7 s8 s9 s11 s12 s13 : Slot) (Ω : Wd), Bx n bx → n + 100 * cs.length + 200 < CAP → (∀ c ∈ cs, c ∈ known) →
    (∀ bx' m s1 s2 s3 s4 s5 s6 s7 s8 s9 s11 s12 s13 Ω, Bx m bx' → K.nx [.own true bx', s1, s2, s3, s4, s5, s6, s7, s8, s9, .non, s11, s12, s13, .wld Ω]) →
    forLoop G2__law_right L2__law_right K (cs.map knD) [.own true bx, s1, s2, s3, s4, s5, s6, s7, s8, s9, .non, s11, s12, s13, .wld Ω]
  | [], n, bx, s1, s2, s3, s4, s5, s6, s7, s8, s9, s11, s12, s13, Ω, hb, _, _, q => q bx n _ _ _ _ _ _ _ _ _ _ _ _ _ hb
  | c :: cs, n, bx, s1, s2, s3, s4, s5, s6, s7, s8, s9, s11, s12, s13, Ω, hb, hn, hc, q => by
    obtain ⟨e, kn⟩ := known_kn (hc c (by simp))
    rw [List.map_cons, forLoop_cons, List.length_cons] at *
    refine ⟨rfl, ?_⟩
    show L2__law_right (loopK K (forLoop G2__law_right L2__law_right K (cs.map knD))) [.own true bx, .dat (bsD c.1), .dat (.str c.2), s3, s4, s5, s6, s7, s8, s9, .non, s11, s12, s13, .wld Ω]
    rw [e]
    refine one_spec kn hb (by omega) fun bx' m s3 s4 s5 s6 s7 s8 s9 s11 s12 s13 Ω hb' hm => ?_
    exact knows_loop cs m bx' _ _ _ _ _ _ _ _ _ _ _ _ Ω hb' (by omega) (fun c hc' => hc c (by simp [hc'])) q
theorem for_ev {m : M (List DL.D)} {g : GMn} {body : SMon} {K : SK} {ρ ρ1 : List Slot} {ds : List DL.D} (h : Ev m ρ ds ρ1) (q : forLoop g body K ds ρ1) : sFor m g body K ρ := h _ q
theorem right_spec {n : Nat} {bs : List DL.D} {k : Bool → DL.D → List DL.D → Prop} (h : Bx n bs) (hn : n + 2000 < CAP) (q : ∀ b bs', k b (.bool true) bs') : W__law_right bs [] k := by
  unfold W__law_right m__law_right fnBSW
  rw [sSeq_eq]
  refine for_ev (ds := known.map knD) (ρ1 := (Slot.own true bs :: (List.map Slot.dat [] ++ (List.replicate 13 Slot.non ++ [Slot.wld []])))) (fun k q => ⟨rfl, known_spec fun b => q⟩) ?_
  show forLoop G2__law_right L2__law_right _ (known.map knD) [.own true bs, .non, .non, .non, .non, .non, .non, .non, .non, .non, .non, .non, .non, .non, .wld []]
  refine knows_loop known n bs _ _ _ _ _ _ _ _ _ _ _ _ _ h (by show n + 100 * 11 + 200 < CAP; omega) (fun c h => h) fun bx' m s1 s2 s3 s4 s5 s6 s7 s8 s9 s11 s12 s13 Ω hb => ?_
  exact ⟨bx', rfl, q _ _⟩
theorem law_loop {kk : List DL.D → List Slot → Prop} {s0 : Slot} {cs : List Int} : ∀ (m j : Nat) (acc : List DL.D) (n : Nat), acc = List.replicate n (.bool true) → n + m ≤ 100 → j + m ≤ 100 → (∀ n, kk (List.replicate n (.bool true)) [s0, .dat (.list (cs.map PyData.int)), .non]) →
    lcLoop (gVar 2) (mPure true) E1_law [2] kk ((List.range' j m).map fun (i : Nat) => PyData.int (i : Int)) acc [s0, .dat (.list (cs.map PyData.int)), .non]
  | 0, j, acc, n, e, _, _, q => by rw [e]; exact q n
  | m + 1, j, acc, n, e, hn, hj, q => by
    have ih := law_loop (kk := kk) (s0 := s0) (cs := cs) m (j + 1) (acc ++ [.bool true]) (n + 1) (by rw [e, List.replicate_succ']) (by omega) (by omega) q
    rw [List.range'_succ, List.map_cons, lcLoop_cons]
    generalize lcLoop (gVar 2) (mPure true) E1_law [2] kk ((List.range' (j + 1) m).map fun (i : Nat) => PyData.int (i : Int)) = F at ih ⊢
    unfold E1_law
    walk_at "ev"
    refine box_spec (by omega) (by omega) fun bs hb => ⟨rfl, bs, rfl, ?_⟩
    refine right_spec hb (by decide) fun b bs' => ?_
    refine ⟨Nat.lt_of_le_of_lt (m := 100) (by rw [e, List.length_replicate]; omega) (len_line (n := 101) (by decide)), ih⟩
theorem law_holds {ns : List Int} (hl : ns.length ≤ 63) {k : Bool → DL.D → Prop} (q : k false (.bool true)) : W_law [.dict (scrD ns)] k := by
  unfold W_law m_law
  walk_at "ev"
  refine foldS_spec (m := 4) (by decide) (by decide) hl fun cs hc => ⟨rfl, _, rfl, ?_⟩
  rw [List.length_map]
  refine ⟨by split <;> omega, by split <;> omega, ?_⟩
  have e : ∀ m : Nat, rngD 0 m = (List.range' 0 m).map fun (i : Nat) => PyData.int (i : Int) := fun m => by
    unfold rngD
    rw [List.range_eq_range']
    simp
  rw [e]
  refine law_loop _ 0 [] 0 rfl (by split <;> omega) (by split <;> omega) fun n => ?_
  exact allD_rep q

theorem law_sp {K : PySem.W.Frag} {H : Hp} {a : Addr} {ns : List Int} {E : XK} (hl : ns.length ≤ 63) (hS : SqL K H a (ns.map V.int)) : sp0 K 1 W_law [.ref a] H (fun v _ => v = .bl true) E := by
  refine ⟨fun _ => False, [.dict (scrD ns)], fun _ z => z.elim, .cons (.scr ns rfl ?_) .nil, rfl, law_holds hl ?_⟩
  · rcases hS with h | h
    · exact .inl ⟨fun z => z, h⟩
    · exact .inr h
  · intro v H' _ d _
    cases d
    rfl
end Law

open PySem PySem.W PyProof.Rows
set_option maxHeartbeats 0 in
theorem PySem.Challenge.cw_contentnames_k09_known_sayings_holds : PySem.Challenge.rw_contentnames_k09_known_sayings.Holds := by
  w_on; o_law; k_head; (case hw => w_witness2)
  k_fill
  refine DL.walk_ofG (l := PySem.Challenge.rw_contentnames_k09_known_sayings) (n := 63) (k := 14) (x := "script") (CX := fun _ => L2.CX0) (sp := fun w => DL.sp0 _ 1 Law.W_law) rfl (by decide) rfl ⟨rfl, by decide, by decide⟩ (fun w h Y => PySem.W.kIn_of Y) ?F (fun _ _ a ns hl _ hS => Law.law_sp hl hS) (fun _ _ _ _ _ h => h)
  case F =>
    intro w mg fa h KX G hmg
    refine' Law.all_mk KX G hmg ?a0 ?l0 ?c0 ?k0 ?a1 ?l1 ?c1 ?k1 ?a2 ?l2 ?c2 ?k2 ?a3 ?l3 ?c3 ?k3 ?a4 ?l4 ?c4 ?k4 ?a5 ?l5 ?c5 ?k5 ?a6 ?l6 ?c6 ?k6 ?a7 ?l7 ?c7 ?k7 ?a8 ?l8 ?c8 ?k8 ?a9 ?l9 ?c9 ?k9 ?a10 ?l10 ?c10 ?k10 ?a11 ?l11 ?c11 ?k11 ?a12 ?l12 ?c12 ?k12 ?a13 ?l13 ?c13 ?k13 ?a14 ?l14 ?c14 ?k14 ?a15 ?l15 ?c15 ?k15 ?a16 ?l16 ?c16 ?k16 ?a17 ?l17 ?c17 ?k17 ?z_abs ?z_all ?z_divmod ?z_enumerate ?z_int ?z_len ?z_list ?z_max ?z_range ?z_str ?z_tuple ?z_zip ?c_ARG ?c_ARG_SIGNS ?c_CALL ?c_CALL_SIGN ?c_NUM ?c_RING ?c_RING_SIGN ?n_HEAD_WORDS ?t_HEAD_WORDS ?n_LEAF_WORDS ?t_LEAF_WORDS
    (case a0 => k_is)
    (case l0 => k_is)
    (case c0 => k_is)
    (case k0 => k_is)
    (case a1 => k_is)
    (case l1 => k_is)
    (case c1 => k_is)
    (case k1 => k_is)
    (case a2 => k_is)
    (case l2 => k_is)
    (case c2 => k_is)
    (case k2 => k_is)
    (case a3 => k_is)
    (case l3 => k_is)
    (case c3 => k_is)
    (case k3 => k_is)
    (case a4 => k_is)
    (case l4 => k_is)
    (case c4 => k_is)
    (case k4 => k_is)
    (case a5 => k_is)
    (case l5 => k_is)
    (case c5 => k_is)
    (case k5 => k_is)
    (case a6 => k_is)
    (case l6 => k_is)
    (case c6 => k_is)
    (case k6 => k_is)
    (case a7 => k_is)
    (case l7 => k_is)
    (case c7 => k_is)
    (case k7 => k_is)
    (case a8 => k_is)
    (case l8 => k_is)
    (case c8 => k_is)
    (case k8 => k_is)
    (case a9 => k_is)
    (case l9 => k_is)
    (case c9 => k_is)
    (case k9 => k_is)
    (case a10 => k_is)
    (case l10 => k_is)
    (case c10 => k_is)
    (case k10 => k_is)
    (case a11 => k_is)
    (case l11 => k_is)
    (case c11 => k_is)
    (case k11 => k_is)
    (case a12 => k_is)
    (case l12 => k_is)
    (case c12 => k_is)
    (case k12 => k_is)
    (case a13 => k_is)
    (case l13 => k_is)
    (case c13 => k_is)
    (case k13 => k_is)
    (case a14 => k_is)
    (case l14 => k_is)
    (case c14 => k_is)
    (case k14 => k_is)
    (case a15 => k_is)
    (case l15 => k_is)
    (case c15 => k_is)
    (case k15 => k_is)
    (case a16 => k_is)
    (case l16 => k_is)
    (case c16 => k_is)
    (case k16 => k_is)
    (case a17 => k_is)
    (case l17 => k_is)
    (case c17 => k_is)
    (case k17 => k_is)
    (case z_abs => k_is)
    (case z_all => k_is)
    (case z_divmod => k_is)
    (case z_enumerate => k_is)
    (case z_int => k_is)
    (case z_len => k_is)
    (case z_list => k_is)
    (case z_max => k_is)
    (case z_range => k_is)
    (case z_str => k_is)
    (case z_tuple => k_is)
    (case z_zip => k_is)
    (case c_ARG => k_is)
    (case c_ARG_SIGNS => k_is)
    (case c_CALL => k_is)
    (case c_CALL_SIGN => k_is)
    (case c_NUM => k_is)
    (case c_RING => k_is)
    (case c_RING_SIGN => k_is)
    (case n_HEAD_WORDS => k_is)
    (case t_HEAD_WORDS =>
      refine' ⟨_, _, _, Eq.trans (b := some _) ?qTK ?rTK, ?cTK, ?dTK, ?sTK, ?vTK⟩
      (case qTK => exact rfl)
      (case rTK => rfl)
      (case cTK => rfl)
      (case dTK => rfl)
      (case sTK => decide)
      (case vTK => exact (.cons ⟨_, rfl⟩ (.cons ⟨_, rfl⟩ (.cons ⟨_, rfl⟩ .nil)))))
    (case n_LEAF_WORDS => k_is)
    (case t_LEAF_WORDS =>
      refine' ⟨_, _, _, Eq.trans (b := some _) ?qTK ?rTK, ?cTK, ?dTK, ?sTK, ?vTK⟩
      (case qTK => exact rfl)
      (case rTK => rfl)
      (case cTK => rfl)
      (case dTK => rfl)
      (case sTK => decide)
      (case vTK => exact (.cons ⟨_, rfl⟩ (.cons ⟨_, rfl⟩ .nil))))
