import PyProof.Rows.All
import Wide.All
import OpenK.AllK
import Wide.FinOn
import HandS.ForMost
import HandS.ForExc
import HandS.IsInst
import HandS.Property
import HandS.ExcIs
import HandS.CallSlots
import HandS.Wide
import KE.KDictKeyed
import HandS.TupAny
import HandS.Style
import HandS.SortInts
import HandS.Defaults
import KE.KOpsOwn
import HandS.MakeKw
import KE.GoesMore
import HandS.Dict
import HandS.TupMul
import HandS.Text
import HandS.StrMore
import PyProof.Rows.ListStrD
import HandS.More
import PyProof.StrBlock2
import HandS.Deep
import PyProof.EnumMake
import HandS.SetFor
import HandS.Strs
import HandS.Conv
import KE.KDictDisplayH
import HandS.OwnEq
import PySem.Challenge.RW_sumsplay_k59_parts_of_floors
set_option Elab.async false
set_option linter.all false
set_option maxRecDepth 100000
set_option maxHeartbeats 4000000
namespace AL
open PySem PySem.Spec PyProof.Rows L2

/-- data: what a value is, with all that hangs on it; ref: an object that may change, or a class, a def -/
inductive DV where
  | non | bl (b : Bool) | int (i : Int) | str (x : Str) | ty (n : String) | ref (a : Addr)
  | lst (xs : List DV) | tup (xs : List DV) | ins (C : Addr) (ks : List Str) (xs : List DV) | wl (xs : List DV)

/-- objects that change -/
inductive MO where
  | lst (xs : List DV)
  | ins (C dx : Addr) (ks : List Str) (xs : List DV)
  | dK (kvs : List (Key × DV))
  | dT (kvs : List (NestedKey × DV))

abbrev Led := Addr → Option MO
def updL (L : Led) (a : Addr) (m : MO) : Led := fun b => if b = a then some m else L b
def delL (L : Led) (a : Addr) : Led := fun b => if b = a then none else L b
theorem updL_same {L : Led} {a : Addr} {m : MO} : updL L a m a = some m := by unfold updL; rw [if_pos rfl]
theorem updL_ne {L : Led} {a b : Addr} {m : MO} (h : b ≠ a) : updL L a m b = L b := by unfold updL; rw [if_neg h]
theorem updL_updL {L : Led} {a : Addr} {m n : MO} : updL (updL L a m) a n = updL L a n := by
  funext b; unfold updL; split <;> rfl
theorem updL_comm {L : Led} {a b : Addr} {m n : MO} (h : a ≠ b) : updL (updL L a m) b n = updL (updL L b n) a m := by
  funext c; unfold updL
  by_cases h1 : c = b <;> by_cases h2 : c = a <;> simp [h1, h2] <;> intro z <;> first | exact absurd z h | exact absurd z.symm h | (subst h1; exact absurd h2 (Ne.symm h)) | skip
theorem updL_id {L : Led} {a : Addr} {m : MO} (h : L a = some m) : updL L a m = L := by
  funext b; unfold updL; split
  · rename_i e; rw [e, h]
  · rfl
theorem delL_updL {L : Led} {a : Addr} {m : MO} (h : L a = none) : delL (updL L a m) a = L := by
  funext b; unfold delL updL
  by_cases e : b = a
  · rw [if_pos e, e, h]
  · rw [if_neg e, if_neg e]
theorem ne_led {L : Led} {a b : Addr} {m : MO} (h : L a = some m) (h' : L b = none) : a ≠ b := by
  intro e; subst e; rw [h] at h'; cases h'
theorem ne_led2 {L : Led} {a b : Addr} {m n : MO} (h : L a = some m) (h' : L b = some n) (d : m ≠ n) : a ≠ b := by
  intro e; subst e; rw [h] at h'; exact d (Option.some.inj h')
/-- fewer objects are told -/
def Sub (L2 L : Led) : Prop := ∀ a m, L2 a = some m → L a = some m
theorem Sub.refl (L : Led) : Sub L L := fun _ _ h => h
theorem Sub.trans {L1 L2 L3 : Led} (h : Sub L1 L2) (h' : Sub L2 L3) : Sub L1 L3 := fun a m e => h' a m (h a m e)
theorem Sub.new {L : Led} {a : Addr} {m : MO} (h : L a = none) : Sub L (updL L a m) := fun b n e => by
  rw [updL_ne (ne_led e h)]; exact e
theorem Sub.into {L L1 : Led} {a : Addr} {m : MO} (s : Sub L L1) (h : L a = none) : Sub L (updL L1 a m) := fun b n e => by
  rw [updL_ne (ne_led e h)]; exact s b n e
theorem Sub.none {L L1 : Led} {a : Addr} (s : Sub L L1) (h : L1 a = none) : L a = none := by
  cases q : L a with
  | none => rfl
  | some m => rw [s a m q] at h; cases h

/-- one heap holds all of another -/
def Ex (H H' : Hp) : Prop := ∀ a o, H a = some o → H' a = some o
theorem Ex.refl (H : Hp) : Ex H H := fun _ _ h => h
theorem Ex.trans {H H1 H2 : Hp} (a : Ex H H1) (b : Ex H1 H2) : Ex H H2 := fun x o h => b x o (a x o h)
theorem Ex.new {H : Hp} {p : Addr} {o : HO} (h : H p = none) : Ex H (upd H p o) := fun a u e => by
  rw [upd_ne (ne_of_none e h)]; exact e
theorem Ex.rd {H H' : Hp} {a : Addr} {u : HO} (e : Ex H H') (h : Rd H a u) : Rd H' a u := by
  rcases h with h | ⟨o, h⟩
  · exact Or.inl (e a _ h)
  · exact Or.inr ⟨o, e a _ h⟩
theorem Ex.l {K : PySem.W.Frag} {H H' : Hp} {a : Addr} {xs : List V} (e : Ex H H') (h : SqL K H a xs) : SqL K H' a xs := by
  rcases h with h | h
  · exact Or.inl (e.rd h)
  · exact Or.inr h
theorem Ex.t {K : PySem.W.Frag} {H H' : Hp} {a : Addr} {xs : List V} (e : Ex H H') (h : SqT K H a xs) : SqT K H' a xs := by
  rcases h with h | h
  · exact Or.inl (e.rd h)
  · exact Or.inr h
theorem Ex.none {H H' : Hp} {a : Addr} (e : Ex H H') (h : H' a = none) : H a = none := by
  cases q : H a with
  | none => rfl
  | some m => rw [e a m q] at h; cases h

/-- what isinstance asks of a class -/
structure TyC (K : PySem.W.Frag) (C : Addr) : Prop where
  ha : PySem.W.findIn K (.ref C) "__class__" = some (some (.builtin "object.__class__"))
  hn : PySem.W.specialIn K (.builtin "object.__class__") "__get__" = some (some (.builtin "getset_descriptor.__get__"))
  htk : PySem.W.takesIn K (.builtin "object.__class__") = some true
  hm : PySem.W.mroIn K C (.type "object") = some true
/-- what the class says of an instance's attributes -/
structure FOk (K : PySem.W.Frag) (C : Addr) (ks : List Str) : Prop where
  cl : Cls K C
  ty : TyC K C
  no : ∀ f ∈ ks, NoAttr K C f
  nd : ks.Nodup
  few : ks.length < 1000

mutual
/-- the value v is the data d, by what stands in I for ever -/
inductive Rp (K : PySem.W.Frag) (I : Hp) : DV → V → Prop
  | non : Rp K I .non .non
  | bl (b : Bool) : Rp K I (.bl b) (.bl b)
  | int (i : Int) : Rp K I (.int i) (.int i)
  | str (x : Str) : Rp K I (.str x) (.str x)
  | ty (n : String) : Rp K I (.ty n) (.ty n)
  | ref (a : Addr) : Rp K I (.ref a) (.ref a)
  | lst {a : Addr} {vs : List V} {ds : List DV} (h : I a = some (.lst vs)) (r : Rps K I ds vs) : Rp K I (.lst ds) (.ref a)
  | wl {a : Addr} {vs : List V} {ds : List DV} (h : SqL K I a vs) (r : Rps K I ds vs) : Rp K I (.wl ds) (.ref a)
  | tup {a : Addr} {vs : List V} {ds : List DV} (h : SqT K I a vs) (r : Rps K I ds vs) : Rp K I (.tup ds) (.ref a)
  | ins {a C dx : Addr} {fs : List (Str × V)} {ks : List Str} {ds : List DV} (h : I a = some (.ins C dx fs)) (e : fs.map (·.1) = ks) (c : FOk K C ks) (r : Rps K I ds (fs.map (·.2))) : Rp K I (.ins C ks ds) (.ref a)
inductive Rps (K : PySem.W.Frag) (I : Hp) : List DV → List V → Prop
  | nil : Rps K I [] []
  | cons {d : DV} {v : V} {ds : List DV} {vs : List V} (h : Rp K I d v) (r : Rps K I ds vs) : Rps K I (d :: ds) (v :: vs)
end
section
variable {K : PySem.W.Frag} {I I' : Hp}
mutual
theorem Rp.mono (e : Ex I I') : ∀ {d : DV} {v : V}, Rp K I d v → Rp K I' d v
  | _, _, .non => .non
  | _, _, .bl b => .bl b
  | _, _, .int i => .int i
  | _, _, .str x => .str x
  | _, _, .ty n => .ty n
  | _, _, .ref a => .ref a
  | _, _, .lst h r => .lst (e _ _ h) (Rps.mono e r)
  | _, _, .wl h r => .wl (e.l h) (Rps.mono e r)
  | _, _, .tup h r => .tup (e.t h) (Rps.mono e r)
  | _, _, .ins h q c r => .ins (e _ _ h) q c (Rps.mono e r)
theorem Rps.mono (e : Ex I I') : ∀ {ds : List DV} {vs : List V}, Rps K I ds vs → Rps K I' ds vs
  | _, _, .nil => .nil
  | _, _, .cons h r => .cons (Rp.mono e h) (Rps.mono e r)
end
theorem Rps.length : ∀ {ds : List DV} {vs : List V}, Rps K I ds vs → ds.length = vs.length
  | _, _, .nil => rfl
  | _, _, .cons _ r => by rw [List.length_cons, List.length_cons, Rps.length r]
theorem Rps.get : ∀ {ds : List DV} {vs : List V} {i : Nat} {d : DV}, Rps K I ds vs → ds[i]? = some d → ∃ v, vs[i]? = some v ∧ Rp K I d v
  | _, _, _, _, .nil, e => by simp at e
  | _, _, 0, _, .cons h _, e => by simp at e; subst e; exact ⟨_, rfl, h⟩
  | _, _, i + 1, d, .cons _ r, e => by
    obtain ⟨v, h1, h2⟩ := Rps.get (i := i) (d := d) r (by simpa using e)
    exact ⟨v, by simpa using h1, h2⟩
theorem Rps.getV : ∀ {ds : List DV} {vs : List V} {i : Nat} {v : V}, Rps K I ds vs → vs[i]? = some v → ∃ d, ds[i]? = some d ∧ Rp K I d v
  | _, _, _, _, .nil, e => by simp at e
  | _, _, 0, _, .cons h _, e => by simp at e; subst e; exact ⟨_, rfl, h⟩
  | _, _, i + 1, d, .cons _ r, e => by
    obtain ⟨v, h1, h2⟩ := Rps.getV (i := i) (v := d) r (by simpa using e)
    exact ⟨v, by simpa using h1, h2⟩
theorem Rps.append : ∀ {ds es : List DV} {vs us : List V}, Rps K I ds vs → Rps K I es us → Rps K I (ds ++ es) (vs ++ us)
  | _, _, _, _, .nil, s => s
  | _, _, _, _, .cons h r, s => .cons h (Rps.append r s)
theorem Rps.take : ∀ {ds : List DV} {vs : List V} (n : Nat), Rps K I ds vs → Rps K I (ds.take n) (vs.take n)
  | _, _, 0, _ => by simp; exact .nil
  | _, _, _ + 1, .nil => .nil
  | _, _, n + 1, .cons h r => .cons h (Rps.take n r)
theorem Rps.drop : ∀ {ds : List DV} {vs : List V} (n : Nat), Rps K I ds vs → Rps K I (ds.drop n) (vs.drop n)
  | _, _, 0, r => r
  | _, _, _ + 1, .nil => .nil
  | _, _, n + 1, .cons _ r => Rps.drop n r
theorem Rps.set {d : DV} {v : V} (h : Rp K I d v) : ∀ {ds : List DV} {vs : List V} (i : Nat), Rps K I ds vs → Rps K I (ds.set i d) (vs.set i v)
  | _, _, _, .nil => .nil
  | _, _, 0, .cons _ r => .cons h r
  | _, _, i + 1, .cons q r => .cons q (Rps.set h i r)
theorem Rps.reverse : ∀ {ds : List DV} {vs : List V}, Rps K I ds vs → Rps K I ds.reverse vs.reverse
  | _, _, .nil => .nil
  | _, _, .cons h r => by
    rw [List.reverse_cons, List.reverse_cons]
    exact Rps.append (Rps.reverse r) (.cons h .nil)
theorem Rps.dropLast {ds : List DV} {vs : List V} (r : Rps K I ds vs) : Rps K I ds.dropLast vs.dropLast := by
  rw [List.dropLast_eq_take, List.dropLast_eq_take, r.length]; exact r.take _
theorem Rps.ints : ∀ {ns : List Int} {vs : List V}, Rps K I (ns.map DV.int) vs → vs = ns.map V.int
  | [], _, .nil => rfl
  | n :: ns, _, .cons h r => by
    cases h
    rw [Rps.ints r]; rfl
theorem Rps.of_ints : ∀ (ns : List Int), Rps K I (ns.map DV.int) (ns.map V.int)
  | [] => .nil
  | n :: ns => .cons (.int n) (Rps.of_ints ns)
theorem Rps.bls : ∀ {ns : List Bool} {vs : List V}, Rps K I (ns.map DV.bl) vs → vs = ns.map V.bl
  | [], _, .nil => rfl
  | n :: ns, _, .cons h r => by
    cases h
    rw [Rps.bls r]; rfl
theorem Rps.strs : ∀ {ns : List Str} {vs : List V}, Rps K I (ns.map DV.str) vs → vs = ns.map V.str
  | [], _, .nil => rfl
  | n :: ns, _, .cons h r => by
    cases h
    rw [Rps.strs r]; rfl
end

/-- the program, the world, the written part -/
structure Kx where
  P : Program
  w : World
  K : PySem.W.Frag
abbrev _root_.L2.Cx.kx (X : Cx) : Kx := ⟨X.prog, X.w, X.K⟩

mutual
/-- the key that some data are -/
def nk : DV → Option NestedKey
  | .non => some .none
  | .bl _ => none
  | .int i => some (.num i)
  | .str x => some (.text x)
  | .tup ds => (nks ds).map NestedKey.tup
  | .ty _ => none
  | .ref _ => none
  | .lst _ => none
  | .ins _ _ _ => none
  | .wl _ => none
def nks : List DV → Option (List NestedKey)
  | [] => some []
  | d :: ds => match nk d, nks ds with
    | some k, some ks => some (k :: ks)
    | _, _ => none
end
/-- the object at a is a dict with just these entries -/
def RawD (P : Program) (w : World) (a : Addr) (xs : List (NestedKey × Addr × Value)) (h : Heap) : Prop :=
  ∃ o es ep, h.get? a = some o ∧ o.ExactDict ∧ o.data = .dict es ep ∧ es.toList = xs.map (entryOfKey (nestedKind P w))
/-- one entry told: its key's tuple stays for ever -/
structure EntOk (K : PySem.W.Frag) (I : Hp) (p : NestedKey × DV) (x : NestedKey × Addr × Value) : Prop where
  key : p.1 = x.1
  tup : ∃ ds, Rp K I (.tup ds) (.ref x.2.1) ∧ nk (.tup ds) = some x.1
  deep : x.1.depth ≤ 8
  val : ∃ v, RelV v x.2.2 ∧ Rp K I p.2 v
inductive EntsOk (K : PySem.W.Frag) (I : Hp) : List (NestedKey × DV) → List (NestedKey × Addr × Value) → Prop
  | nil : EntsOk K I [] []
  | cons {p x ps xs} (h : EntOk K I p x) (r : EntsOk K I ps xs) : EntsOk K I (p :: ps) (x :: xs)

inductive RpO (k : Kx) (I : Hp) (a : Addr) : MO → HO → Prop
  | lst {ds : List DV} {vs : List V} (r : Rps k.K I ds vs) : RpO k I a (.lst ds) (.lst vs)
  | ins {C dx : Addr} {ks : List Str} {ds : List DV} {fs : List (Str × V)} (e : fs.map (·.1) = ks) (c : FOk k.K C ks) (r : Rps k.K I ds (fs.map (·.2))) : RpO k I a (.ins C dx ks ds) (.ins C dx fs)
  | dK {kvs : List (Key × DV)} {xs : List (Key × V)} (e : kvs.map (·.1) = xs.map (·.1)) (r : Rps k.K I (kvs.map (·.2)) (xs.map (·.2))) : RpO k I a (.dK kvs) (.dK xs)
  | dT {kvs : List (NestedKey × DV)} {xs : List (NestedKey × Addr × Value)} (nd : (xs.map (·.1)).Nodup) (na : (a == sysModules) = false) (few : xs.length ≤ sizeLine) (r : EntsOk k.K I kvs xs) : RpO k I a (.dT kvs) (.ext (RawD k.P k.w a xs))
theorem EntOk.mono {K : PySem.W.Frag} {I I' : Hp} {p x} (e : Ex I I') (h : EntOk K I p x) : EntOk K I' p x :=
  ⟨h.key, let ⟨ds, r, q⟩ := h.tup; ⟨ds, r.mono e, q⟩, h.deep, let ⟨v, r, q⟩ := h.val; ⟨v, r, q.mono e⟩⟩
theorem EntsOk.mono {K : PySem.W.Frag} {I I' : Hp} (e : Ex I I') : ∀ {ps xs}, EntsOk K I ps xs → EntsOk K I' ps xs
  | _, _, .nil => .nil
  | _, _, .cons h r => .cons (h.mono e) (EntsOk.mono e r)
theorem RpO.mono {k : Kx} {I I' : Hp} {a : Addr} {m : MO} {o : HO} (e : Ex I I') (h : RpO k I a m o) : RpO k I' a m o := by
  cases h with
  | lst r => exact .lst (r.mono e)
  | ins q c r => exact .ins q c (r.mono e)
  | dK q r => exact .dK q (r.mono e)
  | dT nd na few r => exact .dT nd na few (r.mono e)

/-- the heap H: what stays for ever (I), what is told by the ledger L, what is hidden and stays (F) -/
structure Ab (k : Kx) (I : Hp) (L : Led) (F H : Hp) : Prop where
  imm : Ex I H
  frm : Ex F H
  led : ∀ a m, L a = some m → I a = none ∧ F a = none ∧ ∃ o, H a = some o ∧ RpO k I a m o
  sep : ∀ a o, F a = some o → I a = none
section
variable {k : Kx} {I F H : Hp} {L : Led} {p : Addr} {o : HO} {m : MO}
theorem Ab.freeI (A : Ab k I L F H) (h : H p = none) : I p = none := A.imm.none h
theorem Ab.freeF (A : Ab k I L F H) (h : H p = none) : F p = none := A.frm.none h
theorem Ab.freeL (A : Ab k I L F H) (h : H p = none) : L p = none := by
  cases q : L p with
  | none => rfl
  | some m =>
    obtain ⟨_, _, o, e, _⟩ := A.led p m q
    rw [h] at e; cases e
/-- a new object for ever -/
theorem Ab.newI (A : Ab k I L F H) (h : H p = none) : Ab k (upd I p o) L F (upd H p o) where
  imm := fun a u e => by
    by_cases q : a = p
    · subst q; rw [upd_same] at e ⊢; exact e
    · rw [upd_ne q] at e ⊢; exact A.imm a u e
  frm := fun a u e => by rw [upd_ne (ne_of_none (A.frm a u e) h)]; exact A.frm a u e
  led := fun a n e => by
    obtain ⟨h1, h2, u, h3, h4⟩ := A.led a n e
    have q : a ≠ p := ne_of_none h3 h
    exact ⟨by rw [upd_ne q]; exact h1, h2, u, by rw [upd_ne q]; exact h3, h4.mono (Ex.new (A.freeI h))⟩
  sep := fun a u e => by rw [upd_ne (ne_of_none (A.frm a u e) h)]; exact A.sep a u e
/-- a new object on the ledger -/
theorem Ab.newL (A : Ab k I L F H) (h : H p = none) (r : RpO k I p m o) : Ab k I (updL L p m) F (upd H p o) where
  imm := fun a u e => by rw [upd_ne (ne_of_none (A.imm a u e) h)]; exact A.imm a u e
  frm := fun a u e => by rw [upd_ne (ne_of_none (A.frm a u e) h)]; exact A.frm a u e
  led := fun a n e => by
    by_cases q : a = p
    · subst q
      rw [updL_same] at e; cases e
      exact ⟨A.freeI h, A.freeF h, o, upd_same, r⟩
    · rw [updL_ne q] at e
      obtain ⟨h1, h2, u, h3, h4⟩ := A.led a n e
      exact ⟨h1, h2, u, by rw [upd_ne q]; exact h3, h4⟩
  sep := A.sep
/-- a new object, hidden -/
theorem Ab.newF (A : Ab k I L F H) (h : H p = none) : Ab k I L (upd F p o) (upd H p o) where
  imm := fun a u e => by rw [upd_ne (ne_of_none (A.imm a u e) h)]; exact A.imm a u e
  frm := fun a u e => by
    by_cases q : a = p
    · subst q; rw [upd_same] at e ⊢; exact e
    · rw [upd_ne q] at e ⊢; exact A.frm a u e
  led := fun a n e => by
    obtain ⟨h1, h2, u, h3, h4⟩ := A.led a n e
    have q : a ≠ p := ne_of_none h3 h
    exact ⟨h1, by rw [upd_ne q]; exact h2, u, by rw [upd_ne q]; exact h3, h4⟩
  sep := fun a u e => by
    by_cases q : a = p
    · subst q; exact A.freeI h
    · rw [upd_ne q] at e; exact A.sep a u e
/-- a new object that nobody tells -/
theorem Ab.lost (A : Ab k I L F H) (h : H p = none) : Ab k I L F (upd H p o) where
  imm := fun a u e => by rw [upd_ne (ne_of_none (A.imm a u e) h)]; exact A.imm a u e
  frm := fun a u e => by rw [upd_ne (ne_of_none (A.frm a u e) h)]; exact A.frm a u e
  led := fun a n e => by
    obtain ⟨h1, h2, u, h3, h4⟩ := A.led a n e
    exact ⟨h1, h2, u, by rw [upd_ne (ne_of_none h3 h)]; exact h3, h4⟩
  sep := A.sep
/-- an object of the ledger changed -/
theorem Ab.write {m' : MO} {o' : HO} (A : Ab k I L F H) (h : L p = some m) (r : RpO k I p m' o') : Ab k I (updL L p m') F (upd H p o') := by
  obtain ⟨h1, h2, o, h3, _⟩ := A.led p m h
  refine ⟨fun a u e => ?_, fun a u e => ?_, fun a n e => ?_, A.sep⟩
  · rw [upd_ne (ne_of_none e h1)]; exact A.imm a u e
  · rw [upd_ne (ne_of_none e h2)]; exact A.frm a u e
  · by_cases q : a = p
    · subst q
      rw [updL_same] at e; cases e
      exact ⟨h1, h2, o', upd_same, r⟩
    · rw [updL_ne q] at e
      obtain ⟨g1, g2, u, g3, g4⟩ := A.led a n e
      exact ⟨g1, g2, u, by rw [upd_ne q]; exact g3, g4⟩
/-- less is told -/
theorem Ab.sub {L2 : Led} (A : Ab k I L F H) (s : Sub L2 L) : Ab k I L2 F H := ⟨A.imm, A.frm, fun a m e => A.led a m (s a m e), A.sep⟩
/-- a list of the ledger stays for ever from now on -/
theorem Ab.freeze {ds : List DV} (A : Ab k I L F H) (h : L p = some (.lst ds)) : ∃ I', Ex I I' ∧ Ab k I' (delL L p) F H ∧ Rp k.K I' (.lst ds) (.ref p) := by
  obtain ⟨h1, h2, o, h3, h4⟩ := A.led p _ h
  cases h4 with
  | @lst _ vs r =>
    have e0 : Ex I (upd I p (.lst vs)) := Ex.new h1
    refine ⟨upd I p (.lst vs), e0, ⟨fun a u e => ?_, A.frm, fun a n e => ?_, fun a u e => ?_⟩, .lst upd_same (r.mono e0)⟩
    · by_cases q : a = p
      · subst q; rw [upd_same] at e; cases e; exact h3
      · rw [upd_ne q] at e; exact A.imm a u e
    · unfold delL at e
      by_cases q : a = p
      · rw [if_pos q] at e; cases e
      · rw [if_neg q] at e
        obtain ⟨g1, g2, u, g3, g4⟩ := A.led a n e
        exact ⟨by rw [upd_ne q]; exact g1, g2, u, g3, g4.mono e0⟩
    · have q : a ≠ p := by intro z; subst z; rw [h2] at e; cases e
      rw [upd_ne q]; exact A.sep a u e
theorem Ab.hold {o : HO} (A : Ab k I L F H) (h1 : I p = none) (h2 : F p = none) (h3 : H p = some o) : Ab k (upd I p o) (delL L p) F H := by
  have e0 : Ex I (upd I p o) := Ex.new h1
  refine ⟨fun a u e => ?_, A.frm, fun a n e => ?_, fun a u e => ?_⟩
  · by_cases q : a = p
    · subst q; rw [upd_same] at e; cases e; exact h3
    · rw [upd_ne q] at e; exact A.imm a u e
  · unfold delL at e
    by_cases q : a = p
    · rw [if_pos q] at e; cases e
    · rw [if_neg q] at e
      obtain ⟨g1, g2, u, g3, g4⟩ := A.led a n e
      exact ⟨by rw [upd_ne q]; exact g1, g2, u, g3, g4.mono e0⟩
  · have q : a ≠ p := by intro z; subst z; rw [h2] at e; cases e
    rw [upd_ne q]; exact A.sep a u e
/-- an instance of the ledger stays for ever from now on -/
theorem Ab.freezeI {C dx : Addr} {ks : List Str} {ds : List DV} (A : Ab k I L F H) (h : L p = some (.ins C dx ks ds)) : ∃ I', Ex I I' ∧ Ab k I' (delL L p) F H ∧ Rp k.K I' (.ins C ks ds) (.ref p) := by
  obtain ⟨h1, h2, o, h3, h4⟩ := A.led p _ h
  cases h4 with
  | ins e c r => exact ⟨_, Ex.new h1, A.hold h1 h2 h3, .ins upd_same e c (r.mono (Ex.new h1))⟩
/-- a hidden list comes to light -/
theorem Ab.unhide {vs : List V} {ds : List DV} (A : Ab k I L (upd F p (.lst vs)) H) (hF : F p = none) (r : Rps k.K I ds vs) : Ab k I (updL L p (.lst ds)) F H := by
  have hp : (upd F p (.lst vs)) p = some (.lst vs) := upd_same
  refine ⟨A.imm, fun a u e => A.frm a u (Ex.new hF a u e), fun a n e => ?_, fun a u e => A.sep a u (Ex.new hF a u e)⟩
  by_cases q : a = p
  · subst q
    rw [updL_same] at e; cases e
    exact ⟨A.sep _ _ hp, hF, .lst vs, A.frm _ _ hp, .lst r⟩
  · rw [updL_ne q] at e
    obtain ⟨g1, g2, u, g3, g4⟩ := A.led a n e
    rw [upd_ne q] at g2
    exact ⟨g1, g2, u, g3, g4⟩
end
end AL
namespace AL
open PySem PySem.Spec PyProof.Rows L2

abbrev Sl := List (Option DV)
abbrev PD := DV → Led → Prop
/-- what is wanted of an exception of a class of the program's own -/
abbrev PX := Addr → Sl → Led → Prop
abbrev AE := Sl → Led → PD → PX → Prop
abbrev AT := Sl → Led → (Bool → Led → Prop) → PX → Prop
abbrev AA := Sl → Led → (List DV → Led → Prop) → PX → Prop
structure AEnds where
  nx : Sl → Led → Prop
  rt : PD
  bk : Sl → Led → Prop
  ct : Sl → Led → Prop
  px : PX
abbrev AS := AEnds → Sl → Led → Prop

/-- the slots -/
def RpS (K : PySem.W.Frag) (I : Hp) (ρ : Sl) (σ : L2.St) : Prop := ρ.length = σ.length ∧ ∀ (i : Nat) (d : DV), ρ[i]? = some (some d) → ∃ v, σ[i]? = some (some v) ∧ Rp K I d v
theorem RpS.mono {K : PySem.W.Frag} {I I' : Hp} {ρ : Sl} {σ : L2.St} (e : Ex I I') (h : RpS K I ρ σ) : RpS K I' ρ σ :=
  ⟨h.1, fun i d q => let ⟨v, a, b⟩ := h.2 i d q; ⟨v, a, b.mono e⟩⟩
theorem RpS.set {K : PySem.W.Frag} {I : Hp} {ρ : Sl} {σ : L2.St} {d : DV} {v : V} (h : RpS K I ρ σ) (r : Rp K I d v) (i : Nat) : RpS K I (ρ.set i (some d)) (σ.set i (some v)) := by
  refine ⟨by rw [List.length_set, List.length_set]; exact h.1, fun j e q => ?_⟩
  by_cases hj : j = i
  · subst hj
    by_cases hl : j < ρ.length
    · rw [List.getElem?_set_self hl] at q
      cases q
      exact ⟨v, List.getElem?_set_self (by rw [← h.1]; exact hl), r⟩
    · rw [List.getElem?_eq_none (by rw [List.length_set]; omega)] at q; cases q
  · rw [List.getElem?_set_ne (Ne.symm hj)] at q
    rw [List.getElem?_set_ne (Ne.symm hj)]
    exact h.2 j e q
theorem RpS.setNone {K : PySem.W.Frag} {I : Hp} {ρ : Sl} {σ : L2.St} {w : Option V} (h : RpS K I ρ σ) (i : Nat) : RpS K I (ρ.set i none) (σ.set i w) := by
  refine ⟨by rw [List.length_set, List.length_set]; exact h.1, fun j e q => ?_⟩
  by_cases hj : j = i
  · subst hj
    by_cases hl : j < ρ.length
    · rw [List.getElem?_set_self hl] at q; cases q
    · rw [List.getElem?_eq_none (by rw [List.length_set]; omega)] at q; cases q
  · rw [List.getElem?_set_ne (Ne.symm hj)] at q
    rw [List.getElem?_set_ne (Ne.symm hj)]
    exact h.2 j e q
/-- the slot i made to hold other data for the same value -/
theorem RpS.re {K : PySem.W.Frag} {I : Hp} {ρ : Sl} {σ : L2.St} {d d' : DV} {i : Nat} (h : RpS K I ρ σ) (q : ρ[i]? = some (some d)) (r : ∀ v, Rp K I d v → Rp K I d' v) : RpS K I (ρ.set i (some d')) σ := by
  obtain ⟨v, e, x⟩ := h.2 i d q
  have := h.set (r v x) i
  have es : σ.set i (some v) = σ := by
    apply List.ext_getElem?
    intro j
    by_cases hj : j = i
    · subst hj
      rw [List.getElem?_set_self ((List.getElem?_eq_some_iff.mp e).1), e]
    · rw [List.getElem?_set_ne (Ne.symm hj)]
  rw [es] at this
  exact this

def Q2 (k : Kx) (I F : Hp) (P : PD) (Q : VK) : Prop := ∀ d L' v I' H', P d L' → Ab k I' L' F H' → Ex I I' → Rp k.K I' d v → Q v H'
def Q2b (k : Kx) (I F : Hp) (P : Bool → Led → Prop) (Q : Bool → Hp → Prop) : Prop := ∀ b L' I' H', P b L' → Ab k I' L' F H' → Ex I I' → Q b H'
def Q2a (k : Kx) (I F : Hp) (P : List DV → Led → Prop) (Q : List V → Hp → Prop) : Prop := ∀ ds L' vs I' H', P ds L' → Ab k I' L' F H' → Ex I I' → Rps k.K I' ds vs → Q vs H'
def X2 (k : Kx) (I F : Hp) (px : PX) (W : WX) : Prop := ∀ c ρ' σ' L' I' H', px c ρ' L' → Ab k I' L' F H' → Ex I I' → RpS k.K I' ρ' σ' → W (.ref c) none σ' H'
def S2 (k : Kx) (I F : Hp) (P : Sl → Led → Prop) (Q : L2.St → Hp → Prop) : Prop := ∀ ρ' L' σ' I' H', P ρ' L' → Ab k I' L' F H' → Ex I I' → RpS k.K I' ρ' σ' → Q σ' H'
theorem Q2.mono {k : Kx} {I I' F : Hp} {P : PD} {Q : VK} (h : Q2 k I F P Q) (e : Ex I I') : Q2 k I' F P Q := fun d L v J H p a x r => h d L v J H p a (e.trans x) r
theorem Q2b.mono {k : Kx} {I I' F : Hp} {P Q} (h : Q2b k I F P Q) (e : Ex I I') : Q2b k I' F P Q := fun d L J H p a x => h d L J H p a (e.trans x)
theorem Q2a.mono {k : Kx} {I I' F : Hp} {P Q} (h : Q2a k I F P Q) (e : Ex I I') : Q2a k I' F P Q := fun d L v J H p a x r => h d L v J H p a (e.trans x) r
theorem X2.mono {k : Kx} {I I' F : Hp} {px W} (h : X2 k I F px W) (e : Ex I I') : X2 k I' F px W := fun c ρ σ L J H p a x r => h c ρ σ L J H p a (e.trans x) r
theorem S2.mono {k : Kx} {I I' F : Hp} {P Q} (h : S2 k I F P Q) (e : Ex I I') : S2 k I' F P Q := fun ρ L σ J H p a x r => h ρ L σ J H p a (e.trans x) r
structure D2 (k : Kx) (I F : Hp) (AD : AEnds) (D : Ends) : Prop where
  nx : S2 k I F AD.nx D.nx
  rt : Q2 k I F AD.rt D.rt
  bk : S2 k I F AD.bk D.bk
  ct : S2 k I F AD.ct D.ct
theorem D2.mono {k : Kx} {I I' F : Hp} {AD D} (h : D2 k I F AD D) (e : Ex I I') : D2 k I' F AD D := ⟨h.nx.mono e, h.rt.mono e, h.bk.mono e, h.ct.mono e⟩

structure Stt (k : Kx) (W : WX) (σ : L2.St) (H I : Hp) (L : Led) (F : Hp) (ρ : Sl) (px : PX) : Prop where
  ab : Ab k I L F H
  rs : RpS k.K I ρ σ
  xx : X2 k I F px W
theorem Stt.go {k : Kx} {W : WX} {σ : L2.St} {H I : Hp} {L : Led} {F : Hp} {ρ : Sl} {px : PX} {H' I' : Hp} {L' : Led} (S : Stt k W σ H I L F ρ px) (A : Ab k I' L' F H') (e : Ex I I') : Stt k W σ H' I' L' F ρ px :=
  ⟨A, S.rs.mono e, S.xx.mono e⟩
theorem Stt.go2 {k : Kx} {W : WX} {σ : L2.St} {H I : Hp} {L : Led} {F : Hp} {ρ : Sl} {px : PX} {H' I' : Hp} {L' : Led} {σ' : L2.St} {ρ' : Sl} (S : Stt k W σ H I L F ρ px) (A : Ab k I' L' F H') (e : Ex I I') (r : RpS k.K I' ρ' σ') : Stt k W σ' H' I' L' F ρ' px :=
  ⟨A, r, S.xx.mono e⟩

def cE (k : Kx) (W : WX) (t : AE) : TE := fun σ H Q => ∃ I L F ρ P px, Stt k W σ H I L F ρ px ∧ t ρ L P px ∧ Q2 k I F P Q
def cT (k : Kx) (W : WX) (t : AT) : TT := fun σ H Q => ∃ I L F ρ P px, Stt k W σ H I L F ρ px ∧ t ρ L P px ∧ Q2b k I F P Q
def cA (k : Kx) (W : WX) (t : AA) : TA := fun σ H Q => ∃ I L F ρ P px, Stt k W σ H I L F ρ px ∧ t ρ L P px ∧ Q2a k I F P Q
def cS (k : Kx) (W : WX) (t : AS) : TS := fun D σ H => ∃ I L F ρ AD, Stt k W σ H I L F ρ AD.px ∧ t AD ρ L ∧ D2 k I F AD D

section
variable {X : Cx} {e : Expr} {es : List Expr} {st : Stmt} {sts : List Stmt}
theorem _root_.L2.PE.imp {t t' : TE} (h : PE X e t) (i : ∀ σ H Q, t' σ H Q → t σ H Q) : PE X e t' := ⟨fun pins s σ H Q I q => h.run pins s σ H Q I (i _ _ _ q)⟩
theorem _root_.L2.PT.imp {t t' : TT} (h : PT X e t) (i : ∀ σ H Q, t' σ H Q → t σ H Q) : PT X e t' := ⟨fun pins s σ H Q I q => h.run pins s σ H Q I (i _ _ _ q)⟩
theorem _root_.L2.PW.imp {t t' : TT} (h : PW X e t) (i : ∀ σ H Q, t' σ H Q → t σ H Q) : PW X e t' := ⟨fun w pins s σ H Q I q => h.run w pins s σ H Q I (i _ _ _ q)⟩
theorem _root_.L2.PA.imp {t t' : TA} (h : PA X es t) (i : ∀ σ H Q, t' σ H Q → t σ H Q) : PA X es t' := ⟨fun p pins s σ H Q I q => h.run p pins s σ H Q I (i _ _ _ q)⟩
theorem _root_.L2.PS.imp {t t' : TS} (h : PS X st t) (i : ∀ D σ H, t' D σ H → t D σ H) : PS X st t' := ⟨fun pins s σ H D I q => h.run pins s σ H D I (i _ _ _ q)⟩
theorem _root_.L2.PSs.imp {t t' : TS} (h : PSs X sts t) (i : ∀ D σ H, t' D σ H → t D σ H) : PSs X sts t' := ⟨fun pins s σ H D I q => h.run pins s σ H D I (i _ _ _ q)⟩
theorem _root_.L2.PT.or {t t' : TT} (h : PT X e t) (h' : PT X e t') : PT X e (fun σ H Q => t σ H Q ∨ t' σ H Q) := ⟨fun pins s σ H Q I q => q.elim (h.run pins s σ H Q I) (h'.run pins s σ H Q I)⟩
theorem _root_.L2.PE.or {t t' : TE} (h : PE X e t) (h' : PE X e t') : PE X e (fun σ H Q => t σ H Q ∨ t' σ H Q) := ⟨fun pins s σ H Q I q => q.elim (h.run pins s σ H Q I) (h'.run pins s σ H Q I)⟩
theorem _root_.L2.PI.imp {tg : Expr} {t t' : TI} (h : PI X tg e t) (i : ∀ σ H Q, t' σ H Q → t σ H Q) : PI X tg e t' := ⟨fun pins s σ H Q I q => h.run pins s σ H Q I (i _ _ _ q)⟩
theorem _root_.L2.PI.or {tg : Expr} {t t' : TI} (h : PI X tg e t) (h' : PI X tg e t') : PI X tg e (fun σ H Q => t σ H Q ∨ t' σ H Q) := ⟨fun pins s σ H Q I q => q.elim (h.run pins s σ H Q I) (h'.run pins s σ H Q I)⟩
end

/-! ### names, constants -/
def aVar (i : Nat) : AE := fun ρ L P _ => match ρ[i]? with
  | some (some d) => P d L
  | _ => False
def aC (d : DV) : AE := fun _ L P _ => P d L
section
variable {X : Cx} {W : WX} {x : Str} {pos : Pos}
theorem cvar {k : Kx} {i : Nat} (σ : L2.St) (H : Hp) (Q : VK) (h : cE k W (aVar i) σ H Q) : tVar i σ H Q := by
  obtain ⟨I, L, F, ρ, P, px, S, h, q⟩ := h
  unfold aVar at h
  split at h
  · rename_i d e
    obtain ⟨v, e1, r⟩ := S.rs.2 i d e
    exact ⟨v, e1, q d L v I H h S.ab (Ex.refl I) r⟩
  · exact h.elim
/-- the name in slot i -/
theorem av (i : Nat) (hN : X.N[i]? = some x := by rfl) (hv : Vis X.env.scope x := by first | exact Or.inl rfl | exact Or.inr (Or.inl rfl) | exact Or.inr (Or.inr rfl)) (hd : (x == ("__debug__" : Str)) = false := by decide)
    (hcd : (x == ("__classdict__" : Str)) = false := by decide) : PE X (.Name x pos) (cE X.kx W (aVar i)) := (pv i hN hv hd hcd).imp cvar
theorem cconst {k : Kx} {d : DV} {v : V} (r : ∀ I, Rp k.K I d v) (σ : L2.St) (H : Hp) (Q : VK) (h : cE k W (aC d) σ H Q) : tC v σ H Q := by
  obtain ⟨I, L, F, ρ, P, px, S, h, q⟩ := h
  exact q d L v I H h S.ab (Ex.refl I) (r I)
theorem a_int {i j} : PE X (.Constant (.int i) j pos) (cE X.kx W (aC (.int i))) := pe_int.imp (cconst fun _ => .int i)
theorem a_bl {b j} : PE X (.Constant (.bool b) j pos) (cE X.kx W (aC (.bl b))) := pe_bl.imp (cconst fun _ => .bl b)
theorem a_non {j} : PE X (.Constant .none j pos) (cE X.kx W (aC .non)) := pe_non.imp (cconst fun _ => .non)
theorem a_str {y j} : PE X (.Constant (.str y) j pos) (cE X.kx W (aC (.str y))) := pe_str.imp (cconst fun _ => .str y)
/-- a module's constant, class, def; a built-in as a value -/
theorem a_glob {d : DV} {v : V} {u : Value} (hg : Gl X x) (hm : X.mg x = some u) (r : RelV v u) (rd : ∀ I, Rp X.K I d v) (hd : (x == ("__debug__" : Str)) = false := by decide) : PE X (.Name x pos) (cE X.kx W (aC d)) := (pe_glob hg hm r hd).imp (cconst (k := X.kx) rd)
theorem a_bltn {n : String} (hg : Gl X x) (hm : X.mg x = none) (hv : bootBuiltins x = some (.type n)) (hn : x ≠ "__name__" := by decide) (hd : (x == ("__debug__" : Str)) = false := by decide) : PE X (.Name x pos) (cE X.kx W (aC (.ty n))) :=
  (pe_bltn (v := .ty n) hg hm hv rfl hn hd).imp (cconst fun _ => .ty n)
end

/-! ### two-place operations by values -/
abbrev AR2 := DV → DV → Led → PD → Prop
def AOp (k : Kx) (r : R2) (ro : AR2) : Prop := ∀ {I F H : Hp} {L : Led} {x y : DV} {xv yv : V} {P : PD} {Q : VK}, Ab k I L F H → Rp k.K I x xv → Rp k.K I y yv → ro x y L P → Q2 k I F P Q → r xv yv H Q
def aBin (ro : AR2) (ta tb : AE) : AE := fun ρ L P px => ta ρ L (fun x L1 => tb ρ L1 (fun y L2 => ro x y L2 P) px) px
section
variable {k : Kx} {W : WX} {r : R2} {ro : AR2} {ta tb : AE}
theorem cbin (hr : AOp k r ro) (σ : L2.St) (H : Hp) (Q : VK) (h : cE k W (aBin ro ta tb) σ H Q) : tOp r (cE k W ta) (cE k W tb) σ H Q := by
  obtain ⟨I, L, F, ρ, P, px, S, h, q⟩ := h
  exact ⟨I, L, F, ρ, _, px, S, h, fun x L1 xv I1 H1 h1 A1 e1 r1 => ⟨I1, L1, F, ρ, _, px, S.go A1 e1, h1, fun y L2 yv I2 H2 h2 A2 e2 r2 => hr A2 (r1.mono e2) r2 h2 (q.mono (e1.trans e2))⟩⟩
theorem AOp.or {r r' : R2} {ro ro' : AR2} (h : AOp k r ro) (h' : AOp k r' ro') : AOp k (fun x y H Q => r x y H Q ∨ r' x y H Q) (fun x y L P => ro x y L P ∨ ro' x y L P) :=
  fun A rx ry o q => o.elim (fun z => .inl (h A rx ry z q)) fun z => .inr (h' A rx ry z q)
end
section
variable {X : Cx} {W : WX} {a b c : Expr} {ta tb tc : AE} {pos : Pos} {r r' : R2} {ro ro' : AR2}
theorem a_bin {op : Operator} (ho : OpR X (binaryOp op) r) (hr : AOp X.kx r ro) (ha : PE X a (cE X.kx W ta)) (hb : PE X b (cE X.kx W tb)) : PE X (.BinOp a op b pos) (cE X.kx W (aBin ro ta tb)) := (pe_op ho ha hb).imp (cbin hr)
theorem a_ix (ho : IxR X r) (hr : AOp X.kx r ro) (ha : PE X a (cE X.kx W ta)) (hb : PE X b (cE X.kx W tb)) (hs : PlainIx b := by intro _ _; rfl) : PE X (.Subscript a b pos) (cE X.kx W (aBin ro ta tb)) := (pe_ix ho ha hb hs).imp (cbin hr)
theorem a_cmp {op : CmpOp} (ho : OpR X (compareOp op) r) (hr : AOp X.kx r ro) (ha : PE X a (cE X.kx W ta)) (hb : PE X b (cE X.kx W tb)) (hm : behindInMarks op b = false := by first | exact nomark _ | rfl) : PE X (.Compare a [op] [b] pos) (cE X.kx W (aBin ro ta tb)) := (pe_cmpR ho ha hb hm).imp (cbin hr)
/-- a test whose value is a bool -/
def aTest (te : AE) : AT := fun ρ L P px => te ρ L (fun d L' => match d with
  | .bl b => P b L'
  | _ => False) px
theorem ctest {k : Kx} {t : TE} {te : AE} (h : ∀ σ H Q, cE k W te σ H Q → t σ H Q) (σ : L2.St) (H : Hp) (Q : Bool → Hp → Prop) (q : cT k W (aTest te) σ H Q) : tTest t σ H Q := by
  obtain ⟨I, L, F, ρ, P, px, S, q, z⟩ := q
  refine h _ _ _ ⟨I, L, F, ρ, _, px, S, q, fun d L1 v I1 H1 h1 A1 e1 r1 => ?_⟩
  cases d <;> first | exact h1.elim | skip
  cases r1
  exact ⟨_, rfl, z _ L1 I1 H1 h1 A1 e1⟩
theorem t_cmp {op : CmpOp} (ho : OpR X (compareOp op) r) (hr : AOp X.kx r ro) (ha : PE X a (cE X.kx W ta)) (hb : PE X b (cE X.kx W tb)) (hm : behindInMarks op b = false := by first | exact nomark _ | rfl) : PT X (.Compare a [op] [b] pos) (cT X.kx W (aTest (aBin ro ta tb))) := (pt_cmpR ho ha hb hm).imp (ctest (cbin hr))
theorem t_val {e : Expr} {te : AE} (h : PE X e (cE X.kx W te)) (he : ∀ whole, isTrue e X.env whole = (do let v ← whole; standAt e.pos; holding [v] (truthy v)) := by intro _; rfl) : PT X e (cT X.kx W (aTest te)) :=
  (pt_val h he).imp (ctest fun _ _ _ z => z)
/-- a op b op' c -/
def aChain (ro ro' : AR2) (ta tb tc : AE) : AE := fun ρ L P px => ta ρ L (fun x L1 => tb ρ L1 (fun y L2 => ro x y L2 (fun z L3 => match z with
  | .bl b => (b = true → tc ρ L3 (fun w L4 => ro' y w L4 P) px) ∧ (b = false → P (.bl false) L3)
  | _ => False)) px) px
theorem cchain {k : Kx} (hr : AOp k r ro) (hr' : AOp k r' ro') (σ : L2.St) (H : Hp) (Q : VK) (h : cE k W (aChain ro ro' ta tb tc) σ H Q) : tChain r r' (cE k W ta) (cE k W tb) (cE k W tc) σ H Q := by
  obtain ⟨I, L, F, ρ, P, px, S, h, q⟩ := h
  refine ⟨I, L, F, ρ, _, px, S, h, fun x L1 xv I1 H1 h1 A1 e1 r1 => ⟨I1, L1, F, ρ, _, px, S.go A1 e1, h1, fun y L2 yv I2 H2 h2 A2 e2 r2 => hr A2 (r1.mono e2) r2 h2 fun z L3 zv I3 H3 h3 A3 e3 r3 => ?_⟩⟩
  cases z <;> first | exact h3.elim | skip
  rename_i b
  cases r3
  have e03 := (e1.trans e2).trans e3
  cases b with
  | true => exact ⟨true, rfl, ⟨I3, L3, F, ρ, _, px, S.go A3 e03, h3.1 rfl, fun w L4 wv I4 H4 h4 A4 e4 r4 => hr' A4 (r2.mono (e3.trans e4)) r4 h4 (q.mono (e03.trans e4))⟩⟩
  | false => exact ⟨false, rfl, q _ _ _ _ _ (h3.2 rfl) A3 e03 (.bl false)⟩
theorem a_chain {op op' : CmpOp} (ho : OpR X (compareOp op) r) (ho' : OpR X (compareOp op') r') (hr : AOp X.kx r ro) (hr' : AOp X.kx r' ro') (ha : PE X a (cE X.kx W ta)) (hb : PE X b (cE X.kx W tb)) (hc : PE X c (cE X.kx W tc)) (hm : lastMarks [op, op'] [b, c] = false := by rfl) : PE X (.Compare a [op, op'] [b, c] pos) (cE X.kx W (aChain ro ro' ta tb tc)) :=
  (pe_chain ho ho' ha hb hc hm).imp (cchain hr hr')
theorem t_chain {op op' : CmpOp} (ho : OpR X (compareOp op) r) (ho' : OpR X (compareOp op') r') (hr : AOp X.kx r ro) (hr' : AOp X.kx r' ro') (ha : PE X a (cE X.kx W ta)) (hb : PE X b (cE X.kx W tb)) (hc : PE X c (cE X.kx W tc)) (hm : lastMarks [op, op'] [b, c] = false := by rfl) : PT X (.Compare a [op, op'] [b, c] pos) (cT X.kx W (aTest (aChain ro ro' ta tb tc))) :=
  (pt_chain ho ho' ha hb hc hm).imp (ctest (cchain hr hr'))
end

/-! ### and, or, not; conditional expressions -/
def aAnd (t u : AT) : AT := fun ρ L P px => t ρ L (fun c L1 => (c = true → u ρ L1 P px) ∧ (c = false → P false L1)) px
def aOr (t u : AT) : AT := fun ρ L P px => t ρ L (fun c L1 => (c = true → P true L1) ∧ (c = false → u ρ L1 P px)) px
def aNot (t : AT) : AT := fun ρ L P px => t ρ L (fun c L1 => P (!c) L1) px
def aIfE (t : AT) (ta tb : AE) : AE := fun ρ L P px => t ρ L (fun c L1 => (c = true → ta ρ L1 P px) ∧ (c = false → tb ρ L1 P px)) px
/-- .. of bools as values -/
def aAndV (ta tb : AE) : AE := fun ρ L P px => ta ρ L (fun d L1 => match d with
  | .bl c => (c = true → tb ρ L1 P px) ∧ (c = false → P (.bl false) L1)
  | _ => False) px
def aOrV (ta tb : AE) : AE := fun ρ L P px => ta ρ L (fun d L1 => match d with
  | .bl c => (c = true → P (.bl true) L1) ∧ (c = false → tb ρ L1 P px)
  | _ => False) px
def aNotV (t : AT) : AE := fun ρ L P px => t ρ L (fun c L1 => P (.bl (!c)) L1) px
section
variable {X : Cx} {W : WX} {a b c : Expr} {t u : AT} {ta tb : AE} {pos : Pos} {rest : List Expr}
theorem w_and1 (ha : PT X a (cT X.kx W t)) : PW X (.BoolOp .And [a] pos) (cT X.kx W t) := pw_and1 ha
theorem w_or1 (ha : PT X a (cT X.kx W t)) : PW X (.BoolOp .Or [a] pos) (cT X.kx W t) := pw_or1 ha
theorem w_and (ha : PT X a (cT X.kx W t)) (hb : PW X (.BoolOp .And (b :: rest) pos) (cT X.kx W u)) : PW X (.BoolOp .And (a :: b :: rest) pos) (cT X.kx W (aAnd t u)) :=
  (pw_and ha hb).imp fun σ H Q ⟨I, L, F, ρ, P, px, S, h, q⟩ => ⟨I, L, F, ρ, _, px, S, h, fun c L1 I1 H1 h1 A1 e1 => by
    cases c with
    | true => exact iteT ⟨I1, L1, F, ρ, _, px, S.go A1 e1, h1.1 rfl, q.mono e1⟩
    | false => exact iteF (q _ _ _ _ (h1.2 rfl) A1 e1)⟩
theorem w_or (ha : PT X a (cT X.kx W t)) (hb : PW X (.BoolOp .Or (b :: rest) pos) (cT X.kx W u)) : PW X (.BoolOp .Or (a :: b :: rest) pos) (cT X.kx W (aOr t u)) :=
  (pw_or ha hb).imp fun σ H Q ⟨I, L, F, ρ, P, px, S, h, q⟩ => ⟨I, L, F, ρ, _, px, S, h, fun c L1 I1 H1 h1 A1 e1 => by
    cases c with
    | true => exact iteT (q _ _ _ _ (h1.1 rfl) A1 e1)
    | false => exact iteF ⟨I1, L1, F, ρ, _, px, S.go A1 e1, h1.2 rfl, q.mono e1⟩⟩
theorem t_not (ha : PT X a (cT X.kx W t)) : PT X (.UnaryOp .Not a pos) (cT X.kx W (aNot t)) :=
  (pt_not ha).imp fun σ H Q ⟨I, L, F, ρ, P, px, S, h, q⟩ => ⟨I, L, F, ρ, _, px, S, h, fun c L1 I1 H1 h1 A1 e1 => q _ _ _ _ h1 A1 e1⟩
theorem a_ifE (hc : PT X c (cT X.kx W t)) (ha : PE X a (cE X.kx W ta)) (hb : PE X b (cE X.kx W tb)) : PE X (.IfExp c a b pos) (cE X.kx W (aIfE t ta tb)) :=
  (pe_ifExp hc ha hb).imp fun σ H Q ⟨I, L, F, ρ, P, px, S, h, q⟩ => ⟨I, L, F, ρ, _, px, S, h, fun c L1 I1 H1 h1 A1 e1 => by
    cases c with
    | true => exact iteT ⟨I1, L1, F, ρ, _, px, S.go A1 e1, h1.1 rfl, q.mono e1⟩
    | false => exact iteF ⟨I1, L1, F, ρ, _, px, S.go A1 e1, h1.2 rfl, q.mono e1⟩⟩
theorem a_one {op} (h : PE X a (cE X.kx W ta)) : PE X (.BoolOp op [a] pos) (cE X.kx W ta) := pe_one h
theorem a_and (ha : PE X a (cE X.kx W ta)) (hb : PE X (.BoolOp .And (b :: rest) pos) (cE X.kx W tb)) : PE X (.BoolOp .And (a :: b :: rest) pos) (cE X.kx W (aAndV ta tb)) :=
  (pe_and ha hb).imp fun σ H Q ⟨I, L, F, ρ, P, px, S, h, q⟩ => ⟨I, L, F, ρ, _, px, S, h, fun d L1 v I1 H1 h1 A1 e1 r1 => by
    cases d <;> first | exact h1.elim | skip
    rename_i c
    cases r1
    refine ⟨c, rfl, ?_⟩
    cases c with
    | true => exact iteT ⟨I1, L1, F, ρ, _, px, S.go A1 e1, h1.1 rfl, q.mono e1⟩
    | false => exact iteF (q _ _ _ _ _ (h1.2 rfl) A1 e1 (.bl false))⟩
theorem a_or (ha : PE X a (cE X.kx W ta)) (hb : PE X (.BoolOp .Or (b :: rest) pos) (cE X.kx W tb)) : PE X (.BoolOp .Or (a :: b :: rest) pos) (cE X.kx W (aOrV ta tb)) :=
  (pe_or ha hb).imp fun σ H Q ⟨I, L, F, ρ, P, px, S, h, q⟩ => ⟨I, L, F, ρ, _, px, S, h, fun d L1 v I1 H1 h1 A1 e1 r1 => by
    cases d <;> first | exact h1.elim | skip
    rename_i c
    cases r1
    refine ⟨c, rfl, ?_⟩
    cases c with
    | true => exact iteT (q _ _ _ _ _ (h1.1 rfl) A1 e1 (.bl true))
    | false => exact iteF ⟨I1, L1, F, ρ, _, px, S.go A1 e1, h1.2 rfl, q.mono e1⟩⟩
end
end AL
namespace AL
open PySem PySem.Spec PyProof.Rows L2

/-! ### lists as they are met: data, or of the ledger -/
def withL (L : Led) (x : DV) (q : List DV → Prop) : Prop := match x with
  | .lst xs => q xs
  | .ref a => ∃ ds, L a = some (.lst ds) ∧ q ds
  | _ => False
/-- list or tuple -/
def withSq (L : Led) (x : DV) (q : List DV → Prop) : Prop := match x with
  | .lst xs => q xs
  | .tup xs => q xs
  | .wl xs => q xs
  | .ref a => ∃ ds, L a = some (.lst ds) ∧ q ds
  | _ => False
/-- a new list: one that may change, or (what is the weaker word) data -/
def newL (ds : List DV) (L : Led) (P : PD) : Prop := (∀ a, L a = none → P (.ref a) (updL L a (.lst ds))) ∨ P (.lst ds) L
section
variable {k : Kx} {I F H : Hp} {L : Led} {x : DV} {xv : V} {P : PD} {Q : VK}
theorem withL_ok {q : List DV → Prop} (A : Ab k I L F H) (r : Rp k.K I x xv) (h : withL L x q) : ∃ a vs ds, xv = .ref a ∧ H a = some (.lst vs) ∧ Rps k.K I ds vs ∧ q ds := by
  cases r <;> try exact h.elim
  case ref a =>
    obtain ⟨ds, e, h⟩ := h
    obtain ⟨_, _, o, e2, r2⟩ := A.led a _ e
    cases r2 with
    | lst r => exact ⟨a, _, ds, rfl, e2, r, h⟩
  case lst a vs ds e r => exact ⟨a, vs, ds, rfl, A.imm _ _ e, r, h⟩
theorem withSq_ok {q : List DV → Prop} (A : Ab k I L F H) (r : Rp k.K I x xv) (h : withSq L x q) : ∃ a vs ds, xv = .ref a ∧ (SqL k.K H a vs ∨ SqT k.K H a vs) ∧ Rps k.K I ds vs ∧ q ds := by
  cases r <;> try exact h.elim
  case ref a =>
    obtain ⟨ds, e, h⟩ := h
    obtain ⟨_, _, o, e2, r2⟩ := A.led a _ e
    cases r2 with
    | lst r => exact ⟨a, _, ds, rfl, .inl (SqL.of e2), r, h⟩
  case lst a vs ds e r => exact ⟨a, vs, ds, rfl, .inl (SqL.of (A.imm _ _ e)), r, h⟩
  case wl a vs ds e r => exact ⟨a, vs, ds, rfl, .inl (A.imm.l e), r, h⟩
  case tup a vs ds e r => exact ⟨a, vs, ds, rfl, .inr (A.imm.t e), r, h⟩
theorem newL_ok {ds : List DV} {vs : List V} (A : Ab k I L F H) (r : Rps k.K I ds vs) (h : newL ds L P) (q : Q2 k I F P Q) : ∀ p, H p = none → Q (.ref p) (upd H p (.lst vs)) := fun p hp => by
  rcases h with h | h
  · exact q _ _ _ _ _ (h p (A.freeL hp)) (A.newL hp (.lst r)) (Ex.refl I) (.ref p)
  · exact q _ _ _ _ _ h (A.newI hp) (Ex.new (A.freeI hp)) (.lst upd_same (r.mono (Ex.new (A.freeI hp))))
theorem newT_ok {ds : List DV} {vs : List V} (A : Ab k I L F H) (r : Rps k.K I ds vs) (h : P (.tup ds) L) (q : Q2 k I F P Q) : ∀ p, H p = none → Q (.ref p) (upd H p (.tup vs)) := fun p hp =>
  q _ _ _ _ _ h (A.newI hp) (Ex.new (A.freeI hp)) (.tup (SqT.of upd_same) (r.mono (Ex.new (A.freeI hp))))
theorem here (A : Ab k I L F H) (r : Rp k.K I x xv) (h : P x L) (q : Q2 k I F P Q) : Q xv H := q _ _ _ _ _ h A (Ex.refl I) r
end

/-! ### arithmetic -/
def oI (C : Int → Int → Prop) (g : Int → Int → DV) : AR2 := fun x y L P => match x, y with
  | .int i, .int j => C i j ∧ P (g i j) L
  | _, _ => False
def oI0 (g : Int → Int → DV) : AR2 := fun x y L P => match x, y with
  | .int i, .int j => P (g i j) L
  | _, _ => False
section
variable {k : Kx}
theorem oI_ok {C : Int → Int → Prop} {g : Int → Int → DV} {g' : Int → Int → V} (hg : ∀ i j I, Rp k.K I (g i j) (g' i j)) : AOp k (rI C g') (oI C g) := by
  intro I F H L x y xv yv P Q A rx ry h q
  cases rx <;> try exact h.elim
  cases ry <;> try exact h.elim
  exact ⟨_, _, rfl, rfl, h.1, here A (hg _ _ _) h.2 q⟩
theorem oI0_ok {g : Int → Int → DV} {g' : Int → Int → V} (hg : ∀ i j I, Rp k.K I (g i j) (g' i j)) : AOp k (rI0 g') (oI0 g) := by
  intro I F H L x y xv yv P Q A rx ry h q
  cases rx <;> try exact h.elim
  cases ry <;> try exact h.elim
  exact ⟨_, _, rfl, rfl, here A (hg _ _ _) h q⟩
end
abbrev oSub : AR2 := oI0 fun i j => .int (i - j)
abbrev oMul : AR2 := oI CMul fun i j => .int (i * j)
abbrev oMod : AR2 := oI (fun _ j => 0 < j) fun i j => .int (i % j)
abbrev oDiv : AR2 := oI CDivW fun i j => .int (i / j)
abbrev oPow : AR2 := oI CPow fun i j => .int (i ^ j.toNat)
abbrev oShl : AR2 := oI CPow fun i j => .int (i * 2 ^ j.toNat)
abbrev oShr : AR2 := oI (fun _ j => 0 ≤ j) fun i j => .int (i / 2 ^ j.toNat)
abbrev oAnd : AR2 := oI0 fun i j => .int (Builtin.bitAnd i j)
abbrev oXor : AR2 := oI0 fun i j => .int (Builtin.bitXor i j)
abbrev oLt : AR2 := oI0 fun i j => .bl (decide (i < j))
abbrev oLe : AR2 := oI0 fun i j => .bl (decide (i ≤ j))
abbrev oGt : AR2 := oI0 fun i j => .bl (decide (j < i))
abbrev oGe : AR2 := oI0 fun i j => .bl (decide (j ≤ i))
/-- + of ints, texts, tuples, lists -/
def oAdd : AR2 := fun x y L P => match x, y with
  | .int i, .int j => P (.int (i + j)) L
  | .str a, .str b => a.length + b.length ≤ sizeLine ∧ P (.str (a ++ b)) L
  | .tup a, .tup b => a.length + b.length ≤ sizeLine ∧ P (.tup (a ++ b)) L
  | x, y => withL L x fun a => withL L y fun b => a.length + b.length ≤ sizeLine ∧ newL (a ++ b) L P
abbrev rAdd4 (K : PySem.W.Frag) : R2 := fun x y H Q => rI0 (fun i j => .int (i + j)) x y H Q ∨ (∃ i j, x = .str i ∧ y = .str j ∧ i.length + j.length ≤ sizeLine ∧ Q (.str (i ++ j)) H) ∨ rCatA K x y H Q ∨ rCat x y H Q
theorem opAdd {X : Cx} : OpR X (binaryOp .Add) (rAdd4 X.K) := op_add.or (op_add_str.or (op_catA.or op_cat))
theorem oAdd_ok {k : Kx} : AOp k (rAdd4 k.K) oAdd := by
  intro I F H L x y xv yv P Q A rx ry h q
  unfold oAdd at h
  split at h
  · cases rx; cases ry
    exact .inl ⟨_, _, rfl, rfl, here A (.int _) h q⟩
  · cases rx; cases ry
    exact .inr (.inl ⟨_, _, rfl, rfl, h.1, here A (.str _) h.2 q⟩)
  · cases rx with | tup hx r => ?_
    cases ry with | tup hy s => ?_
    rw [r.length, s.length] at h
    refine .inr (.inr (.inl ⟨_, _, _, _, rfl, rfl, A.imm.t hx, A.imm.t hy, h.1, fun e => ?_, fun e1 e2 => ?_, fun e1 e2 p hp => newT_ok A (r.append s) h.2 q p hp⟩))
    · subst e; cases r
      exact here A (.tup hy s) h.2 q
    · subst e2; cases s
      have h2 := h.2
      rw [List.append_nil] at h2
      exact here A (.tup hx r) h2 q
  · obtain ⟨a, vs, ds, rfl, ha, r, h⟩ := withL_ok A rx h
    obtain ⟨b, us, es, rfl, hb, s, hz, h⟩ := withL_ok A ry h
    rw [r.length, s.length] at hz
    exact .inr (.inr (.inr ⟨_, _, _, _, rfl, rfl, ha, hb, hz, newL_ok A (r.append s) h q⟩))
/-- list * int beside int * int -/
def oMulL : AR2 := fun x y L P => match x, y with
  | .int i, .int j => CMul i j ∧ P (.int (i * j)) L
  | x, .int j => withL L x fun a => -(2 ^ 63) ≤ j ∧ j < 2 ^ 63 ∧ a.length * j.toNat ≤ sizeLine ∧ newL (List.replicate j.toNat a).flatten L P
  | _, _ => False
theorem Rps.rep {K : PySem.W.Frag} {I : Hp} {ds : List DV} {vs : List V} (h : Rps K I ds vs) : ∀ n : Nat, Rps K I (List.replicate n ds).flatten (List.replicate n vs).flatten
  | 0 => .nil
  | n + 1 => by rw [List.replicate_succ, List.replicate_succ, List.flatten_cons, List.flatten_cons]; exact h.append (Rps.rep h n)
theorem oMulL_ok {k : Kx} : AOp k (fun x y H Q => rI CMul (fun i j => .int (i * j)) x y H Q ∨ rRep x y H Q) oMulL := by
  intro I F H L x y xv yv P Q A rx ry h q
  unfold oMulL at h
  split at h
  · cases rx; cases ry
    exact .inl ⟨_, _, rfl, rfl, h.1, here A (.int _) h.2 q⟩
  · cases ry
    obtain ⟨a, vs, ds, rfl, ha, r, h1, h2, hz, h⟩ := withL_ok A rx h
    rw [r.length] at hz
    exact .inr ⟨_, _, _, rfl, rfl, ha, h1, h2, hz, newL_ok A (r.rep _) h q⟩
  · exact h.elim
theorem opMulL {X : Cx} : OpR X (binaryOp .Mult) (fun x y H Q => rI CMul (fun i j => .int (i * j)) x y H Q ∨ rRep x y H Q) := op_mul.or op_rep
section
variable {X : Cx} {W : WX} {a b : Expr} {ta tb : AE} {pos : Pos}
theorem a_add (ha : PE X a (cE X.kx W ta)) (hb : PE X b (cE X.kx W tb)) : PE X (.BinOp a .Add b pos) (cE X.kx W (aBin oAdd ta tb)) := a_bin opAdd oAdd_ok ha hb
theorem a_sub (ha : PE X a (cE X.kx W ta)) (hb : PE X b (cE X.kx W tb)) : PE X (.BinOp a .Sub b pos) (cE X.kx W (aBin oSub ta tb)) := a_bin op_sub (oI0_ok fun _ _ _ => .int _) ha hb
theorem a_mul (ha : PE X a (cE X.kx W ta)) (hb : PE X b (cE X.kx W tb)) : PE X (.BinOp a .Mult b pos) (cE X.kx W (aBin oMulL ta tb)) := a_bin opMulL oMulL_ok ha hb
theorem a_mod (ha : PE X a (cE X.kx W ta)) (hb : PE X b (cE X.kx W tb)) : PE X (.BinOp a .Mod b pos) (cE X.kx W (aBin oMod ta tb)) := a_bin op_mod (oI_ok fun _ _ _ => .int _) ha hb
theorem a_div (ha : PE X a (cE X.kx W ta)) (hb : PE X b (cE X.kx W tb)) : PE X (.BinOp a .FloorDiv b pos) (cE X.kx W (aBin oDiv ta tb)) := a_bin op_fdivW (oI_ok fun _ _ _ => .int _) ha hb
theorem a_pow (ha : PE X a (cE X.kx W ta)) (hb : PE X b (cE X.kx W tb)) : PE X (.BinOp a .Pow b pos) (cE X.kx W (aBin oPow ta tb)) := a_bin op_pow (oI_ok fun _ _ _ => .int _) ha hb
theorem a_shl (ha : PE X a (cE X.kx W ta)) (hb : PE X b (cE X.kx W tb)) : PE X (.BinOp a .LShift b pos) (cE X.kx W (aBin oShl ta tb)) := a_bin op_shl (oI_ok fun _ _ _ => .int _) ha hb
theorem a_shr (ha : PE X a (cE X.kx W ta)) (hb : PE X b (cE X.kx W tb)) : PE X (.BinOp a .RShift b pos) (cE X.kx W (aBin oShr ta tb)) := a_bin op_shr (oI_ok fun _ _ _ => .int _) ha hb
theorem a_band (ha : PE X a (cE X.kx W ta)) (hb : PE X b (cE X.kx W tb)) : PE X (.BinOp a .BitAnd b pos) (cE X.kx W (aBin oAnd ta tb)) := a_bin op_and (oI0_ok fun _ _ _ => .int _) ha hb
theorem a_xor (ha : PE X a (cE X.kx W ta)) (hb : PE X b (cE X.kx W tb)) : PE X (.BinOp a .BitXor b pos) (cE X.kx W (aBin oXor ta tb)) := a_bin op_xor (oI0_ok fun _ _ _ => .int _) ha hb
/-- -a -/
def aNeg (ta : AE) : AE := fun ρ L P px => ta ρ L (fun x L1 => match x with
  | .int i => P (.int (-i)) L1
  | _ => False) px
theorem a_neg (ha : PE X a (cE X.kx W ta)) : PE X (.UnaryOp .USub a pos) (cE X.kx W (aNeg ta)) :=
  (pe_un un_neg ha).imp fun σ H Q ⟨I, L, F, ρ, P, px, S, h, q⟩ => ⟨I, L, F, ρ, _, px, S, h, fun d L1 v I1 H1 h1 A1 e1 r1 => by
    cases r1 <;> try exact h1.elim
    exact ⟨_, rfl, here A1 (.int _) h1 (q.mono e1)⟩⟩
end

/-! ### comparisons -/
def oScal (neg : Bool) : AR2 := fun x y L P => match x, y with
  | .int i, .int j => P (.bl (neg ^^ decide (i = j))) L
  | .str i, .str j => P (.bl (neg ^^ decide (i = j))) L
  | .bl i, .bl j => P (.bl (neg ^^ decide (i = j))) L
  | .non, .non => P (.bl (neg ^^ true)) L
  | .non, .int _ => P (.bl (neg ^^ false)) L
  | .int _, .non => P (.bl (neg ^^ false)) L
  | .non, .str _ => P (.bl (neg ^^ false)) L
  | .str _, .non => P (.bl (neg ^^ false)) L
  | .int _, .str _ => P (.bl (neg ^^ false)) L
  | .str _, .int _ => P (.bl (neg ^^ false)) L
  | .bl _, .str _ => P (.bl (neg ^^ false)) L
  | .str _, .bl _ => P (.bl (neg ^^ false)) L
  | .bl _, .non => P (.bl (neg ^^ false)) L
  | .non, .bl _ => P (.bl (neg ^^ false)) L
  | _, _ => False
mutual
/-- nested data as the model's == knows them; lists of the ledger as they stand -/
inductive PyOf (L : Led) : DV → PyData → Prop
  | non : PyOf L .non .none
  | bl (b : Bool) : PyOf L (.bl b) (.bool b)
  | int (i : Int) : PyOf L (.int i) (.int i)
  | str (x : Str) : PyOf L (.str x) (.str x)
  | lst {ds : List DV} {ps : List PyData} (h : PyOfs L ds ps) : PyOf L (.lst ds) (.list ps)
  | tup {ds : List DV} {ps : List PyData} (h : PyOfs L ds ps) : PyOf L (.tup ds) (.tuple ps)
  | ref {a : Addr} {ds : List DV} {ps : List PyData} (e : L a = some (.lst ds)) (h : PyOfs L ds ps) : PyOf L (.ref a) (.list ps)
inductive PyOfs (L : Led) : List DV → List PyData → Prop
  | nil : PyOfs L [] []
  | cons {d : DV} {p : PyData} {ds : List DV} {ps : List PyData} (h : PyOf L d p) (r : PyOfs L ds ps) : PyOfs L (d :: ds) (p :: ps)
end
section
variable {k : Kx} {I F H : Hp} {L : Led}
mutual
theorem PyOf.dp (A : Ab k I L F H) : ∀ {d : DV} {p : PyData} {v : V}, PyOf L d p → Rp k.K I d v → Dp k.K H v p
  | _, _, _, .non, r => by cases r; exact .non
  | _, _, _, .bl b, r => by cases r; exact .bl b
  | _, _, _, .int b, r => by cases r; exact .int b
  | _, _, _, .str b, r => by cases r; exact .str b
  | _, _, _, .lst h, r => by
    cases r with
    | lst e r => exact .lst (SqL.of (A.imm _ _ e)) (PyOfs.dp A h r)
  | _, _, _, .tup h, r => by
    cases r with
    | tup e r => exact .tup (A.imm.t e) (PyOfs.dp A h r)
  | _, _, _, .ref e h, r => by
    cases r
    obtain ⟨_, _, o, e2, r2⟩ := A.led _ _ e
    cases r2 with
    | lst r => exact .lst (SqL.of e2) (PyOfs.dp A h r)
theorem PyOfs.dp (A : Ab k I L F H) : ∀ {ds : List DV} {ps : List PyData} {vs : List V}, PyOfs L ds ps → Rps k.K I ds vs → DpAll k.K H vs ps
  | _, _, _, .nil, r => by cases r; exact .nil
  | _, _, _, .cons h t, r => by
    cases r with
    | cons r1 r2 => exact .cons (PyOf.dp A h r1) (PyOfs.dp A t r2)
end
end
/-- == of nested data -/
def oDeep (neg : Bool) : AR2 := fun x y L P => ∃ d e, PyOf L x d ∧ PyOf L y e ∧ SeqAt.shaped d = true ∧ SeqAt.shaped e = true ∧ P (.bl (neg ^^ PyData.eqv d e)) L
def oEqN (neg : Bool) : AR2 := fun x y L P => match x, y with
  | .lst a, y => oDeep neg (.lst a) y L P
  | .tup a, y => oDeep neg (.tup a) y L P
  | .ref a, y => oDeep neg (.ref a) y L P
  | x, .lst a => oDeep neg x (.lst a) L P
  | x, .tup a => oDeep neg x (.tup a) L P
  | x, .ref a => oDeep neg x (.ref a) L P
  | x, y => oScal neg x y L P
abbrev oEq : AR2 := oEqN false
abbrev oNe : AR2 := oEqN true
section
variable {k : Kx}
theorem oScal_ok : AOp k rEq (oScal false) := by
  intro I F H L x y xv yv P Q A rx ry h q
  unfold oScal at h
  split at h <;> first | exact h.elim | (cases rx; cases ry; refine ⟨rfl, ?_⟩; simp only [Bool.false_bne, Bool.false_xor] at h; first | (rw [dec_int, Int.beq_eq_decide_eq] ; exact here A (.bl _) h q) | (rw [dec_str]; refine here A (.bl _) ?_ q; simpa using h) | (rw [dec_bl]; refine here A (.bl _) ?_ q; simpa using h) | (refine here A (.bl _) ?_ q; simpa using h))
theorem oScalN_ok : AOp k rNe (oScal true) := by
  intro I F H L x y xv yv P Q A rx ry h q
  unfold oScal at h
  split at h <;> first | exact h.elim | (cases rx; cases ry; refine ⟨rfl, here A (.bl _) ?_ q⟩; simpa using h)
theorem oDeep_ok : AOp k (rEqD k.K) (oDeep false) := by
  intro I F H L x y xv yv P Q A rx ry h q
  obtain ⟨d, e, hd, he, sd, se, h⟩ := h
  rw [Bool.false_xor] at h
  exact ⟨d, e, hd.dp A rx, he.dp A ry, sd, se, here A (.bl _) h q⟩
theorem oDeepN_ok : AOp k (rNeD k.K) (oDeep true) := by
  intro I F H L x y xv yv P Q A rx ry h q
  obtain ⟨d, e, hd, he, sd, se, h⟩ := h
  rw [Bool.true_xor] at h
  exact ⟨d, e, hd.dp A rx, he.dp A ry, sd, se, here A (.bl _) h q⟩
theorem oEq_ok : AOp k (fun x y H Q => rEq x y H Q ∨ rEqD k.K x y H Q) oEq := by
  intro I F H L x y xv yv P Q A rx ry h q
  unfold oEq oEqN at h
  split at h <;> first | exact .inr (oDeep_ok A rx ry h q) | exact .inl (oScal_ok A rx ry h q)
theorem oNe_ok : AOp k (fun x y H Q => rNe x y H Q ∨ rNeD k.K x y H Q) oNe := by
  intro I F H L x y xv yv P Q A rx ry h q
  unfold oNe oEqN at h
  split at h <;> first | exact .inr (oDeepN_ok A rx ry h q) | exact .inl (oScalN_ok A rx ry h q)
end
section
variable {X : Cx} {W : WX} {a b c : Expr} {ta tb tc : AE} {pos : Pos}
theorem opEq (hu : X.A.units + 64 < cLine) : OpR X (compareOp .Eq) (fun x y H Q => rEq x y H Q ∨ rEqD X.K x y H Q) := op_eq.or (op_eqD hu)
theorem opNe (hu : X.A.units + 64 < cLine) : OpR X (compareOp .NotEq) (fun x y H Q => rNe x y H Q ∨ rNeD X.K x y H Q) := op_ne.or (op_neD hu)
theorem a_eq (hu : X.A.units + 64 < cLine) (ha : PE X a (cE X.kx W ta)) (hb : PE X b (cE X.kx W tb)) : PE X (.Compare a [.Eq] [b] pos) (cE X.kx W (aBin oEq ta tb)) := a_cmp (opEq hu) oEq_ok ha hb
theorem a_ne (hu : X.A.units + 64 < cLine) (ha : PE X a (cE X.kx W ta)) (hb : PE X b (cE X.kx W tb)) : PE X (.Compare a [.NotEq] [b] pos) (cE X.kx W (aBin oNe ta tb)) := a_cmp (opNe hu) oNe_ok ha hb
theorem t_eq (hu : X.A.units + 64 < cLine) (ha : PE X a (cE X.kx W ta)) (hb : PE X b (cE X.kx W tb)) : PT X (.Compare a [.Eq] [b] pos) (cT X.kx W (aTest (aBin oEq ta tb))) := t_cmp (opEq hu) oEq_ok ha hb
theorem t_ne (hu : X.A.units + 64 < cLine) (ha : PE X a (cE X.kx W ta)) (hb : PE X b (cE X.kx W tb)) : PT X (.Compare a [.NotEq] [b] pos) (cT X.kx W (aTest (aBin oNe ta tb))) := t_cmp (opNe hu) oNe_ok ha hb
theorem a_lt (ha : PE X a (cE X.kx W ta)) (hb : PE X b (cE X.kx W tb)) : PE X (.Compare a [.Lt] [b] pos) (cE X.kx W (aBin oLt ta tb)) := a_cmp op_lt (oI0_ok fun _ _ _ => .bl _) ha hb
theorem a_le (ha : PE X a (cE X.kx W ta)) (hb : PE X b (cE X.kx W tb)) : PE X (.Compare a [.LtE] [b] pos) (cE X.kx W (aBin oLe ta tb)) := a_cmp op_le (oI0_ok fun _ _ _ => .bl _) ha hb
theorem a_gt (ha : PE X a (cE X.kx W ta)) (hb : PE X b (cE X.kx W tb)) : PE X (.Compare a [.Gt] [b] pos) (cE X.kx W (aBin oGt ta tb)) := a_cmp op_gt (oI0_ok fun _ _ _ => .bl _) ha hb
theorem a_ge (ha : PE X a (cE X.kx W ta)) (hb : PE X b (cE X.kx W tb)) : PE X (.Compare a [.GtE] [b] pos) (cE X.kx W (aBin oGe ta tb)) := a_cmp op_ge (oI0_ok fun _ _ _ => .bl _) ha hb
theorem t_lt (ha : PE X a (cE X.kx W ta)) (hb : PE X b (cE X.kx W tb)) : PT X (.Compare a [.Lt] [b] pos) (cT X.kx W (aTest (aBin oLt ta tb))) := t_cmp op_lt (oI0_ok fun _ _ _ => .bl _) ha hb
theorem t_le (ha : PE X a (cE X.kx W ta)) (hb : PE X b (cE X.kx W tb)) : PT X (.Compare a [.LtE] [b] pos) (cT X.kx W (aTest (aBin oLe ta tb))) := t_cmp op_le (oI0_ok fun _ _ _ => .bl _) ha hb
theorem t_gt (ha : PE X a (cE X.kx W ta)) (hb : PE X b (cE X.kx W tb)) : PT X (.Compare a [.Gt] [b] pos) (cT X.kx W (aTest (aBin oGt ta tb))) := t_cmp op_gt (oI0_ok fun _ _ _ => .bl _) ha hb
theorem t_ge (ha : PE X a (cE X.kx W ta)) (hb : PE X b (cE X.kx W tb)) : PT X (.Compare a [.GtE] [b] pos) (cT X.kx W (aTest (aBin oGe ta tb))) := t_cmp op_ge (oI0_ok fun _ _ _ => .bl _) ha hb
/-- a <= b <= c, a <= b < c -/
theorem t_leLe (ha : PE X a (cE X.kx W ta)) (hb : PE X b (cE X.kx W tb)) (hc : PE X c (cE X.kx W tc)) (hm : lastMarks [.LtE, .LtE] [b, c] = false := by rfl) : PT X (.Compare a [.LtE, .LtE] [b, c] pos) (cT X.kx W (aTest (aChain oLe oLe ta tb tc))) := t_chain op_le op_le (oI0_ok fun _ _ _ => .bl _) (oI0_ok fun _ _ _ => .bl _) ha hb hc hm
theorem t_leLt (ha : PE X a (cE X.kx W ta)) (hb : PE X b (cE X.kx W tb)) (hc : PE X c (cE X.kx W tc)) (hm : lastMarks [.LtE, .Lt] [b, c] = false := by rfl) : PT X (.Compare a [.LtE, .Lt] [b, c] pos) (cT X.kx W (aTest (aChain oLe oLt ta tb tc))) := t_chain op_le op_lt (oI0_ok fun _ _ _ => .bl _) (oI0_ok fun _ _ _ => .bl _) ha hb hc hm
theorem a_leLe (ha : PE X a (cE X.kx W ta)) (hb : PE X b (cE X.kx W tb)) (hc : PE X c (cE X.kx W tc)) (hm : lastMarks [.LtE, .LtE] [b, c] = false := by rfl) : PE X (.Compare a [.LtE, .LtE] [b, c] pos) (cE X.kx W (aChain oLe oLe ta tb tc)) := a_chain op_le op_le (oI0_ok fun _ _ _ => .bl _) (oI0_ok fun _ _ _ => .bl _) ha hb hc hm
theorem a_leLt (ha : PE X a (cE X.kx W ta)) (hb : PE X b (cE X.kx W tb)) (hc : PE X c (cE X.kx W tc)) (hm : lastMarks [.LtE, .Lt] [b, c] = false := by rfl) : PE X (.Compare a [.LtE, .Lt] [b, c] pos) (cE X.kx W (aChain oLe oLt ta tb tc)) := a_chain op_le op_lt (oI0_ok fun _ _ _ => .bl _) (oI0_ok fun _ _ _ => .bl _) ha hb hc hm
/-- is None -/
def isN : DV → Bool
  | .non => true
  | _ => false
theorem isN_of {K : PySem.W.Frag} {I : Hp} {d : DV} {v : V} (r : Rp K I d v) : decide (v = V.non) = isN d := by
  cases r <;> rfl
def oIsN (neg : Bool) : AR2 := fun x y L P => match y with
  | .non => P (.bl (neg ^^ isN x)) L
  | _ => False
theorem oIsN_ok {k : Kx} : AOp k (fun x y H Q => y = .non ∧ Q (.bl (decide (x = .non))) H) (oIsN false) := by
  intro I F H L x y xv yv P Q A rx ry h q
  cases ry <;> try exact h.elim
  have h' : P (.bl (false ^^ isN x)) L := h
  rw [Bool.false_xor] at h'
  exact ⟨rfl, by rw [isN_of rx]; exact here A (.bl _) h' q⟩
theorem oIsNN_ok {k : Kx} : AOp k (fun x y H Q => y = .non ∧ Q (.bl (!decide (x = .non))) H) (oIsN true) := by
  intro I F H L x y xv yv P Q A rx ry h q
  cases ry <;> try exact h.elim
  have h' : P (.bl (true ^^ isN x)) L := h
  rw [Bool.true_xor] at h'
  exact ⟨rfl, by rw [isN_of rx]; exact here A (.bl _) h' q⟩
theorem a_isN (ha : PE X a (cE X.kx W ta)) (hb : PE X b (cE X.kx W tb)) : PE X (.Compare a [.Is] [b] pos) (cE X.kx W (aBin (oIsN false) ta tb)) := a_cmp op_isN oIsN_ok ha hb
theorem t_isN (ha : PE X a (cE X.kx W ta)) (hb : PE X b (cE X.kx W tb)) : PT X (.Compare a [.Is] [b] pos) (cT X.kx W (aTest (aBin (oIsN false) ta tb))) := t_cmp op_isN oIsN_ok ha hb
theorem a_isNN (ha : PE X a (cE X.kx W ta)) (hb : PE X b (cE X.kx W tb)) : PE X (.Compare a [.IsNot] [b] pos) (cE X.kx W (aBin (oIsN true) ta tb)) := a_cmp op_notN oIsNN_ok ha hb
theorem t_isNN (ha : PE X a (cE X.kx W ta)) (hb : PE X b (cE X.kx W tb)) : PT X (.Compare a [.IsNot] [b] pos) (cT X.kx W (aTest (aBin (oIsN true) ta tb))) := t_cmp op_notN oIsNN_ok ha hb
end
end AL
namespace AL
open PySem PySem.Spec PyProof.Rows L2

/-! ### items -/
theorem atI_rp {K : PySem.W.Frag} {I : Hp} {ds : List DV} {vs : List V} {i : Int} {d : DV} (r : Rps K I ds vs) (h : atI ds i = some d) : ∃ v, atI vs i = some v ∧ Rp K I d v := by
  unfold atI at h ⊢
  rw [r.length] at h
  cases e : ixN vs.length i with
  | none => rw [e] at h; cases h
  | some j =>
    rw [e] at h
    obtain ⟨v, h1, h2⟩ := r.get (i := j) (d := d) h
    exact ⟨v, h1, h2⟩
def oIx : AR2 := fun x y L P => match x, y with
  | .str z, .int i => z.length ≤ sizeLine ∧ ∃ c, atI z.cps.toList i = some c ∧ P (.str ⟨#[c]⟩) L
  | x, .int i => withSq L x fun ds => ∃ d, atI ds i = some d ∧ P d L
  | _, _ => False
theorem oIx_ok {k : Kx} : AOp k (rIx k.K) oIx := by
  intro I F H L x y xv yv P Q A rx ry h q
  unfold oIx at h
  split at h
  · cases rx; cases ry
    obtain ⟨hz, c, e, h⟩ := h
    exact .inr (.inr ⟨_, _, _, rfl, rfl, hz, e, here A (.str _) h q⟩)
  · cases ry
    obtain ⟨a, vs, ds, rfl, hs, r, d, e, h⟩ := withSq_ok A rx h
    obtain ⟨v, e2, r2⟩ := atI_rp r e
    rcases hs with hs | hs
    · exact .inl ⟨_, _, _, _, rfl, rfl, hs, e2, here A r2 h q⟩
    · exact .inr (.inl ⟨_, _, _, _, rfl, rfl, hs, e2, here A r2 h q⟩)
  · exact h.elim
section
variable {X : Cx} {W : WX} {a b : Expr} {ta tb : AE} {pos : Pos}
theorem a_item (ha : PE X a (cE X.kx W ta)) (hb : PE X b (cE X.kx W tb)) (hs : PlainIx b := by intro _ _; rfl) : PE X (.Subscript a b pos) (cE X.kx W (aBin oIx ta tb)) := a_ix ix_seq oIx_ok ha hb hs
end

/-! ### slices -/
abbrev AO := Sl → Led → (Option Int → Led → Prop) → PX → Prop
def cO (k : Kx) (W : WX) (t : AO) : TO := fun σ H Q => ∃ I L F ρ P px, Stt k W σ H I L F ρ px ∧ t ρ L P px ∧ ∀ o L' I' H', P o L' → Ab k I' L' F H' → Ex I I' → Q o H'
def aNoPart : AO := fun _ L P _ => P none L
def aPart (t : AE) : AO := fun ρ L P px => t ρ L (fun x L1 => match x with
  | .int i => P (some i) L1
  | _ => False) px
def cut {α : Type} (xs : List α) (lo hi : Option Int) : List α := (xs.drop (HT.sIx xs.length 0 lo)).take (HT.sIx xs.length xs.length hi - HT.sIx xs.length 0 lo)
theorem cut_rp {K : PySem.W.Frag} {I : Hp} {ds : List DV} {vs : List V} (r : Rps K I ds vs) (lo hi : Option Int) : Rps K I (cut ds lo hi) (cutV vs lo hi) := by
  unfold cut cutV
  rw [r.length]
  exact (r.drop _).take _
def oSl (x : DV) (lo hi : Option Int) (L : Led) (P : PD) : Prop := match x with
  | .str z => z.length ≤ sizeLine ∧ P (.str (cutS z lo hi)) L
  | .tup xs => P (.tup (cut xs lo hi)) L
  | x => withL L x fun ds => newL (cut ds lo hi) L P
def aSl (te : AE) (tl th : AO) : AE := fun ρ L P px => te ρ L (fun x L1 => tl ρ L1 (fun lo L2 => th ρ L2 (fun hi L3 => oSl x lo hi L3 P) px) px) px
abbrev rSlAll (K : PySem.W.Frag) : V → Option Int → Option Int → Hp → VK → Prop := fun x lo hi H Q => rSlS x lo hi H Q ∨ rSlA K x lo hi H Q ∨ rSlL K x lo hi H Q
theorem oSl_ok {k : Kx} {I F H : Hp} {L : Led} {x : DV} {xv : V} {lo hi : Option Int} {P : PD} {Q : VK} (A : Ab k I L F H) (rx : Rp k.K I x xv) (h : oSl x lo hi L P) (q : Q2 k I F P Q) : rSlAll k.K xv lo hi H Q := by
  unfold oSl at h
  split at h
  · cases rx
    exact .inl ⟨_, rfl, h.1, here A (.str _) h.2 q⟩
  · cases rx with | tup hx r => ?_
    refine .inr (.inl ⟨_, _, rfl, A.imm.t hx, fun e => ?_, fun _ p hp => newT_ok A (cut_rp r lo hi) h q p hp⟩)
    rename_i xs _ vs
    have ec : cut xs lo hi = xs := by
      unfold cut
      rw [r.length, e.1, e.2, List.drop_zero, Nat.sub_zero, ← r.length, List.take_length]
    rw [ec] at h
    exact here A (.tup hx r) h q
  · obtain ⟨a, vs, ds, rfl, ha, r, h⟩ := withL_ok A rx h
    exact .inr (.inr ⟨_, _, rfl, SqL.of ha, newL_ok A (cut_rp r lo hi) h q⟩)
section
variable {X : Cx} {W : WX} {e : Expr} {lo hi : Option Expr} {te : AE} {tl th : AO} {pos p2 : Pos}
theorem o_none : PO X none (cO X.kx W aNoPart) := by
  refine ⟨fun pins s σ H Q I h => ?_⟩
  obtain ⟨I0, L, F, ρ, P, px, S, h, q⟩ := h
  exact po_none.run pins s σ H Q I (q _ _ _ _ h S.ab (Ex.refl _))
theorem o_some (h : PE X e (cE X.kx W te)) : PO X (some e) (cO X.kx W (aPart te)) := by
  refine ⟨fun pins s σ H Q I hq => ?_⟩
  obtain ⟨I0, L, F, ρ, P, px, S, hq, q⟩ := hq
  refine (po_some h).run pins s σ H Q I ⟨I0, L, F, ρ, _, px, S, hq, fun d L1 v I1 H1 h1 A1 e1 r1 => ?_⟩
  cases r1 <;> try exact h1.elim
  exact ⟨_, rfl, q _ _ _ _ h1 A1 e1⟩
theorem a_slice (he : PE X e (cE X.kx W te)) (hl : PO X lo (cO X.kx W tl)) (hu : PO X hi (cO X.kx W th)) : PE X (.Subscript e (.Slice lo hi none p2) pos) (cE X.kx W (aSl te tl th)) :=
  (pe_slice (sl_str.or (sl_tupA.or sl_list)) he hl hu).imp fun σ H Q ⟨I, L, F, ρ, P, px, S, h, q⟩ => ⟨I, L, F, ρ, _, px, S, h, fun x L1 xv I1 H1 h1 A1 e1 r1 => ⟨I1, L1, F, ρ, _, px, S.go A1 e1, h1, fun l L2 I2 H2 h2 A2 e2 =>
    ⟨I2, L2, F, ρ, _, px, S.go A2 (e1.trans e2), h2, fun u L3 I3 H3 h3 A3 e3 => oSl_ok A3 (r1.mono (e2.trans e3)) h3 (q.mono ((e1.trans e2).trans e3))⟩⟩⟩
/-- xs[::-1] -/
def aRev (te : AE) : AE := fun ρ L P px => te ρ L (fun x L1 => withL L1 x fun ds => newL ds.reverse L1 P) px
theorem a_rev {k : Nat} {p1 p3 p4 : Pos} (he : PE X e (cE X.kx W te)) : PE X (.Subscript e (.Slice none none (some (.UnaryOp .USub (.Constant (.int 1) k p1) p3)) p4) pos) (cE X.kx W (aRev te)) :=
  (pe_revL he).imp fun σ H Q ⟨I, L, F, ρ, P, px, S, h, q⟩ => ⟨I, L, F, ρ, _, px, S, h, fun x L1 xv I1 H1 h1 A1 e1 r1 => by
    obtain ⟨a, vs, ds, rfl, ha, r, h⟩ := withL_ok A1 r1 h1
    exact ⟨_, _, rfl, SqL.of ha, newL_ok A1 r.reverse h (q.mono e1)⟩⟩
end

/-! ### arguments, displays -/
def aNil : AA := fun _ L P _ => P [] L
def aCons (ta : AE) (tr : AA) : AA := fun ρ L P px => ta ρ L (fun x L1 => tr ρ L1 (fun xs L2 => P (x :: xs) L2) px) px
/-- few items -/
def few : List DV → Nat → Prop → Prop
  | [], _, q => q
  | _ :: _, 0, _ => False
  | _ :: r, n + 1, q => few r n q
theorem few_ok : ∀ {ds : List DV} {n : Nat} {q : Prop}, few ds n q → ds.length ≤ n ∧ q
  | [], _, _, h => ⟨Nat.zero_le _, h⟩
  | _ :: _, 0, _, h => h.elim
  | _ :: r, n + 1, q, h => ⟨Nat.succ_le_succ (few_ok (ds := r) h).1, (few_ok (ds := r) h).2⟩
def aTup (ta : AA) : AE := fun ρ L P px => ta ρ L (fun ds L1 => few ds 200 (P (.tup ds) L1)) px
def aLst (ta : AA) : AE := fun ρ L P px => ta ρ L (fun ds L1 => few ds 200 (newL ds L1 P)) px
theorem z200 {n : Nat} (h : n ≤ 200) : n ≤ sizeLine := Nat.le_trans h (by decide)
section
variable {X : Cx} {W : WX} {e : Expr} {es : List Expr} {te : AE} {t : AA} {pos : Pos}
theorem g_nil : PA X [] (cA X.kx W aNil) := pa_nil.imp fun σ H Q ⟨I, L, F, ρ, P, px, S, h, q⟩ => q _ _ _ _ _ h S.ab (Ex.refl _) .nil
theorem g_cons (ha : PE X e (cE X.kx W te)) (hr : PA X es (cA X.kx W t)) (hs : starEach (e :: es) X.env = (false, eval e X.env) :: starEach es X.env := by rfl) : PA X (e :: es) (cA X.kx W (aCons te t)) :=
  (pa_cons ha hr hs).imp fun σ H Q ⟨I, L, F, ρ, P, px, S, h, q⟩ => ⟨I, L, F, ρ, _, px, S, h, fun x L1 xv I1 H1 h1 A1 e1 r1 => ⟨I1, L1, F, ρ, _, px, S.go A1 e1, h1, fun xs L2 vs I2 H2 h2 A2 e2 r2 => q _ _ _ _ _ h2 A2 (e1.trans e2) (.cons (r1.mono e2) r2)⟩⟩
theorem a_tup {x1} (h : PA X es (cA X.kx W t)) : PE X (.Tuple es x1 pos) (cE X.kx W (aTup t)) :=
  (pe_tup h).imp fun σ H Q ⟨I, L, F, ρ, P, px, S, h, q⟩ => ⟨I, L, F, ρ, _, px, S, h, fun ds L1 vs I1 H1 h1 A1 e1 r1 => ⟨by rw [← r1.length]; exact z200 (few_ok h1).1, newT_ok A1 r1 (few_ok h1).2 (q.mono e1)⟩⟩
theorem a_lst (h : PA X es (cA X.kx W t)) : PE X (.List es pos) (cE X.kx W (aLst t)) :=
  (pe_lst h).imp fun σ H Q ⟨I, L, F, ρ, P, px, S, h, q⟩ => ⟨I, L, F, ρ, _, px, S, h, fun ds L1 vs I1 H1 h1 A1 e1 r1 => ⟨by rw [← r1.length]; exact z200 (few_ok h1).1, newL_ok A1 r1 (few_ok h1).2 (q.mono e1)⟩⟩
end

/-! ### built-in calls by values -/
abbrev AC := List DV → Led → PD → Prop
def ACl (k : Kx) (r : List V → Hp → VK → Prop) (ro : AC) : Prop := ∀ {I F H : Hp} {L : Led} {ds : List DV} {vs : List V} {P : PD} {Q : VK}, Ab k I L F H → Rps k.K I ds vs → ro ds L P → Q2 k I F P Q → r vs H Q
def aCB (ro : AC) (t : AA) : AE := fun ρ L P px => t ρ L (fun ds L1 => ro ds L1 P) px
section
variable {X : Cx} {W : WX} {e : Expr} {es : List Expr} {t : AA} {p pos : Pos} {x : Str} {id T : String} {r : List V → Hp → VK → Prop} {ro : AC}
theorem a_callB (hc : CallR X (.builtin id) r) (hr : ACl X.kx r ro) (hg : Gl X x) (hm : X.mg x = none) (hv : bootBuiltins x = some (.builtin id)) (ha : PA X (e :: es) (cA X.kx W t)) (hn : x ≠ "__name__" := by decide) (hdb : (x == ("__debug__" : Str)) = false := by decide)
    (he : starEach (e :: es) X.env = (false, eval e X.env) :: starEach es X.env := by rfl) (hpl : (backTo pos (starEach es X.env)).any (·.1) = false := by rfl) : PE X (.Call (.Name x p) (e :: es) [] pos) (cE X.kx W (aCB ro t)) :=
  (pe_callB hc hg hm hv ha hn hdb he hpl).imp fun σ H Q ⟨I, L, F, ρ, P, px, S, h, q⟩ => ⟨I, L, F, ρ, _, px, S, h, fun ds L1 vs I1 H1 h1 A1 e1 r1 => hr A1 r1 h1 (q.mono e1)⟩
theorem a_callTy (hc : CallR X (.type T) r) (hr : ACl X.kx r ro) (hg : Gl X x) (hm : X.mg x = none) (hv : bootBuiltins x = some (.type T)) (ha : PA X (e :: es) (cA X.kx W t)) (hn : x ≠ "__name__" := by decide) (hdb : (x == ("__debug__" : Str)) = false := by decide)
    (he : starEach (e :: es) X.env = (false, eval e X.env) :: starEach es X.env := by rfl) (hpl : (backTo pos (starEach es X.env)).any (·.1) = false := by rfl) : PE X (.Call (.Name x p) (e :: es) [] pos) (cE X.kx W (aCB ro t)) :=
  (pe_callTy hc hg hm hv ha hn hdb he hpl).imp fun σ H Q ⟨I, L, F, ρ, P, px, S, h, q⟩ => ⟨I, L, F, ρ, _, px, S, h, fun ds L1 vs I1 H1 h1 A1 e1 r1 => hr A1 r1 h1 (q.mono e1)⟩
end
/-- int(x) of an int, a bool -/
def bInt : AC := fun ds L P => match ds with
  | [.int i] => P (.int i) L
  | [.bl b] => P (.int (if b then 1 else 0)) L
  | _ => False
def bAbs : AC := fun ds L P => match ds with
  | [.int i] => P (.int (if i < 0 then -i else i)) L
  | _ => False
def bMax2 : AC := fun ds L P => match ds with
  | [.int i, .int j] => P (.int (if j > i then j else i)) L
  | _ => False
def bMin2 : AC := fun ds L P => match ds with
  | [.int i, .int j] => P (.int (if j < i then j else i)) L
  | _ => False
def bLen : AC := fun ds L P => match ds with
  | [.str z] => z.length ≤ sizeLine ∧ P (.int (z.length : Nat)) L
  | [x] => withSq L x fun ds => P (.int (ds.length : Nat)) L
  | _ => False
def bList : AC := fun ds L P => match ds with
  | [x] => withSq L x fun ds => newL ds L P
  | _ => False
def bTuple : AC := fun ds L P => match ds with
  | [.tup xs] => P (.tup xs) L
  | [x] => withL L x fun ds => P (.tup ds) L
  | _ => False
def bStr : AC := fun ds L P => match ds with
  | [.int i] => i.natAbs.log2 < 1920 ∧ P (.str (toString i)) L
  | _ => False
section
variable {k : Kx}
theorem one_rp {I : Hp} {x : DV} {vs : List V} (r : Rps k.K I [x] vs) : ∃ v, vs = [v] ∧ Rp k.K I x v := by
  cases r with | cons h t => cases t; exact ⟨_, rfl, h⟩
theorem two_rp {I : Hp} {x y : DV} {vs : List V} (r : Rps k.K I [x, y] vs) : ∃ v w, vs = [v, w] ∧ Rp k.K I x v ∧ Rp k.K I y w := by
  cases r with | cons h t => cases t with | cons h' t => cases t; exact ⟨_, _, rfl, h, h'⟩
theorem bInt_ok : ACl k (fun xs H Q => (∃ i, xs = [.int i] ∧ Q (.int i) H) ∨ ∃ k, xs = [.bl k] ∧ Q (.int (if k then 1 else 0)) H) bInt := by
  intro I F H L ds vs P Q A r h q
  unfold bInt at h
  split at h
  · obtain ⟨v, rfl, r1⟩ := one_rp r; cases r1
    exact .inl ⟨_, rfl, here A (.int _) h q⟩
  · obtain ⟨v, rfl, r1⟩ := one_rp r; cases r1
    exact .inr ⟨_, rfl, here A (.int _) h q⟩
  · exact h.elim
theorem bAbs_ok : ACl k (fun xs H Q => ∃ i, xs = [.int i] ∧ Q (.int (if i < 0 then -i else i)) H) bAbs := by
  intro I F H L ds vs P Q A r h q
  unfold bAbs at h
  split at h
  · obtain ⟨v, rfl, r1⟩ := one_rp r; cases r1
    exact ⟨_, rfl, here A (.int _) h q⟩
  · exact h.elim
theorem bMax2_ok : ACl k (fun xs H Q => ∃ i j, xs = [.int i, .int j] ∧ Q (.int (if j > i then j else i)) H) bMax2 := by
  intro I F H L ds vs P Q A r h q
  unfold bMax2 at h
  split at h
  · obtain ⟨v, w, rfl, r1, r2⟩ := two_rp r; cases r1; cases r2
    exact ⟨_, _, rfl, here A (.int _) h q⟩
  · exact h.elim
theorem bMin2_ok : ACl k (fun xs H Q => ∃ i j, xs = [.int i, .int j] ∧ Q (.int (if j < i then j else i)) H) bMin2 := by
  intro I F H L ds vs P Q A r h q
  unfold bMin2 at h
  split at h
  · obtain ⟨v, w, rfl, r1, r2⟩ := two_rp r; cases r1; cases r2
    exact ⟨_, _, rfl, here A (.int _) h q⟩
  · exact h.elim
theorem bLen_ok : ACl k (fun xs H Q => ∃ x n, xs = [x] ∧ LenV k.K x H n ∧ Q (.int n) H) bLen := by
  intro I F H L ds vs P Q A r h q
  unfold bLen at h
  split at h
  · obtain ⟨v, rfl, r1⟩ := one_rp r; cases r1
    exact ⟨_, _, rfl, ⟨h.1, rfl⟩, here A (.int _) h.2 q⟩
  · obtain ⟨v, rfl, r1⟩ := one_rp r
    obtain ⟨a, vs, ds, rfl, hs, r, h⟩ := withSq_ok A r1 h
    refine ⟨_, ds.length, rfl, ?_, here A (.int _) h q⟩
    rcases hs with hs | hs
    · exact .inl ⟨_, hs, r.length⟩
    · exact .inr ⟨_, hs, r.length⟩
  · exact h.elim
theorem bList_ok : ACl k (fun xs H Q => ∃ p ys, xs = [.ref p] ∧ (SqL k.K H p ys ∨ SqT k.K H p ys) ∧ ∀ l, H l = none → Q (.ref l) (upd H l (.lst ys))) bList := by
  intro I F H L ds vs P Q A r h q
  unfold bList at h
  split at h
  · obtain ⟨v, rfl, r1⟩ := one_rp r
    obtain ⟨a, vs, ds, rfl, hs, r, h⟩ := withSq_ok A r1 h
    exact ⟨_, _, rfl, hs, newL_ok A r h q⟩
  · exact h.elim
theorem bTuple_ok : ACl k (fun xs H Q => ∃ p ys, xs = [.ref p] ∧ ((SqL k.K H p ys ∧ ∀ l, H l = none → Q (.ref l) (upd H l (.tup ys))) ∨ (SqT k.K H p ys ∧ Q (.ref p) H))) bTuple := by
  intro I F H L ds vs P Q A r h q
  unfold bTuple at h
  split at h
  · obtain ⟨v, rfl, r1⟩ := one_rp r
    cases r1 with | tup hx rr => exact ⟨_, _, rfl, .inr ⟨A.imm.t hx, here A (.tup hx (by assumption)) h q⟩⟩
  · obtain ⟨v, rfl, r1⟩ := one_rp r
    obtain ⟨a, vs, ds, rfl, ha, r, h⟩ := withL_ok A r1 h
    exact ⟨_, _, rfl, .inl ⟨SqL.of ha, newT_ok A r h q⟩⟩
  · exact h.elim
theorem bStr_ok : ACl k (fun xs H Q => ∃ i, xs = [.int i] ∧ i.natAbs.log2 < 1920 ∧ Q (.str (toString i)) H) bStr := by
  intro I F H L ds vs P Q A r h q
  unfold bStr at h
  split at h
  · obtain ⟨v, rfl, r1⟩ := one_rp r; cases r1
    exact ⟨_, rfl, h.1, here A (.str _) h.2 q⟩
  · exact h.elim
end
section
variable {X : Cx} {W : WX} {e : Expr} {es : List Expr} {t : AA} {p pos : Pos}
theorem a_intc (hg : Gl X "int") (hm : X.mg "int" = none) (ha : PA X [e] (cA X.kx W t)) (he : starEach [e] X.env = (false, eval e X.env) :: starEach [] X.env := by rfl) : PE X (.Call (.Name "int" p) [e] [] pos) (cE X.kx W (aCB bInt t)) := a_callTy call_int1 bInt_ok hg hm (by decide +kernel) ha (he := he)
theorem a_abs (hg : Gl X "abs") (hm : X.mg "abs" = none) (ha : PA X [e] (cA X.kx W t)) (he : starEach [e] X.env = (false, eval e X.env) :: starEach [] X.env := by rfl) : PE X (.Call (.Name "abs" p) [e] [] pos) (cE X.kx W (aCB bAbs t)) := a_callB call_abs bAbs_ok hg hm (by decide +kernel) ha (he := he)
theorem a_max2 (hc : X.calm = true) {e2 : Expr} (hg : Gl X "max") (hm : X.mg "max" = none) (ha : PA X [e, e2] (cA X.kx W t)) (he : starEach [e, e2] X.env = (false, eval e X.env) :: starEach [e2] X.env := by rfl) (hpl : (backTo pos (starEach [e2] X.env)).any (·.1) = false := by rfl) :
    PE X (.Call (.Name "max" p) [e, e2] [] pos) (cE X.kx W (aCB bMax2 t)) := a_callB (call_max2 hc) bMax2_ok hg hm (by decide +kernel) ha (he := he) (hpl := hpl)
theorem a_min2 (hc : X.calm = true) {e2 : Expr} (hg : Gl X "min") (hm : X.mg "min" = none) (ha : PA X [e, e2] (cA X.kx W t)) (he : starEach [e, e2] X.env = (false, eval e X.env) :: starEach [e2] X.env := by rfl) (hpl : (backTo pos (starEach [e2] X.env)).any (·.1) = false := by rfl) :
    PE X (.Call (.Name "min" p) [e, e2] [] pos) (cE X.kx W (aCB bMin2 t)) := a_callB (call_min2 hc) bMin2_ok hg hm (by decide +kernel) ha (he := he) (hpl := hpl)
theorem a_len (hg : Gl X "len") (hm : X.mg "len" = none) (ha : PA X [e] (cA X.kx W t)) (he : starEach [e] X.env = (false, eval e X.env) :: starEach [] X.env := by rfl) : PE X (.Call (.Name "len" p) [e] [] pos) (cE X.kx W (aCB bLen t)) := a_callB call_len bLen_ok hg hm (by decide +kernel) ha (he := he)
theorem a_list (hg : Gl X "list") (hm : X.mg "list" = none) (ha : PA X [e] (cA X.kx W t)) (he : starEach [e] X.env = (false, eval e X.env) :: starEach [] X.env := by rfl) : PE X (.Call (.Name "list" p) [e] [] pos) (cE X.kx W (aCB bList t)) := a_callTy call_list_of bList_ok hg hm (by decide +kernel) ha (he := he)
theorem a_tuple (hg : Gl X "tuple") (hm : X.mg "tuple" = none) (ha : PA X [e] (cA X.kx W t)) (he : starEach [e] X.env = (false, eval e X.env) :: starEach [] X.env := by rfl) : PE X (.Call (.Name "tuple" p) [e] [] pos) (cE X.kx W (aCB bTuple t)) := a_callTy call_tuple_of bTuple_ok hg hm (by decide +kernel) ha (he := he)
theorem a_strc (hg : Gl X "str") (hm : X.mg "str" = none) (ha : PA X [e] (cA X.kx W t)) (he : starEach [e] X.env = (false, eval e X.env) :: starEach [] X.env := by rfl) : PE X (.Call (.Name "str" p) [e] [] pos) (cE X.kx W (aCB bStr t)) := a_callTy call_str_int bStr_ok hg hm (by decide +kernel) ha (he := he)
end

/-! ### truth -/
def truD (d : DV) (L : Led) (q : Bool → Prop) : Prop := match d with
  | .bl b => q b
  | .non => q false
  | .int i => q (i != 0)
  | .str s => s.length ≤ sizeLine ∧ q ((s.length : Int) != 0)
  | .lst ds => q (!ds.isEmpty)
  | .tup ds => q (!ds.isEmpty)
  | .ref a => ∃ ds, L a = some (.lst ds) ∧ q (!ds.isEmpty)
  | _ => False
def aTru (te : AE) : AT := fun ρ L P px => te ρ L (fun d L' => truD d L' fun b => P b L') px
theorem Rps.isEmpty {K : PySem.W.Frag} {I : Hp} {ds : List DV} {vs : List V} (r : Rps K I ds vs) : ds.isEmpty = vs.isEmpty := by cases r <;> rfl
theorem truD_ok {k : Kx} {I F H : Hp} {L : Led} {d : DV} {v : V} {q : Bool → Prop} (A : Ab k I L F H) (r : Rp k.K I d v) (h : truD d L q) : ∃ b, TruV k.K v H b ∧ q b := by
  cases r <;> try exact h.elim
  case non => exact ⟨_, rfl, h⟩
  case bl b => exact ⟨_, rfl, h⟩
  case int b => exact ⟨_, rfl, h⟩
  case str b => exact ⟨_, ⟨h.1, rfl⟩, h.2⟩
  case ref a =>
    obtain ⟨ds, e, h⟩ := h
    obtain ⟨_, _, o, e2, r2⟩ := A.led _ _ e
    cases r2 with
    | lst r => exact ⟨_, .inl ⟨_, SqL.of e2, by rw [r.isEmpty]⟩, h⟩
  case lst a vs ds e r => exact ⟨_, .inl ⟨_, SqL.of (A.imm _ _ e), by rw [r.isEmpty]⟩, h⟩
  case tup a vs ds e r => exact ⟨_, .inr (.inl ⟨_, A.imm.t e, by rw [r.isEmpty]⟩), h⟩
section
variable {X : Cx} {W : WX} {a : Expr} {ta : AE}
theorem t_tru (ha : PE X a (cE X.kx W ta)) (he : ∀ whole, isTrue a X.env whole = (do let v ← whole; standAt a.pos; holding [v] (truthy v)) := by intro _; rfl) : PT X a (cT X.kx W (aTru ta)) :=
  (pt_truth ha he).imp fun σ H Q ⟨I, L, F, ρ, P, px, S, h, q⟩ => ⟨I, L, F, ρ, _, px, S, h, fun d L1 v I1 H1 h1 A1 e1 r1 => by
    obtain ⟨b, hb, h⟩ := truD_ok A1 r1 h1
    exact ⟨b, hb, q _ _ _ _ h A1 e1⟩⟩
end
end AL
namespace AL
open PySem PySem.Spec PyProof.Rows L2

/-! ### attributes -/
theorem lookup_at {f : Str} {v : V} : ∀ {fs : List (Str × V)} {j : Nat}, (fs.map (·.1)).Nodup → (fs.map (·.1))[j]? = some f → (fs.map (·.2))[j]? = some v → fs.lookup f = some v
  | [], j, _, h, _ => by simp at h
  | (g, w) :: fs, 0, _, h1, h2 => by
    simp only [List.map_cons, List.getElem?_cons_zero, Option.some.injEq] at h1 h2
    subst h1; subst h2
    simp [List.lookup_cons]
  | (g, w) :: fs, j + 1, nd, h1, h2 => by
    simp only [List.map_cons, List.getElem?_cons_succ, List.nodup_cons] at h1 h2 nd
    have hm : f ∈ fs.map (·.1) := List.mem_of_getElem? h1
    have hne : f ≠ g := fun e => nd.1 (e ▸ hm)
    rw [List.lookup_cons]
    have : (f == g) = false := by simpa using hne
    rw [this]
    exact lookup_at nd.2 h1 h2
theorem lookup_no {f : Str} : ∀ {fs : List (Str × V)}, f ∉ fs.map (·.1) → fs.lookup f = none
  | [], _ => rfl
  | (g, w) :: fs, h => by
    simp only [List.map_cons, List.mem_cons, not_or] at h
    rw [List.lookup_cons]
    have : (f == g) = false := by simpa using h.1
    rw [this]
    exact lookup_no h.2
theorem putF_new {f : Str} {v : V} : ∀ {fs : List (Str × V)}, f ∉ fs.map (·.1) → putF f v fs = fs ++ [(f, v)]
  | [], _ => rfl
  | (g, w) :: fs, h => by
    simp only [List.map_cons, List.mem_cons, not_or] at h
    unfold putF
    rw [if_neg (fun e => h.1 e.symm), putF_new h.2]
    rfl
theorem putF_old {f : Str} {v : V} : ∀ {fs : List (Str × V)} {j : Nat}, (fs.map (·.1)).Nodup → (fs.map (·.1))[j]? = some f → (putF f v fs).map (·.1) = fs.map (·.1) ∧ (putF f v fs).map (·.2) = (fs.map (·.2)).set j v
  | [], j, _, h => by simp at h
  | (g, w) :: fs, 0, _, h1 => by
    simp only [List.map_cons, List.getElem?_cons_zero, Option.some.injEq] at h1
    subst h1
    unfold putF
    rw [if_pos rfl]
    exact ⟨rfl, rfl⟩
  | (g, w) :: fs, j + 1, nd, h1 => by
    simp only [List.map_cons, List.getElem?_cons_succ, List.nodup_cons] at h1 nd
    have hm : f ∈ fs.map (·.1) := List.mem_of_getElem? h1
    have hne : ¬ g = f := fun e => nd.1 (e ▸ hm)
    unfold putF
    rw [if_neg hne]
    obtain ⟨e1, e2⟩ := putF_old (v := v) nd.2 h1
    simp [e1, e2]
/-- an instance: its class, names, values -/
def withI (L : Led) (x : DV) (q : Addr → List Str → List DV → Prop) : Prop := match x with
  | .ins C ks ds => q C ks ds
  | .ref a => ∃ C dx ks ds, L a = some (.ins C dx ks ds) ∧ q C ks ds
  | _ => False
theorem withI_ok {k : Kx} {I F H : Hp} {L : Led} {x : DV} {xv : V} {q : Addr → List Str → List DV → Prop} (A : Ab k I L F H) (r : Rp k.K I x xv) (h : withI L x q) :
    ∃ a C dx fs ks ds, xv = .ref a ∧ H a = some (.ins C dx fs) ∧ fs.map (·.1) = ks ∧ FOk k.K C ks ∧ Rps k.K I ds (fs.map (·.2)) ∧ q C ks ds := by
  cases r <;> try exact h.elim
  case ref a =>
    obtain ⟨C, dx, ks, ds, e, h⟩ := h
    obtain ⟨_, _, o, e2, r2⟩ := A.led a _ e
    cases r2 with
    | ins q c r => exact ⟨a, C, dx, _, ks, ds, rfl, e2, q, c, r, h⟩
  case ins a C dx fs ks ds e q c r => exact ⟨a, C, dx, fs, ks, ds, rfl, A.imm _ _ e, q, c, r, h⟩
def aFld (f : Str) (j : Nat) (te : AE) : AE := fun ρ L P px => te ρ L (fun x L1 => withI L1 x fun _ ks ds => ks[j]? = some f ∧ ∃ d, ds[j]? = some d ∧ P d L1) px
section
variable {X : Cx} {W : WX} {e : Expr} {te tv : AE} {f : Str} {pos pos' : Pos}
theorem a_fld (j : Nat) (he : PE X e (cE X.kx W te)) (hb : attributeBase e f X.env (eval e X.env) = eval e X.env := by rfl) : PE X (.Attribute e f pos) (cE X.kx W (aFld f j te)) :=
  (pe_fld he hb).imp fun σ H Q ⟨I, L, F, ρ, P, px, S, h, q⟩ => ⟨I, L, F, ρ, _, px, S, h, fun x L1 xv I1 H1 h1 A1 e1 r1 => by
    obtain ⟨a, C, dx, fs, ks, ds, rfl, ha, ek, c, r, hk, d, hd, h⟩ := withI_ok A1 r1 h1
    obtain ⟨v, hv, rv⟩ := r.get hd
    subst ek
    exact ⟨a, C, dx, fs, v, rfl, ha, c.cl, c.no f (List.mem_of_getElem? hk), lookup_at c.nd hk hv, here A1 rv h (q.mono e1)⟩⟩
/-- o.f = value, f new (in __init__, of the class at C) -/
def aFNew (C : Addr) (f : Str) (te tv : AE) : AS := fun AD ρ L => tv ρ L (fun d L1 => te ρ L1 (fun x L2 => match x with
  | .ref a => ∃ dx ks ds, L2 a = some (.ins C dx ks ds) ∧ (!ks.contains f && decide (ks.length < 900)) = true ∧ AD.nx ρ (updL L2 a (.ins C dx (ks ++ [f]) (ds ++ [d])))
  | _ => False) AD.px) AD.px
/-- .. f there, at j -/
def aFUpd (f : Str) (j : Nat) (te tv : AE) : AS := fun AD ρ L => tv ρ L (fun d L1 => te ρ L1 (fun x L2 => match x with
  | .ref a => ∃ C dx ks ds, L2 a = some (.ins C dx ks ds) ∧ ks[j]? = some f ∧ AD.nx ρ (updL L2 a (.ins C dx ks (ds.set j d)))
  | _ => False) AD.px) AD.px
theorem s_fnew {C : Addr} {o value : Expr} (ha : PE X o (cE X.kx W te)) (hv : PE X value (cE X.kx W tv)) (hn : NoAttr X.K C f) (hs : swapsWith value (some (.Attribute o f pos')) pos.line X.env = pure false := by rfl) :
    PS X (.Assign [.Attribute o f pos'] value pos) (cS X.kx W (aFNew C f te tv)) :=
  (ps_fld ha hv hs).imp fun D σ H ⟨I, L, F, ρ, AD, S, h, q⟩ => ⟨I, L, F, ρ, _, AD.px, S, h, fun d L1 v I1 H1 h1 A1 e1 r1 => ⟨I1, L1, F, ρ, _, AD.px, S.go A1 e1, h1, fun x L2 xv I2 H2 h2 A2 e2 r2 => by
    cases r2 <;> try exact h2.elim
    obtain ⟨dx, ks, ds, e, c, h⟩ := h2
    obtain ⟨_, _, ob, e3, r3⟩ := A2.led _ _ e
    cases r3 with
    | @ins _ _ _ _ fs ek cc r =>
    simp only [Bool.and_eq_true, Bool.not_eq_true', decide_eq_true_eq] at c
    have hf : f ∉ ks := by
      intro z
      have := List.contains_iff_mem.mpr z
      rw [this] at c
      exact absurd c.1 (by simp)
    have el : fs.length = ks.length := by rw [← ek, List.length_map]
    refine ⟨_, C, dx, fs, rfl, e3, cc.cl, hn, by omega, ?_⟩
    have ef : f ∉ fs.map (·.1) := by rw [ek]; exact hf
    rw [putF_new ef]
    refine q.nx ρ _ σ I2 _ h (A2.write e (.ins (by rw [List.map_append, ek]; rfl) ⟨cc.cl, cc.ty, fun g hg => ?_, ?_, ?_⟩ (by rw [List.map_append]; exact r.append (.cons (r1.mono e2) .nil)))) (e1.trans e2) (S.rs.mono (e1.trans e2))
    · rcases List.mem_append.mp hg with hg | hg
      · exact cc.no g hg
      · rw [List.mem_singleton.mp hg]; exact hn
    · exact List.nodup_append.mpr ⟨cc.nd, by simp, fun a ha b hb => by rw [List.mem_singleton.mp hb]; rintro rfl; exact hf ha⟩
    · rw [List.length_append]; simp; omega⟩⟩
theorem s_fupd {o value : Expr} (j : Nat) (ha : PE X o (cE X.kx W te)) (hv : PE X value (cE X.kx W tv)) (hs : swapsWith value (some (.Attribute o f pos')) pos.line X.env = pure false := by rfl) :
    PS X (.Assign [.Attribute o f pos'] value pos) (cS X.kx W (aFUpd f j te tv)) :=
  (ps_fld ha hv hs).imp fun D σ H ⟨I, L, F, ρ, AD, S, h, q⟩ => ⟨I, L, F, ρ, _, AD.px, S, h, fun d L1 v I1 H1 h1 A1 e1 r1 => ⟨I1, L1, F, ρ, _, AD.px, S.go A1 e1, h1, fun x L2 xv I2 H2 h2 A2 e2 r2 => by
    cases r2 <;> try exact h2.elim
    obtain ⟨C, dx, ks, ds, e, hk, h⟩ := h2
    obtain ⟨_, _, ob, e3, r3⟩ := A2.led _ _ e
    cases r3 with
    | @ins _ _ _ _ fs ek cc r =>
    have el : fs.length = ks.length := by rw [← ek, List.length_map]
    have hl := cc.few
    subst ek
    obtain ⟨p1, p2⟩ := putF_old (v := v) cc.nd hk
    refine ⟨_, C, dx, fs, rfl, e3, cc.cl, cc.no f (List.mem_of_getElem? hk), by omega, ?_⟩
    exact q.nx ρ _ σ I2 _ h (A2.write e (.ins p1 cc (by rw [p2]; exact Rps.set (r1.mono e2) j r))) (e1.trans e2) (S.rs.mono (e1.trans e2))⟩⟩
end

/-! ### isinstance -/
def withTy (L : Led) (x : DV) (q : Value → Prop) : Prop := match x with
  | .non => q (.type "NoneType")
  | .bl _ => q (.type "bool")
  | .int _ => q (.type "int")
  | .str _ => q (.type "str")
  | .lst _ => q (.type "list")
  | .tup _ => q (.type "tuple")
  | .ins C _ _ => q (.ref C)
  | .ref a => (∃ C dx ks ds, L a = some (.ins C dx ks ds) ∧ q (.ref C)) ∨ (∃ ds, L a = some (.lst ds) ∧ q (.type "list")) ∨ ∃ kvs, L a = some (.dK kvs) ∧ q (.type "dict")
  | _ => False
theorem withTy_ok {k : Kx} {I F H : Hp} {L : Led} {x : DV} {xv : V} {q : Value → Prop} (A : Ab k I L F H) (r : Rp k.K I x xv) (h : withTy L x q) : ∃ t, TyX k.K H xv t ∧ q t := by
  cases r <;> try exact h.elim
  case non => exact ⟨_, .base .non, h⟩
  case bl b => exact ⟨_, .base (.bl b), h⟩
  case int b => exact ⟨_, .base (.int b), h⟩
  case str b => exact ⟨_, .base (.str b), h⟩
  case lst a vs ds e r => exact ⟨_, .base (.lst (A.imm _ _ e)), h⟩
  case tup a vs ds e r =>
    rcases A.imm.t e with (e | ⟨o, e⟩) | ⟨o, its, n, e, hc, _⟩
    · exact ⟨_, .base (.tup e), h⟩
    · exact ⟨_, .fTuple e, h⟩
    · exact ⟨_, .kTuple e hc, h⟩
  case ins a C dx fs ks ds e q c r => exact ⟨_, .base (.ins (A.imm _ _ e) c.cl c.ty.ha c.ty.hn c.ty.htk c.ty.hm), h⟩
  case ref a =>
    rcases h with ⟨C, dx, ks, ds, e, h⟩ | ⟨ds, e, h⟩ | ⟨kvs, e, h⟩
    · obtain ⟨_, _, o, e2, r2⟩ := A.led _ _ e
      cases r2 with
      | ins q c r => exact ⟨_, .base (.ins e2 c.cl c.ty.ha c.ty.hn c.ty.htk c.ty.hm), h⟩
    · obtain ⟨_, _, o, e2, r2⟩ := A.led _ _ e
      cases r2 with
      | lst r => exact ⟨_, .base (.lst e2), h⟩
    · obtain ⟨_, _, o, e2, r2⟩ := A.led _ _ e
      cases r2 with
      | dK q r => exact ⟨_, .base (.dK e2), h⟩
def withCl (c : DV) (q : Value → Prop) : Prop := match c with
  | .ty n => q (.type n)
  | .ref C => q (.ref C)
  | _ => False
def bIsi (K : PySem.W.Frag) : AC := fun ds L P => match ds with
  | [x, c] => withTy L x fun t => withCl c fun u => ∃ b, PySem.W.kitOne K t u = some b ∧ P (.bl b) L
  | _ => False
theorem bIsi_ok {k : Kx} : ACl k (rIsi k.K) (bIsi k.K) := by
  intro I F H L ds vs P Q A r h q
  unfold bIsi at h
  split at h
  · obtain ⟨v, w, rfl, r1, r2⟩ := two_rp r
    obtain ⟨t, ht, h⟩ := withTy_ok A r1 h
    cases r2 <;> try exact h.elim
    case ty n =>
      obtain ⟨b, hb, h⟩ := h
      exact ⟨_, _, _, _, _, rfl, .ty _, ht, hb, here A (.bl _) h q⟩
    case ref C =>
      obtain ⟨b, hb, h⟩ := h
      exact ⟨_, _, _, _, _, rfl, .own _, ht, hb, here A (.bl _) h q⟩
  · exact h.elim
section
variable {X : Cx} {W : WX} {e e2 : Expr} {t : AA} {p pos : Pos}
theorem a_isi (hg : Gl X "isinstance") (hm : X.mg "isinstance" = none) (ha : PA X [e, e2] (cA X.kx W t)) (he : starEach [e, e2] X.env = (false, eval e X.env) :: starEach [e2] X.env := by rfl) (hpl : (backTo pos (starEach [e2] X.env)).any (·.1) = false := by rfl) :
    PE X (.Call (.Name "isinstance" p) [e, e2] [] pos) (cE X.kx W (aCB (bIsi X.K) t)) := a_callB call_isi bIsi_ok hg hm (by decide +kernel) ha (he := he) (hpl := hpl)
end

/-! ### statements -/
def aNext : AS := fun AD ρ L => AD.nx ρ L
def aSeq (t u : AS) : AS := fun AD ρ L => t { AD with nx := fun ρ1 L1 => u AD ρ1 L1 } ρ L
def aBrk : AS := fun AD ρ L => AD.bk ρ L
def aCnt : AS := fun AD ρ L => AD.ct ρ L
def aDrop (te : AE) : AS := fun AD ρ L => te ρ L (fun _ L1 => AD.nx ρ L1) AD.px
def aRet (te : AE) : AS := fun AD ρ L => te ρ L AD.rt AD.px
def aRetN : AS := fun AD _ L => AD.rt .non L
def aIf (c : AT) (t u : AS) : AS := fun AD ρ L => c ρ L (fun b L1 => (b = true → t AD ρ L1) ∧ (b = false → u AD ρ L1)) AD.px
def aSet (i : Nat) (te : AE) : AS := fun AD ρ L => te ρ L (fun d L1 => AD.nx (ρ.set i (some d)) L1) AD.px
/-- the data d are told otherwise from now on -/
def FrzD (k : Kx) (d : DV) (L : Led) (d2 : DV) (L2 : Led) : Prop := ∀ I F H v, Ab k I L F H → Rp k.K I d v → ∃ I2, Ex I I2 ∧ Ab k I2 L2 F H ∧ Rp k.K I2 d2 v
theorem FrzD.refl (k : Kx) (d : DV) (L : Led) : FrzD k d L d L := fun I F H v A r => ⟨I, Ex.refl I, A, r⟩
theorem FrzD.sub {k : Kx} {d : DV} {L L2 : Led} (s : Sub L2 L) : FrzD k d L d L2 := fun I F H v A r => ⟨I, Ex.refl I, A.sub s, r⟩
theorem FrzD.trans {k : Kx} {d1 d2 d3 : DV} {L1 L2 L3 : Led} (a : FrzD k d1 L1 d2 L2) (b : FrzD k d2 L2 d3 L3) : FrzD k d1 L1 d3 L3 := fun I F H v A r => by
  obtain ⟨I2, e2, A2, r2⟩ := a I F H v A r
  obtain ⟨I3, e3, A3, r3⟩ := b I2 F H v A2 r2
  exact ⟨I3, e2.trans e3, A3, r3⟩
theorem FrzD.lst {k : Kx} {a : Addr} {ds : List DV} {L : Led} (h : L a = some (.lst ds)) : FrzD k (.ref a) L (.lst ds) (delL L a) := fun I F H v A r => by
  cases r
  exact A.freeze h
theorem FrzD.ins {k : Kx} {a C dx : Addr} {ks : List Str} {ds : List DV} {L : Led} (h : L a = some (.ins C dx ks ds)) : FrzD k (.ref a) L (.ins C ks ds) (delL L a) := fun I F H v A r => by
  cases r
  exact A.freezeI h
/-- what came is told otherwise -/
def FrzP (k : Kx) (d : DV) (L : Led) (P : PD) : Prop := ∃ d2 L2, FrzD k d L d2 L2 ∧ P d2 L2
theorem FrzP.ok {k : Kx} {I F H : Hp} {L : Led} {d : DV} {v : V} {P : PD} {Q : VK} (A : Ab k I L F H) (r : Rp k.K I d v) (h : FrzP k d L P) (q : Q2 k I F P Q) : Q v H := by
  obtain ⟨d2, L2, z, h⟩ := h
  obtain ⟨I2, e2, A2, r2⟩ := z I F H v A r
  exact q _ _ _ _ _ h A2 e2 r2
def aFrz (k : Kx) (te : AE) : AE := fun ρ L P px => te ρ L (fun d L1 => FrzP k d L1 P) px
/-- the slots are told otherwise -/
def FrzS (k : Kx) (ρ : Sl) (L : Led) (ρ2 : Sl) (L2 : Led) : Prop := ∀ I F H σ, Ab k I L F H → RpS k.K I ρ σ → ∃ I2, Ex I I2 ∧ Ab k I2 L2 F H ∧ RpS k.K I2 ρ2 σ
theorem FrzS.refl (k : Kx) (ρ : Sl) (L : Led) : FrzS k ρ L ρ L := fun I F H σ A r => ⟨I, Ex.refl I, A, r⟩
theorem FrzS.sub {k : Kx} {ρ : Sl} {L L2 : Led} (s : Sub L2 L) : FrzS k ρ L ρ L2 := fun I F H σ A r => ⟨I, Ex.refl I, A.sub s, r⟩
theorem FrzS.trans {k : Kx} {d1 d2 d3 : Sl} {L1 L2 L3 : Led} (a : FrzS k d1 L1 d2 L2) (b : FrzS k d2 L2 d3 L3) : FrzS k d1 L1 d3 L3 := fun I F H v A r => by
  obtain ⟨I2, e2, A2, r2⟩ := a I F H v A r
  obtain ⟨I3, e3, A3, r3⟩ := b I2 F H v A2 r2
  exact ⟨I3, e2.trans e3, A3, r3⟩
theorem FrzS.lst {k : Kx} {a : Addr} {ds : List DV} {L : Led} {ρ : Sl} {i : Nat} (q : ρ[i]? = some (some (.ref a))) (h : L a = some (.lst ds)) : FrzS k ρ L (ρ.set i (some (.lst ds))) (delL L a) := fun I F H σ A r => by
  obtain ⟨I2, e2, A2, r2⟩ := A.freeze h
  refine ⟨I2, e2, A2, (r.mono e2).re q fun v z => ?_⟩
  cases z
  exact r2
theorem FrzS.forget {k : Kx} {L : Led} {ρ : Sl} (i : Nat) : FrzS k ρ L (ρ.set i none) L := fun I F H σ A r => by
  refine ⟨I, Ex.refl I, A, by rw [List.length_set]; exact r.1, fun j d q => ?_⟩
  by_cases hj : j = i
  · subst hj
    by_cases hl : j < ρ.length
    · rw [List.getElem?_set_self hl] at q; cases q
    · rw [List.getElem?_eq_none (by rw [List.length_set]; omega)] at q; cases q
  · rw [List.getElem?_set_ne (Ne.symm hj)] at q
    exact r.2 j d q
def aGh (k : Kx) (u : AS) : AS := fun AD ρ L => ∃ ρ2 L2, FrzS k ρ L ρ2 L2 ∧ u AD ρ2 L2
section
variable {X : Cx} {W : WX} {e : Expr} {te : AE} {t u : AS} {st : Stmt} {rest body orelse : List Stmt} {pos pos' : Pos} {c : Expr} {tc : AT}
theorem a_frz (h : PE X e (cE X.kx W te)) : PE X e (cE X.kx W (aFrz X.kx te)) := h.imp fun σ H Q ⟨I, L, F, ρ, P, px, S, h, q⟩ => ⟨I, L, F, ρ, _, px, S, h, fun d L1 v I1 H1 h1 A1 e1 r1 => h1.ok A1 r1 (q.mono e1)⟩
theorem b_gh (h : PSs X rest (cS X.kx W u)) : PSs X rest (cS X.kx W (aGh X.kx u)) := h.imp fun D σ H ⟨I, L, F, ρ, AD, S, ⟨ρ2, L2, z, h⟩, q⟩ => by
  obtain ⟨I2, e2, A2, r2⟩ := z I F H σ S.ab S.rs
  exact ⟨I2, L2, F, ρ2, AD, S.go2 A2 e2 r2, h, q.mono e2⟩
theorem b_nil : PSs X [] (cS X.kx W aNext) := pss_nil.imp fun D σ H ⟨I, L, F, ρ, AD, S, h, q⟩ => q.nx _ _ _ _ _ h S.ab (Ex.refl _) S.rs
theorem b_cons (h1 : PS X st (cS X.kx W t)) (h2 : PSs X rest (cS X.kx W u)) : PSs X (st :: rest) (cS X.kx W (aSeq t u)) :=
  (pss_cons h1 h2).imp fun D σ H ⟨I, L, F, ρ, AD, S, h, q⟩ => ⟨I, L, F, ρ, { AD with nx := fun ρ1 L1 => u AD ρ1 L1 }, ⟨S.ab, S.rs, S.xx⟩, h, ⟨fun ρ' L' σ' I' H' h' A' e' r' => ⟨I', L', F, ρ', AD, S.go2 A' e' r', h', q.mono e'⟩, q.rt, q.bk, q.ct⟩⟩
theorem b_one (h1 : PS X st (cS X.kx W t)) : PSs X [st] (cS X.kx W t) := pss_one h1
theorem s_pass : PS X (.Pass pos) (cS X.kx W aNext) := ps_pass.imp fun D σ H ⟨I, L, F, ρ, AD, S, h, q⟩ => q.nx _ _ _ _ _ h S.ab (Ex.refl _) S.rs
theorem s_break : PS X (.Break pos) (cS X.kx W aBrk) := ps_break.imp fun D σ H ⟨I, L, F, ρ, AD, S, h, q⟩ => q.bk _ _ _ _ _ h S.ab (Ex.refl _) S.rs
theorem s_continue : PS X (.Continue pos) (cS X.kx W aCnt) := ps_continue.imp fun D σ H ⟨I, L, F, ρ, AD, S, h, q⟩ => q.ct _ _ _ _ _ h S.ab (Ex.refl _) S.rs
theorem s_expr (he : PE X e (cE X.kx W te)) (hs : swapsWith e none pos.line X.env = pure false := by rfl) : PS X (.Expr e pos) (cS X.kx W (aDrop te)) :=
  (ps_expr he hs).imp fun D σ H ⟨I, L, F, ρ, AD, S, h, q⟩ => ⟨I, L, F, ρ, _, AD.px, S, h, fun d L1 v I1 H1 h1 A1 e1 r1 => q.nx _ _ _ _ _ h1 A1 e1 (S.rs.mono e1)⟩
theorem s_ret (he : PE X e (cE X.kx W te)) : PS X (.Return (some e) pos) (cS X.kx W (aRet te)) :=
  (ps_ret he).imp fun D σ H ⟨I, L, F, ρ, AD, S, h, q⟩ => ⟨I, L, F, ρ, _, AD.px, S, h, q.rt⟩
theorem s_retN : PS X (.Return none pos) (cS X.kx W aRetN) := ps_retN.imp fun D σ H ⟨I, L, F, ρ, AD, S, h, q⟩ => q.rt _ _ _ _ _ h S.ab (Ex.refl _) .non
theorem s_if (hc : PT X c (cT X.kx W tc)) (ha : PSs X body (cS X.kx W t)) (hb : PSs X orelse (cS X.kx W u)) : PS X (.If c body orelse pos) (cS X.kx W (aIf tc t u)) :=
  (ps_if hc ha hb).imp fun D σ H ⟨I, L, F, ρ, AD, S, h, q⟩ => ⟨I, L, F, ρ, _, AD.px, S, h, fun b L1 I1 H1 h1 A1 e1 => by
    cases b with
    | true => exact iteT ⟨I1, L1, F, ρ, AD, S.go A1 e1, h1.1 rfl, q.mono e1⟩
    | false => exact iteF ⟨I1, L1, F, ρ, AD, S.go A1 e1, h1.2 rfl, q.mono e1⟩⟩
theorem s_set {i : Nat} {x : Str} (hN : X.N.Nodup) (he : PE X e (cE X.kx W te)) (hi : X.N[i]? = some x := by rfl) (hx : Loc X.env.scope x := by first | exact Or.inl rfl | exact Or.inr rfl) (hs : swapsWith e (some (.Name x pos')) pos.line X.env = pure false := by rfl)
    (hf : X.fn x = true ∨ X.env.scope.names.lookup x = some .local := by first | exact .inl rfl | exact .inr rfl | assumption) : PS X (.Assign [.Name x pos'] e pos) (cS X.kx W (aSet i te)) :=
  (ps_set hN hi hx he hs hf).imp fun D σ H ⟨I, L, F, ρ, AD, S, h, q⟩ => ⟨I, L, F, ρ, _, AD.px, S, h, fun d L1 v I1 H1 h1 A1 e1 r1 => q.nx _ _ _ _ _ h1 A1 e1 ((S.rs.mono e1).set r1 i)⟩
/-- xs[i] = e -/
def oSetL (x y : DV) (d : DV) (L : Led) (q : Led → Prop) : Prop := match x, y with
  | .ref a, .int i => ∃ ds j, L a = some (.lst ds) ∧ ixN ds.length i = some j ∧ q (updL L a (.lst (ds.set j d)))
  | _, _ => False
def aSetIx (to ti tv : AE) : AS := fun AD ρ L => tv ρ L (fun d L1 => to ρ L1 (fun x L2 => ti ρ L2 (fun y L3 => oSetL x y d L3 (AD.nx ρ)) AD.px) AD.px) AD.px
theorem s_setIx {o i v : Expr} {to ti tv : AE} {p2 : Pos} (ho : PE X o (cE X.kx W to)) (hi : PE X i (cE X.kx W ti)) (hv : PE X v (cE X.kx W tv))
    (ha : ∀ w, assign (.Subscript o i p2) X.env w = (do
      let ov ← holding [w] (eval o X.env)
      let iv ← holding [w, ov] (eval i X.env)
      standAt p2
      holding [w, ov, iv] (setItem ov iv w)
      release [w, ov, iv] []) := by intro _; rfl) (hs : swapsWithSole [.Subscript o i p2] v pos.line X.env = pure false := by rfl) (hw : swappedStores [.Subscript o i p2] v X.env = pure none := by rfl)
    (h1 : (assignEach [.Subscript o i p2] X.env).map (·.2) = [assign (.Subscript o i p2) X.env] := by rfl) : PS X (.Assign [.Subscript o i p2] v pos) (cS X.kx W (aSetIx to ti tv)) :=
  (ps_asg hv (pg_sub ho hi set_list ha) hs hw h1).imp fun D σ H ⟨I, L, F, ρ, AD, S, h, q⟩ => ⟨I, L, F, ρ, _, AD.px, S, h, fun d L1 v I1 H1 h1 A1 e1 r1 => ⟨I1, L1, F, ρ, _, AD.px, S.go A1 e1, h1, fun x L2 xv I2 H2 h2 A2 e2 r2 => ⟨I2, L2, F, ρ, _, AD.px, S.go A2 (e1.trans e2), h2, fun y L3 yv I3 H3 h3 A3 e3 r3 => by
    unfold oSetL at h3
    split at h3
    · cases r2; cases r3
      obtain ⟨ds, j, e, hj, h3⟩ := h3
      obtain ⟨_, _, ob, e4, r4⟩ := A3.led _ _ e
      cases r4 with
      | lst r =>
      rw [r.length] at hj
      exact ⟨_, _, _, j, rfl, rfl, e4, hj, q.nx _ _ _ _ _ h3 (A3.write e (.lst (Rps.set (r1.mono (e2.trans e3)) j r))) ((e1.trans e2).trans e3) (S.rs.mono ((e1.trans e2).trans e3))⟩
    · exact h3.elim⟩⟩⟩
end
end AL
namespace AL
open PySem PySem.Spec PyProof.Rows L2

/-! ### promises over data and the ledger -/
/-- arguments, ledger; what is wanted of the value and ledger behind; of an exception's class and ledger -/
abbrev ASp := List DV → Led → PD → (Addr → Led → Prop) → Prop
def liftSp (k : Kx) (asp : ASp) : Sp := fun vs H Q E => ∃ ds I L F P R, Ab k I L F H ∧ Rps k.K I ds vs ∧ asp ds L P R ∧ Q2 k I F P Q ∧ ∀ c L' I' H', R c L' → Ab k I' L' F H' → Ex I I' → E (.ref c) none H'
/-- the slots at a def's entry -/
def startA (n : Nat) (ds : List DV) : Sl := ds.map some ++ List.replicate (n - ds.length) none
theorem startA_rp {K : PySem.W.Frag} {I : Hp} {N : List Str} {ds : List DV} {vs : List V} (r : Rps K I ds vs) : RpS K I (startA N.length ds) (L2.start N vs) := by
  unfold startA L2.start
  refine ⟨by simp [r.length], fun i d h => ?_⟩
  by_cases hi : i < ds.length
  · rw [List.getElem?_append_left (by simpa using hi), List.getElem?_map] at h
    cases e : ds[i]? with
    | none => rw [e] at h; cases h
    | some d0 =>
      rw [e] at h
      cases h
      obtain ⟨v, h1, h2⟩ := r.get e
      refine ⟨v, ?_, h2⟩
      rw [List.getElem?_append_left (by rw [List.length_map, ← r.length]; exact hi), List.getElem?_map, h1]
      rfl
  · rw [List.getElem?_append_right (by simpa using Nat.le_of_not_lt hi), List.getElem?_replicate] at h
    split at h <;> cases h
/-! ### room, measured finely: one step of depth a call -/
structure Room (k : Nat) (A : Around) : Prop where
  hd : A.handled = none
  dp : A.depth + k + 17 < recursionLimit
  un : A.units + 4 * k + 300 < cLine
section
variable {j k : Nat} {A : Around}
theorem Room.mono (r : Room k A) (h : j ≤ k) : Room j A :=
  ⟨r.hd, by have := r.dp; omega, by have := r.un; omega⟩
theorem Room.deeper (r : Room (k + 1) A) (env : Env) : Room k (A.deeper env) := by
  refine ⟨r.hd, ?_, ?_⟩
  · have := r.dp
    show A.depth + 1 + k + 17 < _
    omega
  · have := r.un
    show A.units + 3 + 4 * k + 300 < _
    omega
theorem Room.in1 (r : Room (k + 1) A) : Room k A.in1 := by
  refine ⟨r.hd, ?_, ?_⟩
  · have := r.dp
    show A.depth + k + 17 < _
    omega
  · have := r.un
    show A.units + 1 + 4 * k + 300 < _
    omega
theorem Room.make (r : Room (k + 1) A) (C : Addr) (us : List Value) (kw : List (Str × Value)) : Room k (A.under (.builtin "type.__call__" ⟨.ref C :: us, kw⟩)) := by
  refine ⟨r.hd, ?_, ?_⟩
  · have := r.dp
    rw [make_depth]
    omega
  · have := r.un
    rw [make_units]
    omega
theorem Room.depth (r : Room k A) : A.depth < recursionLimit := by
  have := r.dp
  omega
theorem Room.old (r : Room k A) : L2.Room 0 A :=
  ⟨r.hd, by have := r.dp; omega, by have := r.un; omega⟩
theorem Room.units (r : Room k A) : A.units + 64 < cLine := by
  have := r.un
  omega
end
structure FnOk (P : Program) (w : World) (K : PySem.W.Frag) (mg : Str → Option Value) (base : Heap) (CX : CXT) (k : Nat) (f : Addr) (fd : FuncData) (ps : List Str) (sp : Sp) : Prop where
  len : ∀ vs H Q E, sp vs H Q E → vs.length = ps.length
  run : ∀ (A : Around) (outer : List Env) (s : Shared) (H : Hp) (args : Args) (us : List Value) (vs : List V) (Q : VK) (E : XK), Room k A →
    Env0 P w K mg base A outer s H → BindsTo s fd args (ps.zip us) → Vals vs us → sp vs H Q E →
      codeAny (model P w) A (.call (.ref f) args) (CR CX outer P w H s Q E) s
section
variable {P : Program} {w : World} {K : PySem.W.Frag} {mg : Str → Option Value} {base : Heap} {CX : CXT} {j k : Nat} {f : Addr} {fd : FuncData} {N ps : List Str} {sp : Sp} {name qual : Str} {params : Arguments} {body : List Stmt} {scope : Scope} {dV kV doc pm cdv ct oc : Value} {an od : Option Addr} {osl : Array (Option Value)}
/-- .. as the hand layer measures it -/
theorem FnOk.kit (F : FnOk P w K mg base CX j f fd ps sp) (h1 : j + 12 ≤ 3 * k) (h2 : 4 * j + 100 ≤ 16 * k) : L2.FnOk P w K mg base CX k f fd ps sp :=
  ⟨F.len, fun A outer s H args us vs Q E r => F.run A outer s H args us vs Q E ⟨r.hd, by have := r.dp; omega, by have := r.un; omega⟩⟩
theorem fn_ofF (lk : K.lookup f = some ⟨oc, od, .func (PySem.W.fnOf name qual params body scope dV kV doc pm an cdv ct), osl⟩) (hcd : PySem.W.codeIn K cdv qual = true) (S : FnScope N ps scope) (len : ∀ vs H Q E, sp vs H Q E → vs.length = ps.length)
    (hb0 : ∀ (A : Around) (outer : List Env) (s : Shared) (H : Hp) (vs : List V) (Q : VK) (E : XK), Room k (A.deeper (envOfC qual scope s.heap.objs.size f cdv)) → sp vs H Q E → ∃ t, PSs (cxOf CX P w K mg base N qual scope f cdv A outer s H E) body t ∧ t { nx := fun _ H' => Q .non H', rt := Q } (start N vs) H) :
    FnOk P w K mg base CX (k + 1) f (PySem.W.fnOf name qual params body scope dV kV doc pm an cdv ct) ps sp where
  len := len
  run := fun A outer s H args us vs Q E room env0 bd rv want => by
    have old : ∀ b o, base.get? b = some o → s.heap.get? b = some o := fun b o e => (env0.bs b o e).1
    have KIn : K.In s.heap := env0.mod.kin.keeps old
    have nol : s.heap.NoLimit := env0.mod.nolimit.keeps old
    have kinds : ∀ y ∈ ps.zip us, scope.names.lookup y.1 = some .local ∨ (scope.names.lookup y.1 = some .cell ∧ ((cellsFrom (s.heap.objs.size + 1) scope.names []).lookup y.1).isSome = true) := by
      rintro ⟨n, v⟩ hy
      exact (S.par n (List.of_mem_zip hy).1).imp id fun q => ⟨q, PySem.W.cellsFrom_some _ _ _ (.inl q)⟩
    refine codeAny_call_function room.depth (KIn _ _ lk) rfl S.co S.gen rfl (PySem.W.codeRec_of KIn hcd) (bd _ _ _ _ (wpAny_newFunctionEnv_cells S.kind kinds fun env he s1 x => ?_))
    subst he
    obtain ⟨t, ht, hq⟩ := hb0 A outer s H vs Q E (room.deeper _) want
    have inv : Inv (cxOf CX P w K mg base N qual scope f cdv A outer s H E) [] (start N vs) H s1 := inv_start S room.hd env0 (len _ _ _ _ want) rv x
    refine ⟨nol.keeps x.toInCall.keep, codeAny_func (wpAny_mono (ht.run [] s1 (start N vs) H _ inv hq) (fun fl s' hs => ?_) fun e s' z => z)⟩
    cases fl with
    | ret u => exact let ⟨v, _, H', J, rel, q⟩ := hs; ⟨v, H', J.os, J.bare, J.base, J.hok, rel, q⟩
    | next => exact let ⟨_, H', J, q⟩ := hs; ⟨V.non, H', J.os, J.bare, J.base, J.hok, rfl, q⟩
    | brk => exact let ⟨_, _, _, q⟩ := hs; q.elim
    | cont => exact let ⟨_, _, _, q⟩ := hs; q.elim
end
theorem okXF {P : Program} {w : World} {K : PySem.W.Frag} {mg : Str → Option Value} {base : Heap} {x qual : Str} {st : Stmt} {f : Addr} {fd : FuncData} {N ps : List Str} {k : Nat} {sp : Sp} (F : Fun K x qual st f fd) (S : FnScope N ps (defScope st)) (len : ∀ vs H Q E, sp vs H Q E → vs.length = ps.length)
    (h : ∀ (cdv : Value) (A : Around) (outer : List Env) (s : Shared) (H : Hp) (vs : List V) (Q : VK) (E : XK), Room k (A.deeper (envOfC qual (defScope st) s.heap.objs.size f cdv)) → sp vs H Q E → ∃ t, PSs (cxOf (L2.CX P w) P w K mg base N qual (defScope st) f cdv A outer s H E) (defBody st) t ∧ t { nx := fun _ H' => Q .non H', rt := Q } (start N vs) H) :
    FnOk P w K mg base (L2.CX P w) (k + 1) f fd ps sp := by
  obtain ⟨_, _, _, _, _, _, cdv, _, _, rfl, l1, l2⟩ := F.ex
  exact fn_ofF l1 l2 S len (h cdv)
/-- a def by its body's derivation and its reading -/
theorem fun_ok {P : Program} {w : World} {K : PySem.W.Frag} {mg : Str → Option Value} {base : Heap} {x qual : Str} {st : Stmt} {f : Addr} {fd : FuncData} {N ps : List Str} {k : Nat} {asp : ASp} {tb : AS} (F : Fun K x qual st f fd) (S : FnScope N ps (defScope st))
    (len : ∀ ds L P R, asp ds L P R → ds.length = ps.length)
    (der : ∀ (cdv : Value) (A : Around) (outer : List Env) (s : Shared) (H : Hp) (E : XK), Room k (A.deeper (envOfC qual (defScope st) s.heap.objs.size f cdv)) →
      PSs (cxOf (L2.CX P w) P w K mg base N qual (defScope st) f cdv A outer s H E) (defBody st) (cS ⟨P, w, K⟩ (fun cls d _ H => E cls d H) tb))
    (read : ∀ ds L P R, asp ds L P R → tb ⟨fun _ L => P .non L, P, fun _ _ => False, fun _ _ => False, fun c _ L => R c L⟩ (startA N.length ds) L) : FnOk P w K mg base (L2.CX P w) (k + 1) f fd ps (liftSp ⟨P, w, K⟩ asp) := by
  refine okXF F S (fun vs H Q E ⟨ds, I, L, F, P, R, A, r, h, _, _⟩ => by rw [← r.length]; exact len ds L P R h) (fun cdv A outer s H vs Q E hr h => ?_)
  obtain ⟨ds, I, L, F0, P0, R, Ab0, r, h, q, qx⟩ := h
  refine ⟨_, der cdv A outer s H E hr, ⟨I, L, F0, _, _, ⟨Ab0, startA_rp r, fun c ρ' σ' L' I' H' h' A' e' _ => qx c L' I' H' h' A' e'⟩, read ds L P0 R h, ⟨fun ρ' L' σ' I' H' h' A' e' _ => q _ _ _ _ _ h' A' e' .non, q, fun _ _ _ _ _ z => z.elim, fun _ _ _ _ _ z => z.elim⟩⟩⟩

/-! ### calls -/
/-- arguments ahead of a call of g -/
def GoArgs (X : Cx) (es : List Expr) (t : TA) : Prop := ∀ (pos : Pos) (g : Addr) (first : List Value) (pins : List (Addr × Obj)) (s : Shared) (σ : L2.St) (H : Hp) (Q : Value → Shared → Prop), PySem.W.keepIn X.K (.ref g) = true → Inv X pins σ H s →
  t σ H (fun vs H1 => ∀ s1 us, Inv X pins σ H1 s1 → Vals vs us → wpAny (model X.prog X.w) X.A (call (.ref g) (first ++ us)) Q X.xe s1) →
  wpAny (model X.prog X.w) X.A (callWith pos (.ref g) first (backTo pos (starEach es X.env)) []) Q X.xe s
section
variable {X : Cx} {W : WX} {e o : Expr} {es : List Expr} {t : AA} {te : AE}
theorem args0 : GoArgs X [] (cA X.kx W aNil) := fun pos g first pins s σ H Q hk I h => by
  obtain ⟨I0, L, F, ρ, P, px, S, h, q⟩ := h
  exact PySem.W.callWith_K0 I.kIn hk (q _ _ _ _ _ h S.ab (Ex.refl _) .nil s [] I .nil)
theorem args1 (ha : PA X (e :: es) (cA X.kx W t)) (he : starEach (e :: es) X.env = (false, eval e X.env) :: starEach es X.env := by rfl) (hpl : ∀ pos, (backTo pos (starEach es X.env)).any (·.1) = false := by intro _; rfl) : GoArgs X (e :: es) (cA X.kx W t) := fun pos g first pins s σ H Q hk I h =>
  PySem.W.callWith_K (h₀ := X.base) I.ok.mod.kin hk (thn (ha.run pos pins s σ H _ I h) fun us s1 ⟨vs, H1, I1, r, q⟩ => ⟨I1.kIn, q s1 us I1 r⟩) he (hpl pos)

variable {k : Nat} {f C : Addr} {fd : FuncData} {ps : List Str} {asp : ASp} {x m : Str} {p pos apos : Pos} {ds0 : List Value} {dvs : List V} {dds : List DV}
theorem goes {pins : List (Addr × Obj)} {σ : L2.St} {H : Hp} {s : Shared} {Q : VK} {us : List Value} {vs : List V} {sp : Sp} {E : XK} (F : FnOk X.prog X.w X.K X.mg X.base (L2.CX X.prog X.w) k f fd ps sp) (hr : Room k X.A) (hb : Binds X.K fd ps ds0) (hd : Vals dvs ds0)
    (hx : PassesAt (L2.CX X.prog X.w) X σ E) (I : Inv X pins σ H s) (r : Vals vs us) (h : sp (vs ++ dvs) H Q E) : wpAny (model X.prog X.w) X.A (call (.ref f) us) (EP X pins σ Q) X.xe s :=
  wpAny_call (codeAny_mono (F.run X.A X.stack s H ⟨us, []⟩ (us ++ ds0) (vs ++ dvs) Q E hr I.env0 (hb s us I.kIn (by rw [← (r.append hd).length]; exact F.len _ _ _ _ h)) (r.append hd) h) fun r s' hq => match r, hq with
    | .error e, hq => hx pins H s e s' I hq
    | .ok (.ret u), hq => I.after hq
    | .ok .next, hq => hq.elim
    | .ok .brk, hq => hq.elim
    | .ok .cont, hq => hq.elim)
/-- the promise asked at the caller's state -/
theorem lift_at {k : Kx} {σ : L2.St} {H I : Hp} {L : Led} {F : Hp} {ρ : Sl} {px : PX} {P : PD} {Q : VK} {ds : List DV} {vs : List V} (S : Stt k W σ H I L F ρ px) (r : Rps k.K I ds vs) (h : asp ds L P fun c L' => px c ρ L') (q : Q2 k I F P Q) :
    liftSp k asp vs H Q (fun cls d H' => W cls d σ H') := ⟨ds, I, L, F, P, _, S.ab, r, h, q, fun c L' I' H' h' A' e' => S.xx c ρ σ L' I' H' h' A' e' (S.rs.mono e')⟩
def aCall (asp : ASp) (dds : List DV) (t : AA) : AE := fun ρ L P px => t ρ L (fun ds L1 => asp (ds ++ dds) L1 P fun c L' => px c ρ L') px
theorem a_call (F : FnOk X.prog X.w X.K X.mg X.base (L2.CX X.prog X.w) k f fd ps (liftSp X.kx asp)) (hr : Room k X.A) (hg : Gl X x) (hm : X.mg x = some (.ref f)) (hk : PySem.W.keepIn X.K (.ref f) = true) (hb : Binds X.K fd ps ds0) (hd : Vals dvs ds0) (hdd : ∀ I, Rps X.K I dds dvs) (tk : Takes X W) (ga : GoArgs X es (cA X.kx W t))
    (hdb : (x == ("__debug__" : Str)) = false := by decide) : PE X (.Call (.Name x p) es [] pos) (cE X.kx W (aCall asp dds t)) := by
  refine ⟨fun pins s σ H Q I h => ?_⟩
  obtain ⟨I0, L, F0, ρ, P, px, S, h, q⟩ := h
  refine wpAny_Call_Name_kw (ld_glob I hg hm ?_ hdb)
  refine ga pos f [] pins s σ H _ hk I ⟨I0, L, F0, ρ, _, px, S, h, fun ds L1 vs I1 H1 h1 A1 e1 r1 s1 us J r => ?_⟩
  exact goes F hr hb hd (passAt tk σ) J r (lift_at (S.go A1 e1) (r1.append (hdd _)) h1 (q.mono e1))

def isC (L : Led) (x : DV) (C : Addr) (q : Prop) : Prop := match x with
  | .ins D _ _ => D = C ∧ q
  | .ref a => ∃ dx ks ds, L a = some (.ins C dx ks ds) ∧ q
  | _ => False
theorem isC_ok {k : Kx} {I F H : Hp} {L : Led} {x : DV} {xv : V} {q : Prop} (A : Ab k I L F H) (r : Rp k.K I x xv) (h : isC L x C q) : ∃ a dx fs, xv = .ref a ∧ H a = some (.ins C dx fs) ∧ FOk k.K C (fs.map (·.1)) ∧ q := by
  cases r <;> try exact h.elim
  case ref a =>
    obtain ⟨dx, ks, ds, e, h⟩ := h
    obtain ⟨_, _, o, e2, r2⟩ := A.led a _ e
    cases r2 with
    | ins q c r => subst q; exact ⟨a, dx, _, rfl, e2, c, h⟩
  case ins a D dx fs ks ds e q c r =>
    obtain ⟨rfl, h⟩ := h
    subst q
    exact ⟨a, dx, fs, rfl, A.imm _ _ e, c, h⟩
theorem meth_no {K : PySem.W.Frag} {fs : List (Str × V)} (c : FOk K C (fs.map (·.1))) (hm : Meth K C m f) : fs.lookup m = none := by
  refine lookup_no fun z => ?_
  have h1 : PySem.W.findIn K (.ref C) m = some none := c.no m z
  rw [hm.at_] at h1
  cases h1
/-- o.m(..) -/
def aMeth (C : Addr) (asp : ASp) (dds : List DV) (te : AE) (t : AA) : AE := fun ρ L P px => te ρ L (fun x L1 => isC L1 x C (t ρ L1 (fun ds L2 => asp (x :: (ds ++ dds)) L2 P fun c L' => px c ρ L') px)) px
theorem a_meth {pl : Sem Bool} (he : PE X o (cE X.kx W te)) (c : Cls X.K C) (hm : Meth X.K C m f) (F : FnOk X.prog X.w X.K X.mg X.base (L2.CX X.prog X.w) k f fd ps (liftSp X.kx asp)) (hr : Room k X.A) (hb : Binds X.K fd ps ds0) (hd : Vals dvs ds0) (hdd : ∀ I, Rps X.K I dds dvs) (tk : Takes X W) (ga : GoArgs X es (cA X.kx W t))
    (ht : eval (.Call (.Attribute o m apos) es [] pos) X.env = (do
      let ov ← eval o X.env
      standAt apos.atName
      let (f, first) ← holding [ov] (getMethod ov m pl)
      callWith pos f first (backTo pos (starEach es X.env)) (backToKw pos (keywordEach [] X.env))) := by rfl) : PE X (.Call (.Attribute o m apos) es [] pos) (cE X.kx W (aMeth C asp dds te t)) := by
  refine ⟨fun pins s σ H Q I h => ?_⟩
  obtain ⟨I0, L, F0, ρ, P, px, S, h, q⟩ := h
  refine methcall_of he I ⟨I0, L, F0, ρ, _, px, S, h, fun xd L1 xv I1 H1 h1 A1 e1 r1 => ?_⟩ ht
  obtain ⟨a, dx, fs, rfl, ha, cc, h1⟩ := isC_ok A1 r1 h1
  refine ⟨a, C, dx, fs, f, rfl, ha, c, hm, meth_no cc hm, fun s1 J => ?_⟩
  refine ga pos f [.ref a] pins s1 σ H1 _ hm.kp J ⟨I1, L1, F0, ρ, _, px, S.go A1 e1, h1, fun ds L2 vs I2 H2 h2 A2 e2 r2 s2 us J2 r => ?_⟩
  exact goes (us := .ref a :: us) (vs := .ref a :: vs) F hr hb hd (passAt tk σ) J2 (.cons rfl r) (lift_at (S.go A2 (e1.trans e2)) (.cons (r1.mono e2) (r2.append (hdd _))) h2 (q.mono (e1.trans e2)))
/-- o.p, a property -/
def aProp (C : Addr) (asp : ASp) (te : AE) : AE := fun ρ L P px => te ρ L (fun x L1 => isC L1 x C (asp [x] L1 P fun _ _ => False)) px
theorem passN {X : Cx} : Passes (L2.CX X.prog X.w) X.nox (fun _ _ _ => False) := fun _ _ _ _ _ _ _ h => by
  obtain ⟨_, _, _, _, _, _, _, _, _, _, _, _, z⟩ := h
  exact z
theorem getpropF {pins : List (Addr × Obj)} {σ : L2.St} {H : Hp} {s : Shared} {Q : VK} {b : Bool} {E' : Value → Shared → Prop} {a dx g pa : Addr} {fs : List (Str × V)} {sp : Sp} {E : XK} (I : Inv X pins σ H s) (ea : H a = some (.ins C dx fs)) (c : Cls X.K C) (hp : PropOf X.K C m pa g) (F : FnOk X.prog X.w X.K X.mg X.base (L2.CX X.prog X.w) k g fd ps sp) (hr : Room (k + 1) X.A) (hb : Binds X.K fd ps []) (hx : Passes (L2.CX X.prog X.w) X.nox E) (h : sp [.ref a] H Q E) :
    wpAny (model X.prog X.w) X.A (getAttr (.ref a) m b) (EP X pins σ Q) E' s := by
  obtain ⟨_, O, _⟩ := ins_get I.hok ea
  obtain ⟨_, J, _⟩ := O.look
  obtain ⟨_, hrec⟩ := hp.rec_
  have I1 := I.tok (s.toks + 1)
  have hl : [Value.ref a].length = ps.length := F.len _ _ _ _ h
  have hc : (PySem.W.clsIn X.K C).isSome = true := let ⟨_, e, _⟩ := PySem.W.any_some c.hd; by rw [e]; rfl
  have pg := PySem.W.plainGet_of (c.get m)
  refine PySem.W.get_bind I.kIn J pg.1 (PySem.W.findObj_data hc hp.at_ hp.get hp.tak) pg.2 (wpAny_call (PySem.W.prop_get (s := { s with toks := s.toks + 1 }) I.kIn hrec (codeAny_mono (F.run X.A.in1 X.stack { s with toks := s.toks + 1 } H ⟨[.ref a], []⟩ [.ref a] [.ref a] Q E hr.in1 I1.env0.in1 (hb _ [.ref a] I1.kIn hl) (.cons rfl .nil) h) fun r s' hq => ?_)))
  cases r with
  | error er => exact (hx pins σ H _ er s' (I1.wish _) hq).elim
  | ok fl =>
    cases fl with
    | ret u =>
      obtain ⟨v, H', I3, rv, q3⟩ := I1.after hq
      show wpAny _ _ (handedOut u) _ _ _
      rw [PySem.W.handedOut_of (handed_of rv)]
      exact wpAny_pure ⟨v, H', I3, rv, q3⟩
    | next => exact hq.elim
    | brk => exact hq.elim
    | cont => exact hq.elim
theorem pe_propF {pa g : Addr} {ta : TE} {sp : Sp} {E : XK} (he : PE X e ta) (c : Cls X.K C) (hp : PropOf X.K C m pa g) (F : FnOk X.prog X.w X.K X.mg X.base (L2.CX X.prog X.w) k g fd ps sp) (hr : Room (k + 1) X.A) (hb : Binds X.K fd ps []) (hx : Passes (L2.CX X.prog X.w) X.nox E) (hab : attributeBase e m X.env (eval e X.env) = eval e X.env) : PE X (.Attribute e m pos) (tProp C sp [] E ta) :=
  ⟨fun pins s σ H Q I h => attr_of hab (thn (he.run pins s σ H _ I h) fun u s1 ⟨x, H1, I1, rx, a, dx, fs, ex, ea, q⟩ => by
    subst ex
    cases rx
    exact getpropF I1 ea c hp F hr hb hx q)⟩
theorem a_prop {pa g : Addr} (he : PE X e (cE X.kx W te)) (c : Cls X.K C) (hp : PropOf X.K C m pa g) (F : FnOk X.prog X.w X.K X.mg X.base (L2.CX X.prog X.w) k g fd ps (liftSp X.kx asp)) (hr : Room (k + 1) X.A) (hb : Binds X.K fd ps [])
    (hab : attributeBase e m X.env (eval e X.env) = eval e X.env := by rfl) : PE X (.Attribute e m pos) (cE X.kx W (aProp C asp te)) :=
  (pe_propF he c hp F hr hb passN hab).imp fun σ H Q ⟨I, L, F, ρ, P, px, S, h, q⟩ => ⟨I, L, F, ρ, _, px, S, h, fun x L1 xv I1 H1 h1 A1 e1 r1 => by
    obtain ⟨a, dx, fs, rfl, ha, cc, h1⟩ := isC_ok A1 r1 h1
    exact ⟨a, dx, fs, rfl, ha, ⟨_, I1, L1, F, P, _, A1, .cons r1 .nil, h1, q.mono e1, fun c L' I' H' h' A' e' => h'.elim⟩⟩⟩
/-- C(..): mk tells of the arguments what the made instance is -/
def aMake (mk : ASp) (t : AA) : AE := fun ρ L P px => t ρ L (fun ds L1 => mk ds L1 P fun c L' => px c ρ L') px
/-- what __init__ promises makes what mk tells -/
def MkOk (k : Kx) (C : Addr) (asp mk : ASp) (dds : List DV) : Prop := ∀ ds L P R, mk ds L P R → ∀ x dx, L x = none → asp (.ref x :: (ds ++ dds)) (updL L x (.ins C dx [] [])) (fun v L2 => v = .non ∧ FrzP k (.ref x) L2 P) R
theorem made_ab {k : Kx} {I F H : Hp} {L : Led} {x dx : Addr} (A : Ab k I L F H) (c : FOk k.K C []) (hx : H x = none) (hd : H dx = none) (ne : dx ≠ x) : Ab k I (updL L x (.ins C dx [] [])) F (upd (upd H dx (.own x)) x (.ins C dx [])) := by
  have A1 : Ab k I L F (upd H dx (.own x)) := A.lost hd
  exact A1.newL (by rw [upd_ne (Ne.symm ne)]; exact hx) (.ins rfl c .nil)
theorem run_mk {pins : List (Addr × Obj)} {σ : L2.St} {H : Hp} {s : Shared} {Q : VK} {us : List Value} {vs : List V} {sp : Sp} {E : XK} (M : Mk X.K C f) (F : FnOk X.prog X.w X.K X.mg X.base (L2.CX X.prog X.w) k f fd ps sp) (hr : Room (k + 1) X.A) (hb : Binds X.K fd ps ds0) (hd : Vals dvs ds0)
    (hx : PassesAt (L2.CX X.prog X.w) X σ E) (I : Inv X pins σ H s) (r : Vals vs us)
    (h : ∀ x dx, H x = none → H dx = none → dx ≠ x → sp (.ref x :: (vs ++ dvs)) (upd (upd H dx (.own x)) x (.ins C dx [])) (fun v H2 => v = .non ∧ Q (.ref x) H2) E) : wpAny (model X.prog X.w) X.A (call (.ref C) us) (EP X pins σ Q) X.xe s := by
  obtain ⟨n, hn⟩ : ∃ n, n = s.heap.objs.size := ⟨_, rfl⟩
  have f0 : H n = none := I.hok.fresh (by rw [hn]; exact Nat.le_refl _)
  have f1 : H (n + 1) = none := I.hok.fresh (by rw [hn]; exact Nat.le_succ _)
  have hq := h (n + 1) n f1 f0 (Nat.ne_of_lt (Nat.lt_succ_self n))
  have J := Inv.made (C := C) I
  rw [← hn] at J
  have rr : Vals (V.ref (n + 1) :: (vs ++ dvs)) (Value.ref (n + 1) :: (us ++ ds0)) := .cons rfl (r.append hd)
  have hl : (Value.ref (n + 1) :: us ++ ds0).length = ps.length := by
    have e := F.len _ _ _ _ hq
    rw [rr.length] at e
    exact e
  subst hn
  refine wpAny_call (make_map (f := f) I.kIn M.makes M.init (beq_iff_eq.mp M.fn) (codeAny_mono (F.run _ X.stack _ _ ⟨Value.ref (s.heap.objs.size + 1) :: us, []⟩ _ _ _ E (hr.make C us []) (J.env0.make C us []) (hb _ (Value.ref (s.heap.objs.size + 1) :: us) J.kIn hl) rr hq) fun r s' z => ?_))
  cases r with
  | error e => exact hx pins _ _ e s' J z
  | ok fl =>
    cases fl with
    | ret u =>
      obtain ⟨v, H', J3, rv, ev, q3⟩ := J.after z
      subst ev
      exact ⟨rv, V.ref (s.heap.objs.size + 1), H', J3, (rfl : Value.ref _ = Value.ref _), q3⟩
    | next => exact z.elim
    | brk => exact z.elim
    | cont => exact z.elim
theorem a_make {mk : ASp} (M : Mk X.K C f) (c : FOk X.K C []) (F : FnOk X.prog X.w X.K X.mg X.base (L2.CX X.prog X.w) k f fd ps (liftSp X.kx asp)) (hmk : MkOk X.kx C asp mk dds) (hr : Room (k + 1) X.A) (hg : Gl X x) (hm : X.mg x = some (.ref C)) (hb : Binds X.K fd ps ds0) (hd : Vals dvs ds0) (hdd : ∀ I, Rps X.K I dds dvs) (tk : Takes X W) (ga : GoArgs X es (cA X.kx W t))
    (hdb : (x == ("__debug__" : Str)) = false := by decide) : PE X (.Call (.Name x p) es [] pos) (cE X.kx W (aMake mk t)) := by
  refine ⟨fun pins s σ H Q I h => ?_⟩
  obtain ⟨I0, L, F0, ρ, P, px, S, h, q⟩ := h
  refine wpAny_Call_Name_kw (ld_glob I hg hm ?_ hdb)
  refine ga pos C [] pins s σ H _ M.kp I ⟨I0, L, F0, ρ, _, px, S, h, fun ds L1 vs I1 H1 h1 A1 e1 r1 s1 us J r => ?_⟩
  refine run_mk M F hr hb hd (E := fun cls d H' => W cls d σ H') (passAt tk σ) J r fun x dx hx hdx ne => ?_
  have S1 : Stt X.kx W σ _ I1 (updL L1 x (.ins C dx [] [])) F0 ρ px := S.go (made_ab A1 c hx hdx ne) e1
  refine lift_at S1 (.cons (.ref x) (r1.append (hdd _))) (hmk ds L1 P _ h1 x dx (A1.freeL hx)) fun d L2 v I2 H2 z A2 e2 r2 => ?_
  obtain ⟨rfl, z⟩ := z
  cases r2
  exact ⟨rfl, z.ok A2 (.ref x) (q.mono (e1.trans e2))⟩
end

/-! ### raise -/
def aRaise (C : Addr) : AS := fun AD ρ L => ∃ L2, Sub L2 L ∧ AD.px C ρ L2
section
variable {X : Cx} {W : WX} {C : Addr} {x m : Str} {j : Nat} {p p2 pos pos' : Pos}
theorem s_raise {bmB : List Value} {B newId initId : String} (hc : X.calm = true) (tk : Takes X W) (F : ExcBaseFacts B newId initId bmB) (q : PySem.W.excIn X.K C bmB newId = true) (gC : X.mg x = some (.ref C)) (kC : PySem.W.keepIn X.K (.ref C) = true) (r : Raises X (.ref C)) (hg : Gl X x)
    (hdb : (x == ("__debug__" : Str)) = false := by decide) : PS X (.Raise (some (.Call (.Name x p) [.Constant (.str m) j p2] [] pos')) none pos) (cS X.kx W (aRaise C)) :=
  (ps_raise hc tk (pmk_own F q gC kC r hg hdb)).imp fun D σ H ⟨I, L, F, ρ, AD, S, ⟨L2, s, h⟩, q⟩ => S.xx C ρ σ L2 I H h (S.ab.sub s) (Ex.refl _) S.rs
end
end AL
namespace AL
open PySem PySem.Spec PyProof.Rows L2

/-! ### what a for walks: its items; what must stay -/
abbrev AI := Sl → Led → (List DV → (Led → Prop) → Led → Prop) → PX → Prop
structure ItOk (k : Kx) (J : It) (I0 : Hp) (items : List DV) (stay : Led → Prop) : Prop where
  stop : ∀ {I F H : Hp} {L : Led} (i : Nat), Ab k I L F H → Ex I0 I → stay L → items.length ≤ i → J.stop i H
  go : ∀ {I F H : Hp} {L : Led} (i : Nat) (d : DV), Ab k I L F H → Ex I0 I → stay L → items[i]? = some d → J.go i H
  yld : ∀ {I F H : Hp} {L : Led} (i : Nat) (d : DV) (x : V) (H' : Hp), Ab k I L F H → Ex I0 I → stay L → items[i]? = some d → J.yld i H x H' → ∃ I', Ab k I' L F H' ∧ Ex I I' ∧ Rp k.K I' d x
def cI (k : Kx) (W : WX) (t : AI) : TI := fun σ H R => ∃ I L F ρ P px, Stt k W σ H I L F ρ px ∧ t ρ L P px ∧ ∀ items stay L' J I' H', P items stay L' → Ab k I' L' F H' → Ex I I' → ItOk k J I' items stay → R J H'
def seqI (x : DV) (L : Led) (P : List DV → (Led → Prop) → Led → Prop) : Prop := match x with
  | .lst xs => P xs (fun _ => True) L
  | .tup xs => P xs (fun _ => True) L
  | .wl xs => P xs (fun _ => True) L
  | .ref a => ∃ ds, L a = some (.lst ds) ∧ P ds (fun L' => L' a = some (.lst ds)) L
  | _ => False
def iSeq (te : AE) : AI := fun ρ L P px => te ρ L (fun x L1 => seqI x L1 P) px
def rangeD (lo : Int) (n : Nat) : List DV := (List.range n).map fun i => DV.int (lo + (i : Nat))
def rng1 (ds : List DV) (L : Led) (P : List DV → (Led → Prop) → Led → Prop) : Prop := match ds with
  | [.int j] => (-(2 ^ 62) ≤ j ∧ j < 2 ^ 62) ∧ P (rangeD 0 j.toNat) (fun _ => True) L
  | _ => False
def rng2 (ds : List DV) (L : Led) (P : List DV → (Led → Prop) → Led → Prop) : Prop := match ds with
  | [.int i, .int j] => (-(2 ^ 62) ≤ i ∧ i < 2 ^ 62 ∧ -(2 ^ 62) ≤ j ∧ j < 2 ^ 62) ∧ P (rangeD i (j - i).toNat) (fun _ => True) L
  | _ => False
/-- range(i, j, -1) -/
def downD (lo : Int) (n : Nat) : List DV := (List.range n).map fun i => DV.int (lo - (i : Nat))
def rng3 (ds : List DV) (L : Led) (P : List DV → (Led → Prop) → Led → Prop) : Prop := match ds with
  | [.int i, .int j, .int (.negSucc 0)] => (-(2 ^ 62) ≤ i ∧ i < 2 ^ 62 ∧ -(2 ^ 62) ≤ j ∧ j < 2 ^ 62) ∧ P (downD i (i - j).toNat) (fun _ => True) L
  | _ => False
def iRng (r : List DV → Led → (List DV → (Led → Prop) → Led → Prop) → Prop) (ta : AA) : AI := fun ρ L P px => ta ρ L (fun ds L1 => r ds L1 P) px
def signs (z : Str) : List DV := z.cps.toList.map fun c => DV.str ⟨#[c]⟩
def iSig (te : AE) : AI := fun ρ L P px => te ρ L (fun x L1 => match x with
  | .str z => P (signs z) (fun _ => True) L1
  | _ => False) px
section
variable {k : Kx} {I0 : Hp} {a : Addr} {vs : List V} {ds : List DV}
theorem it_list (h : SqL k.K I0 a vs) (r : Rps k.K I0 ds vs) : ItOk k (Itl k.K a) I0 ds (fun _ => True) where
  stop i A e _ hi := ⟨vs, A.imm.l (e.l h), by rw [← r.length]; exact hi⟩
  go i d A e _ hd := let ⟨v, hv, _⟩ := r.get hd; ⟨vs, v, A.imm.l (e.l h), hv⟩
  yld i d x H' A e _ hd y := by
    obtain ⟨rfl, y⟩ := y
    obtain ⟨v, hv, rv⟩ := r.get hd
    have := y vs (A.imm.l (e.l h))
    rw [hv] at this; cases this
    exact ⟨_, A, Ex.refl _, rv.mono e⟩
theorem it_tup (h : SqT k.K I0 a vs) (r : Rps k.K I0 ds vs) : ItOk k (Itt k.K a) I0 ds (fun _ => True) where
  stop i A e _ hi := ⟨vs, A.imm.t (e.t h), by rw [← r.length]; exact hi⟩
  go i d A e _ hd := let ⟨v, hv, _⟩ := r.get hd; ⟨vs, v, A.imm.t (e.t h), hv⟩
  yld i d x H' A e _ hd y := by
    obtain ⟨rfl, y⟩ := y
    obtain ⟨v, hv, rv⟩ := r.get hd
    have := y vs (A.imm.t (e.t h))
    rw [hv] at this; cases this
    exact ⟨_, A, Ex.refl _, rv.mono e⟩
theorem it_led : ItOk k (Itl k.K a) I0 ds (fun L' => L' a = some (.lst ds)) where
  stop i A e st hi := by
    obtain ⟨_, _, o, e2, r2⟩ := A.led _ _ st
    cases r2 with
    | lst r => exact ⟨_, SqL.of e2, by rw [← r.length]; exact hi⟩
  go i d A e st hd := by
    obtain ⟨_, _, o, e2, r2⟩ := A.led _ _ st
    cases r2 with
    | lst r =>
      obtain ⟨v, hv, _⟩ := r.get hd
      exact ⟨_, v, SqL.of e2, hv⟩
  yld i d x H' A e st hd y := by
    obtain ⟨rfl, y⟩ := y
    obtain ⟨_, _, o, e2, r2⟩ := A.led _ _ st
    cases r2 with
    | lst r =>
      obtain ⟨v, hv, rv⟩ := r.get hd
      have := y _ (SqL.of e2)
      rw [hv] at this; cases this
      exact ⟨_, A, Ex.refl _, rv⟩
theorem rangeD_get {lo : Int} {n i : Nat} {d : DV} (h : (rangeD lo n)[i]? = some d) : i < n ∧ d = .int (lo + (i : Nat)) := by
  unfold rangeD at h
  rw [List.getElem?_map] at h
  by_cases hi : i < n
  · rw [List.getElem?_range hi] at h
    exact ⟨hi, (Option.some.inj h).symm⟩
  · rw [List.getElem?_eq_none (by simpa using Nat.le_of_not_lt hi)] at h; cases h
theorem rangeD_length (lo : Int) (n : Nat) : (rangeD lo n).length = n := by simp [rangeD]
theorem it_range {lo : Int} {n : Nat} : ItOk k (Itr lo n) I0 (rangeD lo n) (fun _ => True) where
  stop i A e _ hi := by rw [rangeD_length] at hi; exact hi
  go i d A e _ hd := (rangeD_get hd).1
  yld i d x H' A e _ hd y := by
    obtain ⟨rfl, rfl⟩ := y
    rw [(rangeD_get hd).2]
    exact ⟨_, A, Ex.refl _, .int _⟩
theorem it_signs {z : Str} : ItOk k (Its z) I0 (signs z) (fun _ => True) where
  stop i A e _ hi := by
    show z.cps.size ≤ i
    simpa [signs] using hi
  go i d A e _ hd := by
    have := (List.getElem?_eq_some_iff.mp hd).1
    show i < z.cps.size
    simpa [signs] using this
  yld i d x H' A e _ hd y := by
    obtain ⟨rfl, c, hc, rfl⟩ := y
    unfold signs at hd
    rw [List.getElem?_map, Array.getElem?_toList, hc] at hd
    cases hd
    exact ⟨_, A, Ex.refl _, .str _⟩
end
section
variable {X : Cx} {W : WX} {tg e a b : Expr} {te : AE} {ta : AA} {p pos : Pos}
/-- list or tuple, known when it has come -/
theorem pi_both {t : TE} (h : PE X e t) : PI X tg e (fun σ H R => t σ H fun x H1 => ∃ l, x = .ref l ∧ (((∃ xs, SqL X.K H1 l xs) ∧ R (Itl X.K l) H1) ∨ ((∃ xs, SqT X.K H1 l xs) ∧ R (Itt X.K l) H1))) := by
  refine ⟨fun pins s σ H R I hh => ?_⟩
  refine thn (h.run pins s σ H _ I hh) fun v s1 ⟨x, H1, I1, r1, l, ex, q⟩ => ?_
  subst ex
  cases r1
  have fresh : ∀ b ∈ [s1.heap.objs.size], FpOk X pins H1 b := fun b hb => by
    rw [List.mem_singleton.mp hb]
    exact I1.fpOk (Nat.le_refl _) (I1.hok.fresh (Nat.le_refl _))
  rcases q with ⟨⟨xs, hq⟩, q⟩ | ⟨⟨xs, hq⟩, q⟩
  · obtain ⟨its, rv, pl, hz⟩ := I1.list hq
    refine wpAny_pyIter_list pl.isList ⟨s1.heap.objs.size, [s1.heap.objs.size], _, _, H1, rfl, ?_, turn_list l _, ⟨_, Heap.get?_push_size _ rfl, rfl, rfl⟩, fresh, q⟩
    exact I1.kept (t' := s1.toks) fun b o z => Heap.get?_push_of_some _ z
  · obtain ⟨its, rv, pl, hz⟩ := I1.tuple hq
    refine wpAny_pyIter_tuple (show s1.heap.IsTuple l its.toArray from pl) ⟨s1.heap.objs.size, [s1.heap.objs.size], _, _, H1, rfl, ?_, turn_tuple l _, ⟨_, Heap.get?_push_size _ rfl, rfl, rfl⟩, fresh, q⟩
    exact I1.kept (t' := s1.toks) fun b o z => Heap.get?_push_of_some _ z
theorem i_seq (h : PE X e (cE X.kx W te)) : PI X tg e (cI X.kx W (iSeq te)) :=
  (pi_both h).imp fun σ H R ⟨I, L, F, ρ, P, px, S, h, q⟩ => ⟨I, L, F, ρ, _, px, S, h, fun x L1 xv I1 H1 h1 A1 e1 r1 => by
    cases r1 <;> try exact h1.elim
    case ref l =>
      obtain ⟨ds, hl, h1⟩ := h1
      obtain ⟨_, _, o, e2, r2⟩ := A1.led _ _ hl
      cases r2 with
      | lst r => exact ⟨l, rfl, .inl ⟨⟨_, SqL.of e2⟩, q _ _ _ _ _ _ h1 A1 e1 it_led⟩⟩
    case lst l vs ds hl r => exact ⟨l, rfl, .inl ⟨⟨_, SqL.of (A1.imm _ _ hl)⟩, q _ _ _ _ _ _ h1 A1 e1 (it_list (SqL.of hl) r)⟩⟩
    case wl l vs ds hl r => exact ⟨l, rfl, .inl ⟨⟨_, A1.imm.l hl⟩, q _ _ _ _ _ _ h1 A1 e1 (it_list hl r)⟩⟩
    case tup l vs ds hl r => exact ⟨l, rfl, .inr ⟨⟨_, A1.imm.t hl⟩, q _ _ _ _ _ _ h1 A1 e1 (it_tup hl r)⟩⟩⟩
theorem i_rng1 (hg : Gl X "range") (hm : X.mg "range" = none) (ha : PA X [a] (cA X.kx W ta)) (hs : starEach [a] X.env = [(false, eval a X.env)] := by rfl) : PI X tg (.Call (.Name "range" p) [a] [] pos) (cI X.kx W (iRng rng1 ta)) :=
  (pi_range1 hg hm ha hs).imp fun σ H R ⟨I, L, F, ρ, P, px, S, h, q⟩ => ⟨I, L, F, ρ, _, px, S, h, fun ds L1 vs I1 H1 h1 A1 e1 r1 => by
    unfold rng1 at h1
    split at h1
    · obtain ⟨v, rfl, r2⟩ := one_rp (k := X.kx) r1; cases r2
      exact ⟨_, rfl, h1.1.1, h1.1.2, q _ _ _ _ _ _ h1.2 A1 e1 it_range⟩
    · exact h1.elim⟩
theorem i_rng2 (hg : Gl X "range") (hm : X.mg "range" = none) (ha : PA X [a, b] (cA X.kx W ta)) (hs : starEach [a, b] X.env = [(false, eval a X.env), (false, eval b X.env)] := by rfl) (hs2 : starEach [b] X.env = [(false, eval b X.env)] := by rfl) : PI X tg (.Call (.Name "range" p) [a, b] [] pos) (cI X.kx W (iRng rng2 ta)) :=
  (pi_range2 hg hm ha hs hs2).imp fun σ H R ⟨I, L, F, ρ, P, px, S, h, q⟩ => ⟨I, L, F, ρ, _, px, S, h, fun ds L1 vs I1 H1 h1 A1 e1 r1 => by
    unfold rng2 at h1
    split at h1
    · obtain ⟨v, w, rfl, r2, r3⟩ := two_rp (k := X.kx) r1; cases r2; cases r3
      exact ⟨_, _, rfl, h1.1, q _ _ _ _ _ _ h1.2 A1 e1 it_range⟩
    · exact h1.elim⟩
theorem it_down {k : Kx} {I0 : Hp} {lo : Int} {n : Nat} : ItOk k (Itc lo (-1) n) I0 (downD lo n) (fun _ => True) where
  stop i A e _ hi := by
    show n ≤ i
    simpa [downD] using hi
  go i d A e _ hd := by
    show i < n
    simpa [downD] using (List.getElem?_eq_some_iff.mp hd).1
  yld i d x H' A e _ hd y := by
    obtain ⟨rfl, rfl⟩ := y
    unfold downD at hd
    rw [List.getElem?_map] at hd
    have hi : i < n := by
      by_cases hi : i < n
      · exact hi
      · rw [List.getElem?_eq_none (by simpa using Nat.le_of_not_lt hi)] at hd; cases hd
    rw [List.getElem?_range hi] at hd
    have ed : d = .int (lo - (i : Nat)) := (Option.some.inj hd).symm
    rw [ed, show lo - (i : Int) = lo + (i : Nat) * (-1) by omega]
    exact ⟨_, A, Ex.refl _, .int _⟩
theorem i_rng3 {c : Expr} (hg : Gl X "range") (hm : X.mg "range" = none) (ha : PA X [a, b, c] (cA X.kx W ta)) (hs : starEach [a, b, c] X.env = (false, eval a X.env) :: starEach [b, c] X.env := by rfl) (hpl : (backTo pos (starEach [b, c] X.env)).any (·.1) = false := by rfl) :
    PI X tg (.Call (.Name "range" p) [a, b, c] [] pos) (cI X.kx W (iRng rng3 ta)) :=
  (pi_range3 hg hm ha hs hpl).imp fun σ H R ⟨I, L, F, ρ, P, px, S, h, q⟩ => ⟨I, L, F, ρ, _, px, S, h, fun ds L1 vs I1 H1 h1 A1 e1 r1 => by
    unfold rng3 at h1
    split at h1
    · cases r1 with | cons r2 r1 => cases r1 with | cons r3 r1 => cases r1 with | cons r4 r1 =>
      cases r1; cases r2; cases r3; cases r4
      exact ⟨_, _, _, _, rfl, RgC.neg h1.1.1 h1.1.2.1 h1.1.2.2.1 h1.1.2.2.2, q _ _ _ _ _ _ h1.2 A1 e1 it_down⟩
    · exact h1.elim⟩
theorem i_sig (h : PE X e (cE X.kx W te)) : PI X tg e (cI X.kx W (iSig te)) :=
  (pi_str h).imp fun σ H R ⟨I, L, F, ρ, P, px, S, h, q⟩ => ⟨I, L, F, ρ, _, px, S, h, fun x L1 xv I1 H1 h1 A1 e1 r1 => by
    cases r1 <;> try exact h1.elim
    exact ⟨_, rfl, q _ _ _ _ _ _ h1 A1 e1 it_signs⟩⟩
/-- enumerate of a list -/
def enumD (ds : List DV) : List DV := ds.zipIdx.map fun p => DV.tup [.int (p.2 : Nat), p.1]
def iEnu (ta : AA) : AI := fun ρ L P px => ta ρ L (fun ds L1 => match ds with
  | [.lst xs] => P (enumD xs) (fun _ => True) L1
  | [.ref a] => ∃ xs, L1 a = some (.lst xs) ∧ P (enumD xs) (fun L' => L' a = some (.lst xs)) L1
  | _ => False) px
theorem enumD_get {ds : List DV} {i : Nat} {d : DV} (h : (enumD ds)[i]? = some d) : ∃ x, ds[i]? = some x ∧ d = .tup [.int (i : Nat), x] := by
  unfold enumD at h
  rw [List.getElem?_map, List.getElem?_zipIdx] at h
  cases e : ds[i]? with
  | none => rw [e] at h; cases h
  | some x =>
    rw [e] at h
    refine ⟨x, rfl, ?_⟩
    have := (Option.some.inj h).symm
    simpa using this
theorem enumD_length (ds : List DV) : (enumD ds).length = ds.length := by simp [enumD]
theorem pair_new {k : Kx} {I F H : Hp} {L : Led} {T : Addr} {i : Nat} {v : V} {x : DV} (A : Ab k I L F H) (h : H T = none) (r : Rp k.K I x v) : ∃ I', Ab k I' L F (upd H T (.tup [.int (i : Nat), v])) ∧ Ex I I' ∧ Rp k.K I' (.tup [.int (i : Nat), x]) (.ref T) :=
  ⟨_, A.newI h, Ex.new (A.freeI h), .tup (SqT.of upd_same) (.cons (.int _) (.cons (r.mono (Ex.new (A.freeI h))) .nil))⟩
theorem it_enum {k : Kx} {I0 : Hp} {a : Addr} {ds : List DV} {st : Led → Prop} (hh : ∀ {I F H : Hp} {L : Led}, Ab k I L F H → Ex I0 I → st L → ∃ vs, SqL k.K H a vs ∧ Rps k.K I ds vs) : ItOk k (Ite k.K a) I0 (enumD ds) st where
  stop i A e s hi := by
    obtain ⟨vs, h1, r⟩ := hh A e s
    exact ⟨vs, h1, by rw [← r.length]; simpa [enumD_length] using hi⟩
  go i d A e s hd := by
    obtain ⟨vs, h1, r⟩ := hh A e s
    obtain ⟨x, hx, _⟩ := enumD_get hd
    obtain ⟨v, hv, _⟩ := r.get hx
    exact ⟨vs, v, h1, hv⟩
  yld i d x H' A e s hd y := by
    obtain ⟨T, v, rfl, hT, rfl, y⟩ := y
    obtain ⟨vs, h1, r⟩ := hh A e s
    obtain ⟨z, hz, rfl⟩ := enumD_get hd
    obtain ⟨w, hw, rw'⟩ := r.get hz
    have := y vs h1
    rw [hw] at this; cases this
    exact pair_new A hT rw'
theorem i_enu {elts : List Expr} {kk : Nat} {tpos : Pos} (hg : Gl X "enumerate") (hm : X.mg "enumerate" = none) (ha : PA X [e] (cA X.kx W ta)) (hs : starEach [e] X.env = [(false, eval e X.env)] := by rfl) :
    PI X (.Tuple elts kk tpos) (.Call (.Name "enumerate" p) [e] [] pos) (cI X.kx W (iEnu ta)) :=
  (pi_enum hg hm ha hs).imp fun σ H R ⟨I, L, F, ρ, P, px, S, h, q⟩ => ⟨I, L, F, ρ, _, px, S, h, fun ds L1 vs I1 H1 h1 A1 e1 r1 => by
    split at h1
    · obtain ⟨v, rfl, r2⟩ := one_rp (k := X.kx) r1
      cases r2 with
      | lst hl r => exact ⟨_, _, rfl, SqL.of (A1.imm _ _ hl), q _ _ _ _ _ _ h1 A1 e1 (it_enum fun A e _ => ⟨_, SqL.of (A.imm _ _ (e _ _ hl)), r.mono e⟩)⟩
    · obtain ⟨v, rfl, r2⟩ := one_rp (k := X.kx) r1
      cases r2
      obtain ⟨xs, hl, h1⟩ := h1
      obtain ⟨_, _, o, e2, r2⟩ := A1.led _ _ hl
      cases r2 with
      | lst r =>
        refine ⟨_, _, rfl, SqL.of e2, q _ _ _ _ _ _ h1 A1 e1 (it_enum fun A e s => ?_)⟩
        obtain ⟨_, _, o, e3, r3⟩ := A.led _ _ s
        cases r3 with
        | lst r => exact ⟨_, SqL.of e3, r⟩
    · exact h1.elim⟩
end

/-! ### targets -/
abbrev AG := DV → Sl → Led → (Sl → Led → Prop) → Prop
abbrev AGs := List DV → Sl → Led → (Sl → Led → Prop) → Prop
def gN (i : Nat) : AG := fun d ρ L P => P (ρ.set i (some d)) L
/-- the slots js take the items -/
def setsA : List Nat → List DV → Sl → Sl
  | j :: js, d :: ds, ρ => setsA js ds (ρ.set j (some d))
  | _, _, ρ => ρ
def setsV : List Nat → List V → L2.St → L2.St
  | j :: js, d :: ds, ρ => setsV js ds (ρ.set j (some d))
  | _, _, ρ => ρ
def gT (js : List Nat) : AG := fun d ρ L P => match d with
  | .tup ds => ds.length = js.length ∧ P (setsA js ds ρ) L
  | _ => False
/-- the model's target and ours; vs: slots that a block forgets -/
structure GOk (X : Cx) (gc : TG) (ga : AG) (js : List Nat) : Prop where
  go : ∀ {k : Kx} {I F H : Hp} {L : Led} {σ : L2.St} {ρ : Sl} {d : DV} {v : V} {P : Sl → Led → Prop} {Q : L2.St → Hp → Prop}, k.K = X.K → Ab k I L F H → RpS k.K I ρ σ → Rp k.K I d v → ga d ρ L P →
    (∀ ρ' σ' (us : List V), P ρ' L → RpS k.K I ρ' σ' → σ' = setsV js us σ → Q σ' H) → gc v σ H Q
theorem gok_name {X : Cx} (i : Nat) : GOk X (L2.gName i) (gN i) [i] where
  go {k I F H L σ ρ d v P Q} _ A rs r h q := q _ _ [v] h (rs.set r i) rfl
theorem setsA_rp {K : PySem.W.Frag} {I : Hp} : ∀ {js : List Nat} {ds : List DV} {vs : List V} {ρ : Sl} {σ : L2.St}, Rps K I ds vs → RpS K I ρ σ → RpS K I (setsA js ds ρ) (setsV js vs σ)
  | [], _, _, _, _, _, h => by simpa [setsA, setsV] using h
  | j :: js, [], _, _, _, .nil, h => by simpa [setsA, setsV] using h
  | j :: js, _, _, _, _, .cons r rr, h => setsA_rp (js := js) rr (h.set r j)
/-- the model's target of several names -/
def gNames : List Nat → TGs
  | [] => L2.gNil
  | j :: js => L2.gCons (L2.gName j) (gNames js)
theorem gNames_go : ∀ {js : List Nat} {vs : List V} {σ : L2.St} {H : Hp} {Q : L2.St → Hp → Prop}, vs.length = js.length → Q (setsV js vs σ) H → gNames js vs σ H Q
  | [], [], _, _, _, _, q => ⟨rfl, q⟩
  | j :: js, v :: vs, _, _, _, h, q => ⟨v, vs, rfl, gNames_go (js := js) (by simpa using h) q⟩
theorem gok_tup {X : Cx} (js : List Nat) : GOk X (L2.gTup X.K js.length (gNames js)) (gT js) js where
  go {k I F H L σ ρ d v P Q} ek A rs r h q := by
    cases r <;> try exact h.elim
    rename_i a vs ds ht rr
    exact ⟨a, vs, rfl, by rw [← ek]; exact A.imm.t ht, by rw [← rr.length]; exact h.1, gNames_go (by rw [← rr.length]; exact h.1) (q _ _ vs h.2 (setsA_rp rr rs) rfl)⟩

/-! ### for -/
def aFor (ti : AI) (g : AG) (tb : AS) : AS := fun AD ρ L => ti ρ L (fun items stay L1 => ∃ Pv : Nat → Sl → Led → Prop, Pv 0 ρ L1 ∧ (∀ i ρ' L', Pv i ρ' L' → stay L') ∧
  (∀ i d ρ' L', items[i]? = some d → Pv i ρ' L' → g d ρ' L' fun ρ2 L2 => tb { AD with nx := Pv (i + 1), ct := Pv (i + 1), bk := AD.nx } ρ2 L2) ∧ ∀ ρ' L', Pv items.length ρ' L' → AD.nx ρ' L') AD.px
section
variable {X : Cx} {W : WX} {tg iter : Expr} {body : List Stmt} {ti : AI} {gc : TG} {ga : AG} {js : List Nat} {tb : AS} {pos : Pos}
theorem s_for (hp : PassesOwn (model X.prog X.w) X.A X.env X.xe) (hc : X.calm = true) (hi : PI X tg iter (cI X.kx W ti)) (hg : PG X tg gc) (ok : GOk X gc ga js) (hb : PSs X body (cS X.kx W tb)) (hs : ∀ x, foldedSetIterable iter X.env x = pure x := by intro _; rfl) :
    PS X (.For tg iter body [] pos) (cS X.kx W (aFor ti ga tb)) :=
  (ps_for hp hc hi hg hb hs).imp fun D σ H ⟨I, L, F, ρ, AD, S, h, q⟩ => ⟨I, L, F, ρ, _, AD.px, S, h, fun items stay L1 J I1 H1 ⟨Pv, p0, ps, pt, pd⟩ A1 e1 it => by
    refine ⟨fun i m σ' H' => m = items.length - i ∧ i ≤ items.length ∧ ∃ I' L' ρ', Ab X.kx I' L' F H' ∧ Ex I1 I' ∧ RpS X.K I' ρ' σ' ∧ Pv i ρ' L', ⟨_, rfl, Nat.zero_le _, I1, L1, ρ, A1, Ex.refl _, S.rs.mono e1, p0⟩, ?_⟩
    rintro i m σ' H' ⟨rfl, hi', I', L', ρ', A', e', r', p'⟩
    have e2 := e1.trans e'
    have hst := ps i ρ' L' p'
    by_cases hlt : i < items.length
    · refine .inr ⟨it.go i items[i] A' e' hst (List.getElem?_eq_getElem hlt), fun σ'' H'' => ∃ I'' L'' ρ'', Ab X.kx I'' L'' F H'' ∧ Ex I1 I'' ∧ RpS X.K I'' ρ'' σ'' ∧ Pv (i + 1) ρ'' L'', fun σ'' H'' z => ⟨items.length - (i + 1), by omega, rfl, hlt, z⟩, fun x H2 y => ?_⟩
      obtain ⟨I2, A2, e3, r2⟩ := it.yld i items[i] x H2 A' e' hst (List.getElem?_eq_getElem hlt) y
      refine ok.go (k := X.kx) rfl A2 (r'.mono e3) r2 (pt i _ ρ' L' (List.getElem?_eq_getElem hlt) p') fun ρ3 σ3 us h3 r3 _ => ?_
      have e4 := e'.trans e3
      have e5 := e1.trans e4
      refine ⟨I2, L', F, ρ3, { AD with nx := Pv (i + 1), ct := Pv (i + 1), bk := AD.nx }, ⟨A2, r3, S.xx.mono e5⟩, h3, ⟨fun ρ6 L6 σ6 I6 H6 h6 A6 e6 r6 => ⟨I6, L6, ρ6, A6, e4.trans e6, r6, h6⟩, q.rt.mono e5, q.nx.mono e5, fun ρ6 L6 σ6 I6 H6 h6 A6 e6 r6 => ⟨I6, L6, ρ6, A6, e4.trans e6, r6, h6⟩⟩⟩
    · have hi2 : i = items.length := by omega
      subst hi2
      exact .inl ⟨it.stop _ A' e' hst (Nat.le_refl _), q.nx _ _ _ _ _ (pd ρ' L' p') A' e2 r'⟩⟩

/-! ### list comprehensions -/
def wipeA (ρ : Sl) : List Nat → Sl
  | [] => ρ
  | v :: vs => (wipeA ρ vs).set v none
theorem wipeA_rp {K : PySem.W.Frag} {I : Hp} {ρ : Sl} {σ : L2.St} (h : RpS K I ρ σ) : ∀ vs : List Nat, RpS K I (wipeA ρ vs) (wipe σ vs)
  | [] => h
  | v :: vs => (wipeA_rp h vs).setNone v
theorem wipe_get (σ : L2.St) (i : Nat) : ∀ vs : List Nat, (wipe σ vs)[i]? = if i ∈ vs then (if i < σ.length then some none else none) else σ[i]?
  | [] => by simp [wipe]
  | v :: vs => by
    unfold wipe
    by_cases h : v = i
    · subst h
      rw [if_pos List.mem_cons_self]
      by_cases hl : v < σ.length
      · rw [if_pos hl, List.getElem?_set_self (by rw [wipe_length]; exact hl)]
      · rw [if_neg hl, List.getElem?_eq_none (by rw [List.length_set, wipe_length]; omega)]
    · rw [List.getElem?_set_ne h, wipe_get σ i vs]
      by_cases hm : i ∈ vs
      · rw [if_pos hm, if_pos (List.mem_cons_of_mem _ hm)]
      · rw [if_neg hm, if_neg (by simp only [List.mem_cons, not_or]; exact ⟨fun z => h z.symm, hm⟩)]
theorem setsV_len : ∀ (js : List Nat) (us : List V) (σ : L2.St), (setsV js us σ).length = σ.length
  | [], _, _ => rfl
  | _ :: _, [], _ => rfl
  | j :: js, u :: us, σ => by rw [setsV, setsV_len js us, List.length_set]
theorem setsV_out : ∀ (js : List Nat) (us : List V) (σ : L2.St) (i : Nat), i ∉ js → (setsV js us σ)[i]? = σ[i]?
  | [], _, _, _, _ => rfl
  | _ :: _, [], _, _, _ => rfl
  | j :: js, u :: us, σ, i, h => by
    simp only [List.mem_cons, not_or] at h
    rw [setsV, setsV_out js us _ i h.2, List.getElem?_set_ne (Ne.symm h.1)]
theorem wipe_sets (σ : L2.St) (js : List Nat) (us : List V) (vs : List Nat) (h : ∀ j ∈ js, j ∈ vs) : wipe (setsV js us (wipe σ vs)) vs = wipe σ vs := by
  apply List.ext_getElem?
  intro i
  rw [wipe_get, wipe_get, setsV_len, wipe_length]
  by_cases hm : i ∈ vs
  · rw [if_pos hm, if_pos hm]
  · rw [if_neg hm, if_neg hm, setsV_out js us _ i (fun z => hm (h i z)), wipe_get, if_neg hm]
def noPX : PX := fun _ _ _ => False
abbrev W0 : WX := fun _ _ _ _ => False
def aLcN (nw : List DV → Led → PD → Prop) (ti : AI) (g : AG) (tt : AT) (te : AE) (vs : List Nat) : AE := fun ρ L P px => ti ρ L (fun items stay L1 => items.length < sizeLine ∧ ∃ Pv : Nat → List DV → Led → Prop, Pv 0 [] L1 ∧ (∀ i acc L', Pv i acc L' → stay L' ∧ acc.length ≤ i) ∧
  (∀ i d acc L', items[i]? = some d → Pv i acc L' → g d (wipeA ρ vs) L' fun ρ2 L2 => tt ρ2 L2 (fun b L3 => (b = true → te ρ2 L3 (fun y L4 => Pv (i + 1) (acc ++ [y]) L4) noPX) ∧ (b = false → Pv (i + 1) acc L3)) noPX) ∧ ∀ acc L', Pv items.length acc L' → nw acc L' P) px
abbrev aLc (ti : AI) (g : AG) (tt : AT) (te : AE) (vs : List Nat) : AE := aLcN newL ti g tt te vs
def aYes : AT := fun _ L P _ => P true L
theorem t_yes {X : Cx} : PTs X [] (cT X.kx W0 aYes) := ⟨fun pins s σ H Q I h => by
  obtain ⟨I0, L, F, ρ, P, px, S, h, q⟩ := h
  exact pts_nil.run pins s σ H Q I (q _ _ _ _ h S.ab (Ex.refl _))⟩
theorem t_one {X : Cx} {c : Expr} {t : AT} (h : PT X c (cT X.kx W0 t)) : PTs X [c] (cT X.kx W0 t) := pts_one h
theorem hid_upd {k : Kx} {I F H : Hp} {L : Led} {D : Addr} {o o' : HO} (A : Ab k I L (upd F D o) H) : Ab k I L (upd F D o') (upd H D o') := by
  have hD : (upd F D o) D = some o := upd_same
  refine ⟨fun a u e => ?_, fun a u e => ?_, fun a m e => ?_, fun a u e => ?_⟩
  · have : a ≠ D := fun z => by
      subst z
      rw [A.sep _ _ hD] at e; cases e
    rw [upd_ne this]; exact A.imm a u e
  · by_cases z : a = D
    · subst z; rw [upd_same] at e ⊢; exact e
    · rw [upd_ne z] at e ⊢; exact A.frm a u (by rw [upd_ne z]; exact e)
  · obtain ⟨h1, h2, o2, h3, h4⟩ := A.led a m e
    have : a ≠ D := fun z => by subst z; rw [hD] at h2; cases h2
    exact ⟨h1, by rw [upd_ne this] at h2 ⊢; exact h2, o2, by rw [upd_ne this]; exact h3, h4⟩
  · by_cases z : a = D
    · subst z; exact A.sep _ _ hD
    · rw [upd_ne z] at e; exact A.sep a u (by rw [upd_ne z]; exact e)
theorem lc_go {k : Kx} {K : PySem.W.Frag} {W : WX} {σ : L2.St} {H : Hp} {Q : VK} {tt : AT} {te : AE} {vs : List Nat} (ek : k = X.kx) (ok : GOk X gc ga js) (hj : ∀ j ∈ js, j ∈ vs) {nw : List DV → Led → PD → Prop} (hn : ∀ ds L P, nw ds L P → newL ds L P) (h : cE k W (aLcN nw ti ga tt te vs) σ H Q) :
    tLc (cI k W ti) gc (cT k W0 tt) (cE k W0 te) vs σ H Q := by
  subst ek
  obtain ⟨I, L, F, ρ, P, px, S, h, q⟩ := h
  refine ⟨I, L, F, ρ, _, px, S, h, fun items stay L1 J I1 H1 ⟨hlen, Pv, p0, ps, pt, pd⟩ A1 e1 it D hD => ?_⟩
  have hF := A1.freeF hD
  refine ⟨fun i m H' => m = items.length - i ∧ i ≤ items.length ∧ ∃ I' L' acc av, Ab X.kx I' L' (upd F D (.lst av)) H' ∧ Ex I1 I' ∧ Rps X.K I' acc av ∧ Pv i acc L', ⟨_, rfl, Nat.zero_le _, I1, L1, [], [], A1.newF hD, Ex.refl _, .nil, p0⟩, ?_⟩
  rintro i m H' ⟨rfl, hi', I', L', acc, av, A', e', r', p'⟩
  obtain ⟨hst, hal⟩ := ps i acc L' p'
  by_cases hlt : i < items.length
  · refine .inr ⟨it.go i items[i] A' e' hst (List.getElem?_eq_getElem hlt), fun H'' => ∃ I'' L'' acc2 av2, Ab X.kx I'' L'' (upd F D (.lst av2)) H'' ∧ Ex I1 I'' ∧ Rps X.K I'' acc2 av2 ∧ Pv (i + 1) acc2 L'', fun H'' z => ⟨items.length - (i + 1), by omega, rfl, hlt, z⟩, fun x H2 y => ?_⟩
    obtain ⟨I2, A2, e3, r2⟩ := it.yld i items[i] x H2 A' e' hst (List.getElem?_eq_getElem hlt) y
    have e4 := e'.trans e3
    refine ok.go (k := X.kx) rfl A2 (wipeA_rp (S.rs.mono (e1.trans e4)) vs) r2 (pt i _ acc L' (List.getElem?_eq_getElem hlt) p') fun ρ3 σ3 us h3 r3 es => ⟨by rw [es]; exact wipe_sets σ js us vs hj, ?_⟩
    refine ⟨I2, L', upd F D (.lst av), ρ3, _, noPX, ⟨A2, r3, fun _ _ _ _ _ _ z => z.elim⟩, h3, fun b L5 I5 H5 h5 A5 e5 => ?_⟩
    cases b with
    | false => exact iteF ⟨I5, L5, acc, av, A5, e4.trans e5, r'.mono (e3.trans e5), h5.2 rfl⟩
    | true =>
      refine iteT ⟨I5, L5, upd F D (.lst av), ρ3, _, noPX, ⟨A5, r3.mono e5, fun _ _ _ _ _ _ z => z.elim⟩, h5.1 rfl, fun y L6 yv I6 H6 h6 A6 e6 r6 => ?_⟩
      refine ⟨av, A6.frm _ _ upd_same, by have := r'.length; omega, I6, L6, acc ++ [y], av ++ [yv], hid_upd A6, (e4.trans e5).trans e6, (r'.mono ((e3.trans e5).trans e6)).append (.cons r6 .nil), h6⟩
  · have hi2 : i = items.length := by omega
    subst hi2
    refine .inl ⟨it.stop _ A' e' hst (Nat.le_refl _), ?_⟩
    have hL : L' D = none := by
      cases z : L' D with
      | none => rfl
      | some mo =>
        obtain ⟨_, h2, _⟩ := A'.led _ _ z
        rw [upd_same] at h2; cases h2
    have A3 := A'.unhide hF r'
    rcases hn _ _ _ (pd acc L' p') with h | h
    · exact q _ _ _ _ _ (h D hL) A3 (e1.trans e') (.ref D)
    · obtain ⟨I4, e4, A4, r4⟩ := A3.freeze updL_same
      rw [delL_updL hL] at A4
      exact q _ _ _ _ _ h A4 ((e1.trans e').trans e4) r4
theorem a_lc {elt tg iter : Expr} {ifs : List Expr} {scope : Scope} {own : List (Str × Nat)} {tt : AT} {te : AE} (hc : X.calm = true) (hN : X.N.Nodup) (hi : PI X tg iter (cI X.kx W ti)) (ok : BlkOk X.N X.env.scope scope own) (gk : GOk X gc ga js) (hj : ∀ j ∈ js, j ∈ own.map (·.2))
    (hg : ∀ (s : Shared) (H : Hp) (C : Addr) (cl : List (Str × Addr)) (fp : List Addr), PG (X.blk s H scope (compEnvC scope cl C X.env) fp) tg gc) (ht : ∀ (s : Shared) (H : Hp) (C : Addr) (cl : List (Str × Addr)) (fp : List Addr), PTs (X.blk s H scope (compEnvC scope cl C X.env) fp) ifs (cT X.kx W0 tt))
    (he : ∀ (s : Shared) (H : Hp) (C : Addr) (cl : List (Str × Addr)) (fp : List Addr), PE (X.blk s H scope (compEnvC scope cl C X.env) fp) elt (cE X.kx W0 te)) (hs : ∀ x, foldedSetIterable iter X.env x = pure x := by intro _; rfl) :
    PE X (.ListComp elt [⟨tg, iter, ifs, 0⟩] scope pos) (cE X.kx W (aLc ti ga tt te (own.map (·.2)))) := (pe_lc hc hN hi ok hg ht he hs).imp fun σ H Q h => lc_go (K := X.K) rfl gk hj (fun _ _ _ h => h) h
theorem s_setLc {i : Nat} {y : Str} {py spos : Pos} {elt tg iter : Expr} {ifs : List Expr} {scope : Scope} {own : List (Str × Nat)} {tt : AT} {te : AE} (hc : X.calm = true) (hN : X.N.Nodup) (hy : X.N[i]? = some y) (hyl : X.env.scope.names.lookup y = some .local)
    (hsw : swapsWith (.ListComp elt [⟨tg, iter, ifs, 0⟩] scope pos) (some (.Name y py)) spos.line X.env = pure true) (hi : PI X tg iter (cI X.kx W ti)) (ok : BlkOk X.N X.env.scope scope own) (gk : GOk X gc ga js) (hj : ∀ j ∈ js, j ∈ own.map (·.2))
    (hg : ∀ (s : Shared) (H : Hp) (C : Addr) (cl : List (Str × Addr)) (fp : List Addr), PG (X.blk s H scope (compEnvC scope cl C X.env) fp) tg gc) (ht : ∀ (s : Shared) (H : Hp) (C : Addr) (cl : List (Str × Addr)) (fp : List Addr), PTs (X.blk s H scope (compEnvC scope cl C X.env) fp) ifs (cT X.kx W0 tt))
    (he : ∀ (s : Shared) (H : Hp) (C : Addr) (cl : List (Str × Addr)) (fp : List Addr), PE (X.blk s H scope (compEnvC scope cl C X.env) fp) elt (cE X.kx W0 te)) (hs : ∀ x, foldedSetIterable iter X.env x = pure x := by intro _; rfl) :
    PS X (.Assign [.Name y py] (.ListComp elt [⟨tg, iter, ifs, 0⟩] scope pos) spos) (cS X.kx W (aSet i (aLc ti ga tt te (own.map (·.2))))) :=
  (ps_setLc hc hN hy hyl hsw hi ok hg ht he hs).imp fun D σ H ⟨I, L, F, ρ, AD, S, h, q⟩ => lc_go (K := X.K) rfl gk hj (fun _ _ _ h => h) ⟨I, L, F, ρ, _, AD.px, S, h, fun d L1 v I1 H1 h1 A1 e1 r1 => q.nx _ _ _ _ _ h1 A1 e1 ((S.rs.mono e1).set r1 i)⟩
theorem a_lcN {elt tg iter : Expr} {ifs : List Expr} {scope : Scope} {own : List (Str × Nat)} {tt : AT} {te : AE} {nw : List DV → Led → PD → Prop} (hn : ∀ ds L P, nw ds L P → newL ds L P) (hc : X.calm = true) (hN : X.N.Nodup) (hi : PI X tg iter (cI X.kx W ti)) (ok : BlkOk X.N X.env.scope scope own) (gk : GOk X gc ga js) (hj : ∀ j ∈ js, j ∈ own.map (·.2))
    (hg : ∀ (s : Shared) (H : Hp) (C : Addr) (cl : List (Str × Addr)) (fp : List Addr), PG (X.blk s H scope (compEnvC scope cl C X.env) fp) tg gc) (ht : ∀ (s : Shared) (H : Hp) (C : Addr) (cl : List (Str × Addr)) (fp : List Addr), PTs (X.blk s H scope (compEnvC scope cl C X.env) fp) ifs (cT X.kx W0 tt))
    (he : ∀ (s : Shared) (H : Hp) (C : Addr) (cl : List (Str × Addr)) (fp : List Addr), PE (X.blk s H scope (compEnvC scope cl C X.env) fp) elt (cE X.kx W0 te)) (hs : ∀ x, foldedSetIterable iter X.env x = pure x := by intro _; rfl) :
    PE X (.ListComp elt [⟨tg, iter, ifs, 0⟩] scope pos) (cE X.kx W (aLcN nw ti ga tt te (own.map (·.2)))) := (pe_lc hc hN hi ok hg ht he hs).imp fun σ H Q h => lc_go (K := X.K) rfl gk hj hn h
theorem s_setLcN {i : Nat} {y : Str} {py spos : Pos} {elt tg iter : Expr} {ifs : List Expr} {scope : Scope} {own : List (Str × Nat)} {tt : AT} {te : AE} {nw : List DV → Led → PD → Prop} (hn : ∀ ds L P, nw ds L P → newL ds L P) (hc : X.calm = true) (hN : X.N.Nodup) (hy : X.N[i]? = some y) (hyl : X.env.scope.names.lookup y = some .local)
    (hsw : swapsWith (.ListComp elt [⟨tg, iter, ifs, 0⟩] scope pos) (some (.Name y py)) spos.line X.env = pure true) (hi : PI X tg iter (cI X.kx W ti)) (ok : BlkOk X.N X.env.scope scope own) (gk : GOk X gc ga js) (hj : ∀ j ∈ js, j ∈ own.map (·.2))
    (hg : ∀ (s : Shared) (H : Hp) (C : Addr) (cl : List (Str × Addr)) (fp : List Addr), PG (X.blk s H scope (compEnvC scope cl C X.env) fp) tg gc) (ht : ∀ (s : Shared) (H : Hp) (C : Addr) (cl : List (Str × Addr)) (fp : List Addr), PTs (X.blk s H scope (compEnvC scope cl C X.env) fp) ifs (cT X.kx W0 tt))
    (he : ∀ (s : Shared) (H : Hp) (C : Addr) (cl : List (Str × Addr)) (fp : List Addr), PE (X.blk s H scope (compEnvC scope cl C X.env) fp) elt (cE X.kx W0 te)) (hs : ∀ x, foldedSetIterable iter X.env x = pure x := by intro _; rfl) :
    PS X (.Assign [.Name y py] (.ListComp elt [⟨tg, iter, ifs, 0⟩] scope pos) spos) (cS X.kx W (aSet i (aLcN nw ti ga tt te (own.map (·.2))))) :=
  (ps_setLc hc hN hy hyl hsw hi ok hg ht he hs).imp fun D σ H ⟨I, L, F, ρ, AD, S, h, q⟩ => lc_go (K := X.K) rfl gk hj hn ⟨I, L, F, ρ, _, AD.px, S, h, fun d L1 v I1 H1 h1 A1 e1 r1 => q.nx _ _ _ _ _ h1 A1 e1 ((S.rs.mono e1).set r1 i)⟩
end
end AL
namespace AL
open PySem PySem.Spec PyProof.Rows L2

/-! ### methods of lists of the ledger -/
abbrev AM := Addr → List DV → List DV → Led → PD → Prop
def AMt (k : Kx) (r : V → List V → Hp → VK → Prop) (ro : AM) : Prop := ∀ {I F H : Hp} {L : Led} {a : Addr} {xs ds : List DV} {us vs : List V} {P : PD} {Q : VK}, Ab k I L F H → L a = some (.lst xs) → H a = some (.lst us) → Rps k.K I xs us → Rps k.K I ds vs → ro a xs ds L P → Q2 k I F P Q → r (.ref a) vs H Q
/-- o.m(..), o a list that may change -/
def aLm (ro : AM) (te : AE) (t : AA) : AE := fun ρ L P px => te ρ L (fun x L1 => match x with
  | .ref a => (∃ ds, L1 a = some (.lst ds)) ∧ t ρ L1 (fun ds L2 => ∃ xs, L2 a = some (.lst xs) ∧ ro a xs ds L2 P) px
  | _ => False) px
section
variable {X : Cx} {W : WX} {o e : Expr} {es : List Expr} {te : AE} {t : AA} {name : Str} {apos cpos : Pos} {id : String} {r : V → List V → Hp → VK → Prop} {ro : AM}
theorem a_lm0 (pa : PySem.PlainAttrs "list") (slot : PySem.Slot "list" name id) (hty : typeOf (.builtin id) = pure (.type "method_descriptor")) (hm : MtR X id r) (hr : AMt X.kx r ro) (ho : PE X o (cE X.kx W te))
    (hbase : attributeBase o name X.env (eval o X.env) = eval o X.env := by rfl) (hline : (apos.endLine == cpos.line) = true := by rfl) : PE X (.Call (.Attribute o name apos) [] [] cpos) (cE X.kx W (aLm ro te aNil)) :=
  (pe_bm0 pa slot hty hm ho hbase hline).imp fun σ H Q ⟨I, L, F, ρ, P, px, S, h, q⟩ => ⟨I, L, F, ρ, _, px, S, h, fun x L1 xv I1 H1 h1 A1 e1 r1 => by
    cases r1 <;> try exact h1.elim
    obtain ⟨_, xs, e2, h2⟩ := h1
    obtain ⟨_, _, ob, e3, r3⟩ := A1.led _ _ e2
    cases r3 with
    | lst r => exact ⟨.inl ⟨rfl, _, SqL.of e3⟩, hr A1 e2 e3 r .nil h2 (q.mono e1)⟩⟩
theorem a_lm (pa : PySem.PlainAttrs "list") (slot : PySem.Slot "list" name id) (hty : typeOf (.builtin id) = pure (.type "method_descriptor")) (hm : MtR X id r) (hr : AMt X.kx r ro) (ho : PE X o (cE X.kx W te)) (ha : PA X (e :: es) (cA X.kx W t))
    (hbase : attributeBase o name X.env (eval o X.env) = eval o X.env := by rfl)
    (hfew : ((backTo cpos (starEach (e :: es) X.env)).all (fun x => !x.1) && (backToKw cpos (keywordEach [] X.env)).all (fun x => x.1.isSome) && decide ((e :: es).length + ([] : List Keyword).length + (if ([] : List Keyword).isEmpty then 0 else 1) < 30)) = true := by rfl)
    (hline : (apos.endLine == cpos.line) = true := by rfl) (hs : starEach (e :: es) X.env = (false, eval e X.env) :: starEach es X.env := by rfl) (hplain : (backTo cpos (starEach es X.env)).any (·.1) = false := by rfl) :
    PE X (.Call (.Attribute o name apos) (e :: es) [] cpos) (cE X.kx W (aLm ro te t)) :=
  (pe_bm pa slot hty hm ho ha hbase hfew hline hs hplain).imp fun σ H Q ⟨I, L, F, ρ, P, px, S, h, q⟩ => ⟨I, L, F, ρ, _, px, S, h, fun x L1 xv I1 H1 h1 A1 e1 r1 => by
    cases r1 <;> try exact h1.elim
    obtain ⟨⟨xs0, e0⟩, h1⟩ := h1
    obtain ⟨_, _, ob0, e3, r3⟩ := A1.led _ _ e0
    cases r3 with
    | lst r0 =>
    refine ⟨.inl ⟨rfl, _, SqL.of e3⟩, I1, L1, F, ρ, _, px, S.go A1 e1, h1, fun ds L2 vs I2 H2 ⟨xs, e2, h2⟩ A2 e4 r2 => ?_⟩
    obtain ⟨_, _, ob, e5, r5⟩ := A2.led _ _ e2
    cases r5 with
    | lst r => exact hr A2 e2 e5 r r2 h2 (q.mono (e1.trans e4))⟩
end
def mAppend : AM := fun a xs ds L P => match ds with
  | [d] => xs.length < sizeLine ∧ P .non (updL L a (.lst (xs ++ [d])))
  | _ => False
def mExtend : AM := fun a xs ds L P => match ds with
  | [y] => withL L y fun ys => xs.length + ys.length ≤ sizeLine ∧ P .non (updL L a (.lst (xs ++ ys)))
  | _ => False
def mPop : AM := fun a xs ds L P => match ds with
  | [] => ∃ d, xs[xs.length - 1]? = some d ∧ P d (updL L a (.lst xs.dropLast))
  | _ => False
def mReverse : AM := fun a xs ds L P => match ds with
  | [] => P .non (updL L a (.lst xs.reverse))
  | _ => False
def mClear : AM := fun a xs ds L P => match ds with
  | [] => P .non (updL L a (.lst []))
  | _ => False
section
variable {k : Kx}
theorem mAppend_ok : AMt k rAppend mAppend := by
  intro I F H L a xs ds us vs P Q A hl hh r rd h q
  unfold mAppend at h
  split at h
  · cases rd with | cons r1 rr => cases rr; exact ⟨a, us, _, rfl, rfl, hh, by rw [← r.length]; exact h.1, q _ _ _ _ _ h.2 (A.write hl (.lst (r.append (.cons r1 .nil)))) (Ex.refl _) .non⟩
  · exact h.elim
theorem mExtend_ok : AMt k rExtend mExtend := by
  intro I F H L a xs ds us vs P Q A hl hh r rd h q
  unfold mExtend at h
  split at h
  · cases rd with | cons r1 rr =>
    cases rr
    obtain ⟨b, ws, ys, rfl, hb, rb, hz, h⟩ := withL_ok A r1 h
    exact ⟨a, b, us, ws, rfl, rfl, hh, hb, by rw [← r.length, ← rb.length]; exact hz, q _ _ _ _ _ h (A.write hl (.lst (r.append rb))) (Ex.refl _) .non⟩
  · exact h.elim
theorem mPop_ok : AMt k rPop mPop := by
  intro I F H L a xs ds us vs P Q A hl hh r rd h q
  unfold mPop at h
  split at h
  · cases rd
    obtain ⟨d, hd, h⟩ := h
    obtain ⟨v, hv, rv⟩ := r.get hd
    exact ⟨a, us, v, rfl, rfl, hh, by rw [← r.length]; exact hv, q _ _ _ _ _ h (A.write hl (.lst r.dropLast)) (Ex.refl _) rv⟩
  · exact h.elim
theorem mReverse_ok : AMt k rReverse mReverse := by
  intro I F H L a xs ds us vs P Q A hl hh r rd h q
  unfold mReverse at h
  split at h
  · cases rd
    exact ⟨a, us, rfl, rfl, hh, q _ _ _ _ _ h (A.write hl (.lst r.reverse)) (Ex.refl _) .non⟩
  · exact h.elim
theorem mClear_ok : AMt k rClear mClear := by
  intro I F H L a xs ds us vs P Q A hl hh r rd h q
  unfold mClear at h
  split at h
  · cases rd
    exact ⟨a, us, rfl, rfl, hh, q _ _ _ _ _ h (A.write hl (.lst .nil)) (Ex.refl _) .non⟩
  · exact h.elim
end
section
variable {X : Cx} {W : WX} {o e : Expr} {te : AE} {t : AA} {apos cpos : Pos}
theorem a_append (ho : PE X o (cE X.kx W te)) (ha : PA X [e] (cA X.kx W t)) (hbase : attributeBase o "append" X.env (eval o X.env) = eval o X.env := by rfl)
    (hfew : ((backTo cpos (starEach [e] X.env)).all (fun x => !x.1) && (backToKw cpos (keywordEach [] X.env)).all (fun x => x.1.isSome) && decide ([e].length + ([] : List Keyword).length + (if ([] : List Keyword).isEmpty then 0 else 1) < 30)) = true := by rfl)
    (hline : (apos.endLine == cpos.line) = true := by rfl) (hs : starEach [e] X.env = (false, eval e X.env) :: starEach [] X.env := by rfl) : PE X (.Call (.Attribute o "append" apos) [e] [] cpos) (cE X.kx W (aLm mAppend te t)) :=
  a_lm PySem.F.plainAttrs_list PySem.F.slot_list_append PySem.F.type_list_append mt_append mAppend_ok ho ha hbase hfew hline hs
theorem a_extend (ho : PE X o (cE X.kx W te)) (ha : PA X [e] (cA X.kx W t)) (hbase : attributeBase o "extend" X.env (eval o X.env) = eval o X.env := by rfl)
    (hfew : ((backTo cpos (starEach [e] X.env)).all (fun x => !x.1) && (backToKw cpos (keywordEach [] X.env)).all (fun x => x.1.isSome) && decide ([e].length + ([] : List Keyword).length + (if ([] : List Keyword).isEmpty then 0 else 1) < 30)) = true := by rfl)
    (hline : (apos.endLine == cpos.line) = true := by rfl) (hs : starEach [e] X.env = (false, eval e X.env) :: starEach [] X.env := by rfl) : PE X (.Call (.Attribute o "extend" apos) [e] [] cpos) (cE X.kx W (aLm mExtend te t)) :=
  a_lm PySem.F.plainAttrs_list PySem.F.slot_list_extend PySem.F.type_list_extend mt_extend mExtend_ok ho ha hbase hfew hline hs
theorem a_pop (ho : PE X o (cE X.kx W te)) (hbase : attributeBase o "pop" X.env (eval o X.env) = eval o X.env := by rfl) (hline : (apos.endLine == cpos.line) = true := by rfl) : PE X (.Call (.Attribute o "pop" apos) [] [] cpos) (cE X.kx W (aLm mPop te aNil)) :=
  a_lm0 PySem.F.plainAttrs_list PySem.F.slot_list_pop PySem.F.type_list_pop mt_pop mPop_ok ho hbase hline
theorem a_reverse (ho : PE X o (cE X.kx W te)) (hbase : attributeBase o "reverse" X.env (eval o X.env) = eval o X.env := by rfl) (hline : (apos.endLine == cpos.line) = true := by rfl) : PE X (.Call (.Attribute o "reverse" apos) [] [] cpos) (cE X.kx W (aLm mReverse te aNil)) :=
  a_lm0 PySem.F.plainAttrs_list PySem.F.slot_list_reverse PySem.F.type_list_reverse mt_reverse mReverse_ok ho hbase hline
theorem a_clear (ho : PE X o (cE X.kx W te)) (hbase : attributeBase o "clear" X.env (eval o X.env) = eval o X.env := by rfl) (hline : (apos.endLine == cpos.line) = true := by rfl) : PE X (.Call (.Attribute o "clear" apos) [] [] cpos) (cE X.kx W (aLm mClear te aNil)) :=
  a_lm0 PySem.F.plainAttrs_list PySem.F.slot_list_clear PySem.F.type_list_clear mt_clear mClear_ok ho hbase hline
end

/-! ### built-ins over lists -/
def bAll : AC := fun ds L P => match ds with
  | [x] => withL L x fun ds => ∃ bs : List Bool, ds = bs.map DV.bl ∧ P (.bl (bs.all id)) L
  | _ => False
def bAny : AC := fun ds L P => match ds with
  | [x] => withL L x fun ds => ∃ bs : List Bool, ds = bs.map DV.bl ∧ P (.bl (bs.any id)) L
  | _ => False
def bSum : AC := fun ds L P => match ds with
  | [x] => withL L x fun ds => ∃ ns : List Int, ds = ns.map DV.int ∧ P (.int ns.sum) L
  | _ => False
def bMaxL : AC := fun ds L P => match ds with
  | [x] => withL L x fun ds => ∃ ns : List Int, ds = ns.map DV.int ∧ 0 < ns.length ∧ ∀ m, m ∈ ns → (∀ y, y ∈ ns → y ≤ m) → P (.int m) L
  | _ => False
def bMinL : AC := fun ds L P => match ds with
  | [x] => withL L x fun ds => ∃ ns : List Int, ds = ns.map DV.int ∧ 0 < ns.length ∧ ∀ m, m ∈ ns → (∀ y, y ∈ ns → m ≤ y) → P (.int m) L
  | _ => False
def bSorted : AC := fun ds L P => match ds with
  | [x] => withL L x fun ds => ∃ ns : List Int, ds = ns.map DV.int ∧ ∀ ns' : List Int, ns'.Perm ns → ns'.Pairwise (· ≤ ·) → newL (ns'.map DV.int) L P
  | _ => False
section
variable {k : Kx}
theorem bAll_ok : ACl k (rAll k.K) bAll := by
  intro I F H L ds vs P Q A r h q
  unfold bAll at h
  split at h
  · obtain ⟨v, rfl, r1⟩ := one_rp r
    obtain ⟨a, us, xs, rfl, ha, rr, bs, rfl, h⟩ := withL_ok A r1 h
    rw [rr.bls] at ha
    exact ⟨a, bs, rfl, SqL.of ha, here A (.bl _) h q⟩
  · exact h.elim
theorem bAny_ok : ACl k (rAny k.K) bAny := by
  intro I F H L ds vs P Q A r h q
  unfold bAny at h
  split at h
  · obtain ⟨v, rfl, r1⟩ := one_rp r
    obtain ⟨a, us, xs, rfl, ha, rr, bs, rfl, h⟩ := withL_ok A r1 h
    rw [rr.bls] at ha
    exact ⟨a, bs, rfl, SqL.of ha, here A (.bl _) h q⟩
  · exact h.elim
theorem bSum_ok : ACl k (rSum k.K) bSum := by
  intro I F H L ds vs P Q A r h q
  unfold bSum at h
  split at h
  · obtain ⟨v, rfl, r1⟩ := one_rp r
    obtain ⟨a, us, xs, rfl, ha, rr, bs, rfl, h⟩ := withL_ok A r1 h
    rw [rr.ints] at ha
    exact ⟨a, bs, rfl, SqL.of ha, here A (.int _) h q⟩
  · exact h.elim
theorem bMaxL_ok : ACl k (rMax k.K) bMaxL := by
  intro I F H L ds vs P Q A r h q
  unfold bMaxL at h
  split at h
  · obtain ⟨v, rfl, r1⟩ := one_rp r
    obtain ⟨a, us, xs, rfl, ha, rr, bs, rfl, hp, h⟩ := withL_ok A r1 h
    rw [rr.ints] at ha
    exact ⟨a, bs, rfl, SqL.of ha, hp, fun m h1 h2 => here A (.int _) (h m h1 h2) q⟩
  · exact h.elim
theorem bMinL_ok : ACl k (rMin k.K) bMinL := by
  intro I F H L ds vs P Q A r h q
  unfold bMinL at h
  split at h
  · obtain ⟨v, rfl, r1⟩ := one_rp r
    obtain ⟨a, us, xs, rfl, ha, rr, bs, rfl, hp, h⟩ := withL_ok A r1 h
    rw [rr.ints] at ha
    exact ⟨a, bs, rfl, SqL.of ha, hp, fun m h1 h2 => here A (.int _) (h m h1 h2) q⟩
  · exact h.elim
theorem bSorted_ok : ACl k (rSortedI k.K) bSorted := by
  intro I F H L ds vs P Q A r h q
  unfold bSorted at h
  split at h
  · obtain ⟨v, rfl, r1⟩ := one_rp r
    obtain ⟨a, us, xs, rfl, ha, rr, bs, rfl, h⟩ := withL_ok A r1 h
    rw [rr.ints] at ha
    exact ⟨a, bs, rfl, SqL.of ha, fun ns p h1 h2 hp => newL_ok A (Rps.of_ints ns) (h ns h1 h2) q p hp⟩
  · exact h.elim
end
section
variable {X : Cx} {W : WX} {e : Expr} {t : AA} {p pos : Pos}
theorem a_all (hc : X.calm = true) (hg : Gl X "all") (hm : X.mg "all" = none) (ha : PA X [e] (cA X.kx W t)) (he : starEach [e] X.env = (false, eval e X.env) :: starEach [] X.env := by rfl) : PE X (.Call (.Name "all" p) [e] [] pos) (cE X.kx W (aCB bAll t)) := a_callB (cr_all hc) bAll_ok hg hm (by decide +kernel) ha (he := he)
theorem a_any (hc : X.calm = true) (hg : Gl X "any") (hm : X.mg "any" = none) (ha : PA X [e] (cA X.kx W t)) (he : starEach [e] X.env = (false, eval e X.env) :: starEach [] X.env := by rfl) : PE X (.Call (.Name "any" p) [e] [] pos) (cE X.kx W (aCB bAny t)) := a_callB (cr_any hc) bAny_ok hg hm (by decide +kernel) ha (he := he)
theorem a_sum (hc : X.calm = true) (hg : Gl X "sum") (hm : X.mg "sum" = none) (ha : PA X [e] (cA X.kx W t)) (he : starEach [e] X.env = (false, eval e X.env) :: starEach [] X.env := by rfl) : PE X (.Call (.Name "sum" p) [e] [] pos) (cE X.kx W (aCB bSum t)) := a_callB (cr_sum hc) bSum_ok hg hm (by decide +kernel) ha (he := he)
theorem a_maxL (hc : X.calm = true) (hg : Gl X "max") (hm : X.mg "max" = none) (ha : PA X [e] (cA X.kx W t)) (he : starEach [e] X.env = (false, eval e X.env) :: starEach [] X.env := by rfl) : PE X (.Call (.Name "max" p) [e] [] pos) (cE X.kx W (aCB bMaxL t)) := a_callB (cr_max hc) bMaxL_ok hg hm (by decide +kernel) ha (he := he)
theorem a_minL (hc : X.calm = true) (hg : Gl X "min") (hm : X.mg "min" = none) (ha : PA X [e] (cA X.kx W t)) (he : starEach [e] X.env = (false, eval e X.env) :: starEach [] X.env := by rfl) : PE X (.Call (.Name "min" p) [e] [] pos) (cE X.kx W (aCB bMinL t)) := a_callB (cr_min hc) bMinL_ok hg hm (by decide +kernel) ha (he := he)
theorem a_sorted (hg : Gl X "sorted") (hm : X.mg "sorted" = none) (ha : PA X [e] (cA X.kx W t)) (he : starEach [e] X.env = (false, eval e X.env) :: starEach [] X.env := by rfl) : PE X (.Call (.Name "sorted" p) [e] [] pos) (cE X.kx W (aCB bSorted t)) := a_callB cr_sortedI bSorted_ok hg hm (by decide +kernel) ha (he := he)
end

/-! ### while -/
def aWhile (c : AT) (tb : AS) : AS := fun AD ρ L => ∃ Wh : Nat → Sl → Led → Prop, (∃ m, Wh m ρ L) ∧ ∀ m ρ' L', Wh m ρ' L' → c ρ' L' (fun b L1 => (b = true → tb { AD with nx := fun ρ2 L2 => ∃ m', m' < m ∧ Wh m' ρ2 L2, ct := fun ρ2 L2 => ∃ m', m' < m ∧ Wh m' ρ2 L2, bk := AD.nx } ρ' L1) ∧ (b = false → AD.nx ρ' L1)) AD.px

/-! ### try -/
structure Caught (K : PySem.W.Frag) (c : Addr) (cc : Value) (b : Bool) : Prop where
  ex : ExcC K c
  is : PySem.W.exmOne K (.ref c) cc = some b
def aTryO (K : PySem.W.Frag) (cc : Value) (suite : Addr → AS) (tb : AS) : AS := fun AD ρ L => tb { AD with px := fun c ρ' L' => ∃ b, Caught K c cc b ∧ (b = true → suite c { AD with px := noPX } ρ' L') ∧ (b = false → AD.px c ρ' L') } ρ L
/-- .. as the name in slot i -/
def aTryA (K : PySem.W.Frag) (cc : Value) (i : Nat) (suite : Addr → Addr → AS) (tb : AS) : AS := fun AD ρ L => tb { AD with px := fun c ρ' L' => ∃ b, Caught K c cc b ∧ (b = true → ∀ a, suite c a { AD with nx := fun ρ2 L2 => AD.nx (ρ2.set i none) L2, bk := fun ρ2 L2 => AD.bk (ρ2.set i none) L2, ct := fun ρ2 L2 => AD.ct (ρ2.set i none) L2, px := noPX } (ρ'.set i (some (.ref a))) L') ∧ (b = false → AD.px c ρ' L') } ρ L
/-- the suite's text, for an exception of a known class -/
def suiteT (k : Kx) (t : Addr → AS) (cls : Value) (d : Option Addr) : TS := fun D σ H => ∃ c, cls = .ref c ∧ d = none ∧ ExcC k.K c ∧ cS k W0 (t c) D σ H
theorem suite_of {X : Cx} {sts : List Stmt} {k : Kx} {t : Addr → AS} {cls : Value} {d : Option Addr} (h : ∀ c, cls = .ref c → d = none → ExcC k.K c → PSs X sts (cS k W0 (t c))) : PSs X sts (suiteT k t cls d) :=
  ⟨fun pins s σ H D I ⟨c, e1, e2, e3, q⟩ => (h c e1 e2 e3).run pins s σ H D I q⟩
theorem S2.unslot {k : Kx} {I F : Hp} {P : Sl → Led → Prop} {Q : L2.St → Hp → Prop} (h : S2 k I F P Q) (i : Nat) : S2 k I F (fun ρ L => P (ρ.set i none) L) (fun σ H => Q (σ.set i none) H) :=
  fun ρ' L' σ' I' H' p A e r => h _ _ _ _ _ p A e (r.setNone i)
section
variable {X : Cx} {W : WX} {x n : Str} {cc : Value} {i : Nat} {body suite : List Stmt} {b₀ : Stmt} {np pos pos' : Pos} {tb : AS}
theorem s_tryO {ts : Addr → AS} (hs : X.stack = X.env :: X.outer) (hf : X.env.frame = some X.env.locals) (hc : Names X x cc) (tk : Takes X W)
    (hb : ∀ (W' : WX) (pn : List (Addr × Obj)) (xe : Value → Shared → Prop), Takes (X.tr pn xe) W' → PassesOwn (model X.prog X.w) X.A X.env xe → PSs (X.tr pn xe) body (cS X.kx W' tb))
    (hsu : ∀ (a : Addr) (oe : Obj) (c : Addr) (pn : List (Addr × Obj)), ExcC X.K c → Zc (.ref c) none oe → (∃ vs, oe.data = .fields vs) → PSs (X.suite a ((a, oe) :: pn)) (b₀ :: suite) (cS X.kx W0 (ts c))) :
    PS X (.Try body [.ExceptHandler (some (.Name x np)) none (b₀ :: suite) pos'] [] [] pos) (cS X.kx W (aTryO X.K cc ts tb)) := by
  refine (ps_try_only (tb := fun W' => cS X.kx W' tb) (ts := fun a cls d => suiteT X.kx ts cls d) hs hf hc tk hb (fun a oe cls d pn hz hv => suite_of fun c e1 e2 e3 => by subst e1; subst e2; exact hsu a oe c pn e3 hz hv)).imp ?_
  rintro D σ H ⟨I, L, F, ρ, AD, S, h, q⟩
  refine ⟨I, L, F, ρ, _, ⟨S.ab, S.rs, ?_⟩, h, q.nx, q.rt, q.bk, q.ct⟩
  rintro c ρ' σ' L' I' H' ⟨b, hc, h1, h2⟩ A e r
  exact ⟨b, hc.is, fun hb a ha => ⟨c, rfl, rfl, hc.ex, I', L', F, ρ', { AD with px := noPX }, ⟨A, r, fun _ _ _ _ _ _ z => z.elim⟩, h1 hb, (q.mono e).nx, (q.mono e).rt, (q.mono e).bk, (q.mono e).ct⟩, fun hb => S.xx _ _ _ _ _ _ (h2 hb) A e r⟩
theorem s_tryA {ts : Addr → Addr → AS} (hs : X.stack = X.env :: X.outer) (hf : X.env.frame = some X.env.locals) (hN : X.N.Nodup) (hi : X.N[i]? = some n) (hln : X.env.kindOf n = some .local) (hc : Names X x cc) (tk : Takes X W)
    (hb : ∀ (W' : WX) (pn : List (Addr × Obj)) (xe : Value → Shared → Prop), Takes (X.tr pn xe) W' → PassesOwn (model X.prog X.w) X.A X.env xe → PSs (X.tr pn xe) body (cS X.kx W' tb))
    (hsu : ∀ (a : Addr) (oe : Obj) (c : Addr) (pn : List (Addr × Obj)), ExcC X.K c → Zc (.ref c) none oe → (∃ vs, oe.data = .fields vs) → PSs (X.suite a ((a, oe) :: pn)) (b₀ :: suite) (cS X.kx W0 (ts c a))) :
    PS X (.Try body [.ExceptHandler (some (.Name x np)) (some n) (b₀ :: suite) pos'] [] [] pos) (cS X.kx W (aTryA X.K cc i ts tb)) := by
  refine (ps_try_as (tb := fun W' => cS X.kx W' tb) (ts := fun a cls d => suiteT X.kx (fun c => ts c a) cls d) hs hf hN hi hln hc tk hb (fun a oe cls d pn hz hv => suite_of fun c e1 e2 e3 => by subst e1; subst e2; exact hsu a oe c pn e3 hz hv)).imp ?_
  rintro D σ H ⟨I, L, F, ρ, AD, S, h, q⟩
  refine ⟨I, L, F, ρ, _, ⟨S.ab, S.rs, ?_⟩, h, q.nx, q.rt, q.bk, q.ct⟩
  rintro c ρ' σ' L' I' H' ⟨b, hc, h1, h2⟩ A e r
  refine ⟨b, hc.is, fun hb a ha => ⟨c, rfl, rfl, hc.ex, I', L', F, _, { AD with nx := fun ρ2 L2 => AD.nx (ρ2.set i none) L2, bk := fun ρ2 L2 => AD.bk (ρ2.set i none) L2, ct := fun ρ2 L2 => AD.ct (ρ2.set i none) L2, px := noPX }, ⟨A, r.set (.ref a) i, fun _ _ _ _ _ _ z => z.elim⟩, h1 hb a, (q.mono e).nx.unslot i, (q.mono e).rt, (q.mono e).bk.unslot i, (q.mono e).ct.unslot i⟩, fun hb => S.xx _ _ _ _ _ _ (h2 hb) A e r⟩
/-- isinstance(e, C), e the exception held at a -/
def bIsE (K : PySem.W.Frag) (D a : Addr) : AC := fun ds L P => match ds with
  | [.ref b, c] => b = a ∧ withCl c fun u => ∃ r, PySem.W.kitOne K (.ref D) u = some r ∧ P (.bl r) L
  | _ => False
theorem bIsE_ok {k : Kx} {D a : Addr} : ACl k (rIsE k.K D a) (bIsE k.K D a) := by
  intro I F H L ds vs P Q A r h q
  unfold bIsE at h
  split at h
  · obtain ⟨v, w, rfl, r1, r2⟩ := two_rp r
    obtain ⟨rfl, h⟩ := h
    cases r1
    cases r2 <;> try exact h.elim
    case ty m =>
      obtain ⟨b, hb, h⟩ := h
      exact ⟨_, _, b, rfl, fun u z => z, hb, here A (.bl _) h q⟩
    case ref C =>
      obtain ⟨b, hb, h⟩ := h
      exact ⟨_, _, b, rfl, fun u z => z, hb, here A (.bl _) h q⟩
  · exact h.elim
theorem a_isE {a D : Addr} {oe : Obj} {pn : List (Addr × Obj)} {e e2 : Expr} {t : AA} {p : Pos} (C : ExcC X.K D) (hz : Zc (.ref D) none oe) (hv : ∃ vs, oe.data = .fields vs) (hg : Gl (X.suite a ((a, oe) :: pn)) "isinstance") (hm : X.mg "isinstance" = none) (ha : PA (X.suite a ((a, oe) :: pn)) [e, e2] (cA X.kx W t))
    (he : starEach [e, e2] X.env = (false, eval e X.env) :: starEach [e2] X.env := by rfl) (hpl : (backTo pos (starEach [e2] X.env)).any (·.1) = false := by rfl) : PE (X.suite a ((a, oe) :: pn)) (.Call (.Name "isinstance" p) [e, e2] [] pos) (cE X.kx W (aCB (bIsE X.K D a) t)) :=
  a_callB (X := X.suite a ((a, oe) :: pn)) (call_isE C hz hv) bIsE_ok hg hm (by decide +kernel) ha (he := he) (hpl := hpl)
theorem s_while {c : Expr} {tc : AT} (hp : PassesOwn (model X.prog X.w) X.A X.env X.xe) (hc : PT X c (cT X.kx W tc)) (hb : PSs X body (cS X.kx W tb)) : PS X (.While c body [] pos) (cS X.kx W (aWhile tc tb)) :=
  (ps_while hp hc hb).imp fun D σ H ⟨I, L, F, ρ, AD, S, ⟨Wh, ⟨m0, w0⟩, turn⟩, q⟩ => by
    refine ⟨fun m σ' H' => ∃ I' L' ρ', Ab X.kx I' L' F H' ∧ Ex I I' ∧ RpS X.K I' ρ' σ' ∧ Wh m ρ' L', ⟨m0, I, L, ρ, S.ab, Ex.refl _, S.rs, w0⟩, ?_⟩
    rintro m σ' H' ⟨I', L', ρ', A', e', r', w'⟩
    refine ⟨I', L', F, ρ', _, AD.px, ⟨A', r', S.xx.mono e'⟩, turn m ρ' L' w', fun b L1 I1 H1 h1 A1 e1 => ?_⟩
    have e2 := e'.trans e1
    cases b with
    | false => exact iteF (q.nx _ _ _ _ _ (h1.2 rfl) A1 e2 (r'.mono e1))
    | true =>
      refine iteT ⟨fun σ2 H2 => ∃ m', m' < m ∧ ∃ I' L' ρ', Ab X.kx I' L' F H2 ∧ Ex I I' ∧ RpS X.K I' ρ' σ2 ∧ Wh m' ρ' L', fun σ2 H2 ⟨m', l, z⟩ => ⟨m', l, z⟩, I1, L1, F, ρ', { AD with nx := fun ρ2 L2 => ∃ m', m' < m ∧ Wh m' ρ2 L2, ct := fun ρ2 L2 => ∃ m', m' < m ∧ Wh m' ρ2 L2, bk := AD.nx }, ⟨A1, r'.mono e1, S.xx.mono e2⟩, h1.1 rfl, ?_⟩
      exact ⟨fun ρ3 L3 σ3 I3 H3 ⟨m', l, z⟩ A3 e3 r3 => ⟨m', l, I3, L3, ρ3, A3, e2.trans e3, r3, z⟩, q.rt.mono e2, q.nx.mono e2, fun ρ3 L3 σ3 I3 H3 ⟨m', l, z⟩ A3 e3 r3 => ⟨m', l, I3, L3, ρ3, A3, e2.trans e3, r3, z⟩⟩
end
end AL
namespace AL
open PySem PySem.Spec PyProof.Rows L2

theorem nft {p : Prop} (h : false = true) : p := by cases h
theorem ntf {p : Prop} (h : true = false) : p := by cases h
def aNotB (te : AE) : AE := fun ρ L P px => te ρ L (fun d L1 => match d with
  | .bl b => P (.bl (!b)) L1
  | _ => False) px
section
variable {X : Cx} {W : WX} {a b e : Expr} {ta tb te : AE} {pos p2 : Pos}
theorem a_notB (ha : PE X a (cE X.kx W ta)) : PE X (.UnaryOp .Not a pos) (cE X.kx W (aNotB ta)) :=
  (pe_not ha).imp fun σ H Q ⟨I, L, F, ρ, P, px, S, h, q⟩ => ⟨I, L, F, ρ, _, px, S, h, fun d L1 v I1 H1 h1 A1 e1 r1 => by
    cases d <;> first | exact h1.elim | skip
    cases r1
    exact ⟨_, rfl, here A1 (.bl _) h1 (q.mono e1)⟩⟩
theorem g_name (i : Nat) {x : Str} (hN : X.N.Nodup) (hi : X.N[i]? = some x := by rfl) (hx : Loc X.env.scope x := by first | exact Or.inl rfl | exact Or.inr rfl)
    (hf : X.fn x = true ∨ X.env.scope.names.lookup x = some .local := by first | exact .inl rfl | exact .inr rfl | assumption) : PG X (.Name x pos) (L2.gName i) := pg_name hN hi hx hf
/-- (x, y, ..) = e -/
def aAsgT (te : AE) (js : List Nat) : AS := fun AD ρ L => te ρ L (fun d L1 => gT js d ρ L1 fun ρ2 L2 => AD.nx ρ2 L2) AD.px
theorem s_asgT {tg : Expr} {gc : TG} {js : List Nat} (he : PE X e (cE X.kx W te)) (hg : PG X tg gc) (gk : GOk X gc (gT js) js) (hs : swapsWithSole [tg] e pos.line X.env = pure false := by rfl) (hw : swappedStores [tg] e X.env = pure none := by rfl)
    (h1 : (assignEach [tg] X.env).map (·.2) = [assign tg X.env] := by rfl) : PS X (.Assign [tg] e pos) (cS X.kx W (aAsgT te js)) :=
  (ps_asg he hg hs hw h1).imp fun D σ H ⟨I, L, F, ρ, AD, S, h, q⟩ => ⟨I, L, F, ρ, _, AD.px, S, h, fun d L1 v I1 H1 h1 A1 e1 r1 => gk.go (k := X.kx) rfl A1 (S.rs.mono e1) r1 h1 fun ρ' σ' us h2 r2 _ => by
    unfold gT at h1
    cases d <;> first | exact h1.elim | skip
    exact q.nx _ _ _ _ _ h2 A1 e1 r2⟩

end
/-! ### in, of flat items -/
def flV : DV → V
  | .non => .non
  | .bl b => .bl b
  | .int i => .int i
  | .str x => .str x
  | _ => .ref 0
def flatD (d : DV) : Bool := match d with
  | .non => true
  | .bl _ => true
  | .int _ => true
  | .str _ => true
  | _ => false
def inD (x : DV) (ds : List DV) : Bool := inV (flV x) (ds.map flV)
theorem flat_rp {K : PySem.W.Frag} {I : Hp} {d : DV} {v : V} (r : Rp K I d v) (h : flatD d = true) : v = flV d ∧ flatV v = true := by
  cases r <;> first | exact ⟨rfl, rfl⟩ | cases h
theorem flats_rp {K : PySem.W.Frag} {I : Hp} : ∀ {ds : List DV} {vs : List V}, Rps K I ds vs → ds.all flatD = true → vs = ds.map flV ∧ vs.all flatV = true
  | _, _, .nil, _ => ⟨rfl, rfl⟩
  | _, _, .cons h r, q => by
    rw [List.all_cons, Bool.and_eq_true] at q
    obtain ⟨e1, f1⟩ := flat_rp h q.1
    obtain ⟨e2, f2⟩ := flats_rp r q.2
    refine ⟨by rw [e1, e2]; rfl, by rw [List.all_cons, f1, f2]; rfl⟩
theorem flat_ints (ns : List Int) : (ns.map DV.int).all flatD = true := by rw [List.all_map]; exact List.all_eq_true.mpr fun _ _ => rfl
theorem inD_int (i : Int) : ∀ ns : List Int, inD (.int i) (ns.map DV.int) = decide (i ∈ ns)
  | [] => rfl
  | n :: ns => by
    have ih := inD_int i ns
    unfold inD inV at ih ⊢
    rw [List.map_cons, List.map_cons, List.any_cons, ih]
    show ((n == i) || decide (i ∈ ns)) = _
    by_cases h : n = i
    · subst h; simp
    · have : ¬ i = n := fun z => h z.symm
      simp [h, this]
def oIn (neg : Bool) : AR2 := fun x y L P => flatD x = true ∧ withSq L y fun ds => ds.all flatD = true ∧ P (.bl (neg ^^ inD x ds)) L
theorem oIn_ok {k : Kx} {neg : Bool} : AOp k (rIn k.K neg) (oIn neg) := by
  intro I F H L x y xv yv P Q A rx ry h q
  obtain ⟨fx, h⟩ := h
  obtain ⟨a, vs, ds, rfl, hs, r, fd, h⟩ := withSq_ok A ry h
  obtain ⟨rfl, e2⟩ := flat_rp rx fx
  obtain ⟨e3, e4⟩ := flats_rp r fd
  refine ⟨a, vs, rfl, hs, e2, e4, here A (.bl _) ?_ q⟩
  rw [e3]
  cases neg with
  | true => rw [if_pos rfl]; rw [Bool.true_xor] at h; exact h
  | false => rw [if_neg Bool.false_ne_true]; rw [Bool.false_xor] at h; exact h
section
variable {X : Cx} {W : WX} {a b e : Expr} {ta tb te : AE} {pos p2 : Pos}
theorem a_in (ha : PE X a (cE X.kx W ta)) (hb : PE X b (cE X.kx W tb)) (hm : behindInMarks .In b = false := by rfl) : PE X (.Compare a [.In] [b] pos) (cE X.kx W (aBin (oIn false) ta tb)) := a_cmp op_in_seq oIn_ok ha hb hm
theorem t_in (ha : PE X a (cE X.kx W ta)) (hb : PE X b (cE X.kx W tb)) (hm : behindInMarks .In b = false := by rfl) : PT X (.Compare a [.In] [b] pos) (cT X.kx W (aTest (aBin (oIn false) ta tb))) := t_cmp op_in_seq oIn_ok ha hb hm
theorem a_nin (ha : PE X a (cE X.kx W ta)) (hb : PE X b (cE X.kx W tb)) (hm : behindInMarks .NotIn b = false := by rfl) : PE X (.Compare a [.NotIn] [b] pos) (cE X.kx W (aBin (oIn true) ta tb)) := a_cmp op_notIn_seq oIn_ok ha hb hm
theorem t_nin (ha : PE X a (cE X.kx W ta)) (hb : PE X b (cE X.kx W tb)) (hm : behindInMarks .NotIn b = false := by rfl) : PT X (.Compare a [.NotIn] [b] pos) (cT X.kx W (aTest (aBin (oIn true) ta tb))) := t_cmp op_notIn_seq oIn_ok ha hb hm
end
theorem okDF {P : Program} {w : World} {K : PySem.W.Frag} {mg : Str → Option Value} {base : Heap} {x qual : Str} {params : Arguments} {body : List Stmt} {scope : Scope} {dvs : List V} {kws : List (Str × V)} {f : Addr} {fd : FuncData} {N ps : List Str} {k : Nat} {sp : Sp} (F : FunD K x qual params body scope dvs kws f fd) (S : FnScope N ps scope) (len : ∀ vs H Q E, sp vs H Q E → vs.length = ps.length)
    (h : ∀ (cdv : Value) (A : Around) (outer : List Env) (s : Shared) (H : Hp) (vs : List V) (Q : VK) (E : XK), Room k (A.deeper (envOfC qual scope s.heap.objs.size f cdv)) → sp vs H Q E → ∃ t, PSs (cxOf (L2.CX P w) P w K mg base N qual scope f cdv A outer s H E) body t ∧ t { nx := fun _ H' => Q .non H', rt := Q } (start N vs) H) :
    FnOk P w K mg base (L2.CX P w) (k + 1) f fd ps sp := by
  obtain ⟨_, _, _, _, _, _, _, cdv, _, _, rfl, l1, l2, _⟩ := F.ex
  exact fn_ofF l1 l2 S len (h cdv)
/-- a def with defaults -/
theorem fun_okD {P : Program} {w : World} {K : PySem.W.Frag} {mg : Str → Option Value} {base : Heap} {x qual : Str} {st : Stmt} {f : Addr} {fd : FuncData} {N ps : List Str} {k : Nat} {asp : ASp} {tb : AS} {dvs : List V} {kws : List (Str × V)} (F : FunD K x qual (defArgs st) (defBody st) (defScope st) dvs kws f fd) (S : FnScope N ps (defScope st))
    (len : ∀ ds L P R, asp ds L P R → ds.length = ps.length)
    (der : ∀ (cdv : Value) (A : Around) (outer : List Env) (s : Shared) (H : Hp) (E : XK), Room k (A.deeper (envOfC qual (defScope st) s.heap.objs.size f cdv)) →
      PSs (cxOf (L2.CX P w) P w K mg base N qual (defScope st) f cdv A outer s H E) (defBody st) (cS ⟨P, w, K⟩ (fun cls d _ H => E cls d H) tb))
    (read : ∀ ds L P R, asp ds L P R → tb ⟨fun _ L => P .non L, P, fun _ _ => False, fun _ _ => False, fun c _ L => R c L⟩ (startA N.length ds) L) : FnOk P w K mg base (L2.CX P w) (k + 1) f fd ps (liftSp ⟨P, w, K⟩ asp) := by
  refine okDF F S (fun vs H Q E ⟨ds, I, L, F, P, R, A, r, h, _, _⟩ => by rw [← r.length]; exact len ds L P R h) (fun cdv A outer s H vs Q E hr h => ?_)
  obtain ⟨ds, I, L, F0, P0, R, Ab0, r, h, q, qx⟩ := h
  refine ⟨_, der cdv A outer s H E hr, ⟨I, L, F0, _, _, ⟨Ab0, startA_rp r, fun c ρ' σ' L' I' H' h' A' e' _ => qx c L' I' H' h' A' e'⟩, read ds L P0 R h, ⟨fun ρ' L' σ' I' H' h' A' e' _ => q _ _ _ _ _ h' A' e' .non, q, fun _ _ _ _ _ z => z.elim, fun _ _ _ _ _ z => z.elim⟩⟩⟩
/-- the program's own classes, by name -/
structure Gx where
  k : Kx
  PlayError : Addr
  BadValue : Addr
  BadText : Addr
  Unknown : Addr
  NoMove : Addr
  Dyadic : Addr
  Yard : Addr
  Order : Addr
  Forms : Addr
  Sums : Addr
  Values : Addr
  Wall : Addr
  Heat : Addr
  Heaps : Addr
  Hedge : Addr
  Floor : Addr
  Frogs : Addr
  Cakes : Addr
  Table : Addr
  Reader : Addr
  Meeting : Addr
  Plans : Addr
  Match : Addr
  kSIGNS : Addr
  kSTEPF : Addr
  kSTEPD : Addr
  kCUTS : Addr
/-- the reading of a def: what its promise lets begin, its body does -/
def Reads (n : Nat) (asp : ASp) (tb : AS) : Prop := ∀ ds L P R, asp ds L P R → tb ⟨fun _ L => P .non L, P, fun _ _ => False, fun _ _ => False, fun c _ L => R c L⟩ (startA n ds) L
end AL
namespace AL
open PySem PySem.Spec PyProof.Rows L2
/-! ### operators of an own class -/
section
variable {prog : Program} {w : World} {A : Around} {E : Value → Shared → Prop} {s : Shared} {K : PySem.W.Frag} {x y C f : Addr} {ox oy : Obj} {od oe : Option Obj}
open PySem.W in
theorem bin_same {op : Operator} {Q : Value → Shared → Prop} (X : K.In s.heap) (I : PySem.W.InstAt s.heap x ox C od) (J : PySem.W.InstAt s.heap y oy C oe) (hc : PySem.W.selfFirst K C = true)
    (hs : PySem.W.findIn K (.ref C) (PySem.dunder op.info.2) = some (some (.ref f))) (hf : PySem.W.isFn K (.ref f) = true)
    (h : wpAny (model prog w) A (call (.ref f) [.ref x, .ref y]) (PySem.W.CmpBack Q) E s) : wpAny (model prog w) A (binaryOp op (.ref x) (.ref y)) Q E s := by
  obtain ⟨cd, rest, hcd, hm⟩ := PySem.W.ksp_first hc
  rcases hi : op.info with ⟨sym, nm'⟩
  rw [hi] at hs
  dsimp only at hs
  have one := PySem.W.ksp_try X I hs hf h
  obtain ⟨hh, g, d, tt, os⟩ := s
  have L1 : PySem.W.Looks (model prog w) hh (typeOf (.ref x)) (.ref C) := I.type
  have L2 : PySem.W.Looks (model prog w) hh (typeOf (.ref y)) (.ref C) := J.type
  have L3 : PySem.W.Looks (model prog w) hh (fillsNumberSlot (.ref C) nm') true := PySem.W.fills_K X hcd hm hs
  simp only [binaryOp, hi]
  refine wpAny_holding (wpAny_bind ?_)
  unfold binaryOp1
  refine wpAny_bind (L1.at (wpAny_bind (L2.at (wpAny_bind (L3.at ?_)))))
  have hb : (Value.ref C == Value.ref C) = true := by simp
  simp only [hb, if_true]
  ksp_lk
  refine wpAny_mono one (fun r s' hr' => ?_) fun _ _ e => e
  obtain ⟨v, rfl, hq⟩ := hr'
  ksp_lk
  exact hq
open PySem.W in
theorem neg_own {Q : Value → Shared → Prop} (X : K.In s.heap) (I : PySem.W.InstAt s.heap x ox C od) (hs : PySem.W.findIn K (.ref C) "__neg__" = some (some (.ref f))) (hf : PySem.W.isFn K (.ref f) = true)
    (h : wpAny (model prog w) A (call (.ref f) [.ref x]) Q E s) : wpAny (model prog w) A (unaryOp .USub (.ref x)) Q E s := by
  unfold unaryOp
  refine wpAny_holding ?_
  exact wpAny_bind (special_fn X I hs (beq_iff_eq.mp hf) (wpAny_mono h (fun _ _ z => wpAny_pure z) fun _ _ z => z))
end
/-- a value that stands for data is no NotImplemented -/
theorem back_of {v : V} {u : Value} {Q : Value → Shared → Prop} {s : Shared} (r : RelV v u) (h : Q u s) : PySem.W.CmpBack Q u s := by
  unfold PySem.W.CmpBack
  split
  · cases v <;> first | (cases r; done) | (obtain ⟨t, hq⟩ := r; cases hq; done)
  · exact h
section
variable {X : Cx} {W : WX} {a b : Expr} {ta tb : AE} {pos : Pos} {k : Nat} {f C : Addr} {fd : FuncData} {ps : List Str} {asp : ASp} {op : Operator}
/-- a op b, both of the class C -/
def aOpM (C : Addr) (asp : ASp) (ta tb : AE) : AE := fun ρ L P px => ta ρ L (fun x L1 => tb ρ L1 (fun y L2 => isC L2 x C (isC L2 y C (asp [x, y] L2 P fun c L' => px c ρ L'))) px) px
theorem a_opM (ha : PE X a (cE X.kx W ta)) (hb : PE X b (cE X.kx W tb)) (hc : PySem.W.selfFirst X.K C = true) (hm : Meth X.K C (PySem.dunder op.info.2) f) (F : FnOk X.prog X.w X.K X.mg X.base (L2.CX X.prog X.w) k f fd ps (liftSp X.kx asp)) (hr : Room k X.A) (hbb : Binds X.K fd ps []) (tk : Takes X W) :
    PE X (.BinOp a op b pos) (cE X.kx W (aOpM C asp ta tb)) := by
  refine ⟨fun pins s σ H Q I h => ?_⟩
  obtain ⟨I0, L, F0, ρ, P, px, S, h, q⟩ := h
  refine wpAny_BinOp (binT ha hb (R := fun x y H2 => ∃ I2 L2 dx dy, Ab X.kx I2 L2 F0 H2 ∧ Ex I0 I2 ∧ Rp X.K I2 dx x ∧ Rp X.K I2 dy y ∧ isC L2 dx C (isC L2 dy C (asp [dx, dy] L2 P fun c L' => px c ρ L'))) I
    ⟨I0, L, F0, ρ, _, px, S, h, fun dx L1 xv I1 H1 h1 A1 e1 r1 => ⟨I1, L1, F0, ρ, _, px, S.go A1 e1, h1, fun dy L2 yv I2 H2 h2 A2 e2 r2 => ⟨I2, L2, dx, dy, A2, e1.trans e2, r1.mono e2, r2, h2⟩⟩⟩
    fun v u s2 x y H2 J rx ry ⟨I2, L2, dx, dy, A2, e2, rdx, rdy, h2⟩ => ?_)
  obtain ⟨xa, xd, xf, rfl, hx, _, h2⟩ := isC_ok A2 rdx h2
  obtain ⟨ya, yd, yf, rfl, hy, _, h2⟩ := isC_ok A2 rdy h2
  cases rx
  cases ry
  obtain ⟨mx, Ox, _⟩ := ins_get J.hok hx
  obtain ⟨my, Oy, _⟩ := ins_get J.hok hy
  obtain ⟨ox, Jx, _⟩ := Ox.look
  obtain ⟨oy, Jy, _⟩ := Oy.look
  refine bin_same J.kIn Jx Jy hc hm.at_ hm.fn ?_
  exact wpAny_mono (goes (us := [.ref xa, .ref ya]) (vs := [.ref xa, .ref ya]) (dvs := []) F hr hbb .nil (passAt tk σ) J (.cons rfl (.cons rfl .nil)) (lift_at (S.go A2 e2) (.cons rdx (.cons rdy .nil)) h2 (q.mono e2)))
    (fun r s' z => let ⟨z1, z2, z3, z4, z5⟩ := z; back_of z4 ⟨z1, z2, z3, z4, z5⟩) fun _ _ z => z
/-- -a of the class C -/
def aUnM (C : Addr) (asp : ASp) (ta : AE) : AE := fun ρ L P px => ta ρ L (fun x L1 => isC L1 x C (asp [x] L1 P fun c L' => px c ρ L')) px
theorem a_unM (ha : PE X a (cE X.kx W ta)) (hm : Meth X.K C "__neg__" f) (F : FnOk X.prog X.w X.K X.mg X.base (L2.CX X.prog X.w) k f fd ps (liftSp X.kx asp)) (hr : Room k X.A) (hbb : Binds X.K fd ps []) (tk : Takes X W) :
    PE X (.UnaryOp .USub a pos) (cE X.kx W (aUnM C asp ta)) := by
  refine ⟨fun pins s σ H Q I h => ?_⟩
  obtain ⟨I0, L, F0, ρ, P, px, S, h, q⟩ := h
  refine UnaryOp_ (thn (ha.run pins s σ H (fun x H1 => ∃ I1 L1 dx, Ab X.kx I1 L1 F0 H1 ∧ Ex I0 I1 ∧ Rp X.K I1 dx x ∧ isC L1 dx C (asp [dx] L1 P fun c L' => px c ρ L')) I ⟨I0, L, F0, ρ, _, px, S, h, fun dx L1 xv I1 H1 h1 A1 e1 r1 => ⟨I1, L1, dx, A1, e1, r1, h1⟩⟩) fun v s1 ⟨x, H1, J, rx, I1, L1, dx, A1, e1, r1, h1⟩ => ?_)
  obtain ⟨xa, xd, xf, rfl, hx, _, h2⟩ := isC_ok A1 r1 h1
  cases rx
  obtain ⟨mx, Ox, _⟩ := ins_get J.hok hx
  obtain ⟨ox, Jx, _⟩ := Ox.look
  refine neg_own J.kIn Jx hm.at_ hm.fn ?_
  exact goes (us := [.ref xa]) (vs := [.ref xa]) (dvs := []) F hr hbb .nil (passAt tk σ) J (.cons rfl .nil) (lift_at (S.go A1 e1) (.cons r1 .nil) h2 (q.mono e1))
end
/-! ### an instance made by a call with keywords -/
section
variable {X : Cx} {W : WX} {e : Expr} {es : List Expr} {kws : List Keyword} {te : AE} {t tk : AA} {pos p kpos : Pos} {nm : Option Str} {k n : Nat} {f C : Addr} {fd : FuncData} {ps ks : List Str} {asp mk : ASp} {x : Str} {g : List Value → List Value → List Value} {gV : List V → List V → List V}
theorem k_nil : PK X [] (cA X.kx W aNil) := ⟨fun pos pins s σ H Q I h => by
  obtain ⟨I0, L, F, ρ, P, px, S, h, q⟩ := h
  exact pk_nil.run pos pins s σ H Q I (q _ _ _ _ _ h S.ab (Ex.refl _) .nil)⟩
theorem k_cons (ha : PE X e (cE X.kx W te)) (hr : PK X kws (cA X.kx W t)) : PK X (⟨nm, e, kpos⟩ :: kws) (cA X.kx W (aCons te t)) := ⟨fun pos pins s σ H Q I h => by
  obtain ⟨I0, L, F, ρ, P, px, S, h, q⟩ := h
  exact (pk_cons ha hr).run pos pins s σ H Q I ⟨I0, L, F, ρ, _, px, S, h, fun x L1 xv I1 H1 h1 A1 e1 r1 => ⟨I1, L1, F, ρ, _, px, S.go A1 e1, h1, fun xs L2 vs I2 H2 h2 A2 e2 r2 => q _ _ _ _ _ h2 A2 (e1.trans e2) (.cons (r1.mono e2) r2)⟩⟩⟩
def aMakeK (n m : Nat) (ord : List DV → List DV → List DV) (mk : ASp) (t tk : AA) : AE := fun ρ L P px => t ρ L (fun ds L1 => tk ρ L1 (fun zs L2 => ds.length = n ∧ zs.length = m ∧ mk (ord ds zs) L2 P fun c L' => px c ρ L') px) px
/-- how data and values are put in order alike -/
def OrdOk (K : PySem.W.Frag) (ord : List DV → List DV → List DV) (gV : List V → List V → List V) : Prop := ∀ (I : Hp) (ds zs : List DV) (vs ws : List V) (x : V), Rps K I ds vs → Rps K I zs ws → ∃ rest, gV (x :: vs) ws = x :: rest ∧ Rps K I (ord ds zs) rest
theorem run_mkN {pins : List (Addr × Obj)} {σ : L2.St} {H : Hp} {s : Shared} {Q : VK} {us ws : List Value} {vs zs : List V} {sp : Sp} {E : XK} (M : Mk X.K C f) (F : FnOk X.prog X.w X.K X.mg X.base (L2.CX X.prog X.w) k f fd ps sp) (hr : Room (k + 1) X.A) (hb : KBn X.K fd ps (n + 1) ks g gV)
    (hx : PassesAt (L2.CX X.prog X.w) X σ E) (I : Inv X pins σ H s) (r : Vals vs us) (rz : Vals zs ws) (l1 : vs.length = n) (l2 : zs.length = ks.length)
    (h : ∀ x dx, H x = none → H dx = none → dx ≠ x → sp (gV (.ref x :: vs) zs) (upd (upd H dx (.own x)) x (.ins C dx [])) (fun v H2 => v = .non ∧ Q (.ref x) H2) E) : wpAny (model X.prog X.w) X.A (call (.ref C) us (ks.zip ws)) (EP X pins σ Q) X.xe s := by
  have hq := h (s.heap.objs.size + 1) s.heap.objs.size (I.hok.fresh (Nat.le_succ _)) (I.hok.fresh (Nat.le_refl _)) (Nat.ne_of_lt (Nat.lt_succ_self _))
  have J := Inv.made (C := C) I
  have r1 : Vals (V.ref (s.heap.objs.size + 1) :: vs) (Value.ref (s.heap.objs.size + 1) :: us) := .cons rfl r
  have r2 := hb.rel r1 rz
  have e1 : (Value.ref (s.heap.objs.size + 1) :: us).length = n + 1 := r1.length.symm.trans (congrArg Nat.succ l1)
  have e2 : ws.length = ks.length := rz.length.symm.trans l2
  refine wpAny_call (make_map (f := f) I.kIn M.makes M.init (beq_iff_eq.mp M.fn) (codeAny_mono (F.run _ X.stack _ _ ⟨Value.ref (s.heap.objs.size + 1) :: us, ks.zip ws⟩ (g (Value.ref (s.heap.objs.size + 1) :: us) ws) _ _ E (hr.make C us (ks.zip ws))
    (J.env0.make C us (ks.zip ws)) (hb.to _ (Value.ref (s.heap.objs.size + 1) :: us) ws J.kIn e1 e2) r2 hq) fun r s' z => ?_))
  cases r with
  | error e => exact hx pins _ _ e s' J z
  | ok fl =>
    cases fl with
    | ret u =>
      obtain ⟨v, H', J3, rv, ev, q3⟩ := J.after z
      subst ev
      exact ⟨rv, V.ref (s.heap.objs.size + 1), H', J3, (rfl : Value.ref _ = Value.ref _), q3⟩
    | next => exact z.elim
    | brk => exact z.elim
    | cont => exact z.elim
theorem makeN_end {pins : List (Addr × Obj)} {σ : L2.St} {H : Hp} {s : Shared} {Q : VK} {us ws : List Value} {vs zs : List V} {ds es : List DV} {I : Hp} {L : Led} {F0 : Hp} {ρ : Sl} {px : PX} {P : PD} {ord : List DV → List DV → List DV} (M : Mk X.K C f) (c : FOk X.K C []) (F : FnOk X.prog X.w X.K X.mg X.base (L2.CX X.prog X.w) k f fd ps (liftSp X.kx asp)) (hmk : MkOk X.kx C asp mk []) (hr : Room (k + 1) X.A) (hb : KBn X.K fd ps (n + 1) ks g gV) (ho : OrdOk X.K ord gV) (tk : Takes X W)
    (J : Inv X pins σ H s) (S : Stt X.kx W σ H I L F0 ρ px) (r : Vals vs us) (rz : Vals zs ws) (rd : Rps X.K I ds vs) (re : Rps X.K I es zs) (q : Q2 X.kx I F0 P Q) (l1 : ds.length = n) (l2 : es.length = ks.length) (h : mk (ord ds es) L P fun c L' => px c ρ L') :
    wpAny (model X.prog X.w) X.A (call (.ref C) us (ks.zip ws)) (EP X pins σ Q) X.xe s := by
  refine run_mkN M F hr hb (E := fun cls d H' => W cls d σ H') (passAt tk σ) J r rz (by rw [← rd.length]; exact l1) (by rw [← re.length]; exact l2) fun x dx hx hdx ne => ?_
  have S1 : Stt X.kx W σ _ I (updL L x (.ins C dx [] [])) F0 ρ px := S.go (made_ab S.ab c hx hdx ne) (Ex.refl _)
  obtain ⟨rest, e1, r1⟩ := ho I ds es vs zs (.ref x) rd re
  rw [e1]
  have hm := hmk _ L P _ h x dx (S.ab.freeL hx)
  rw [List.append_nil] at hm
  refine lift_at S1 (.cons (.ref x) r1) hm fun d L2 v I2 H2 z A2 e2 r2 => ?_
  obtain ⟨rfl, z⟩ := z
  cases r2
  exact ⟨rfl, z.ok A2 (.ref x) (q.mono e2)⟩
theorem a_makeK0 {ord : List DV → List DV → List DV} {tz : AA} {m : Nat} (M : Mk X.K C f) (c : FOk X.K C []) (F : FnOk X.prog X.w X.K X.mg X.base (L2.CX X.prog X.w) k f fd ps (liftSp X.kx asp)) (hmk : MkOk X.kx C asp mk []) (hr : Room (k + 1) X.A) (hg : Gl X x) (hm : X.mg x = some (.ref C)) (hb : KBn X.K fd ps 1 ks g gV) (ho : OrdOk X.K ord gV) (tk : Takes X W) (hkw : PK X kws (cA X.kx W tz))
    (hall : (backToKw pos (keywordEach kws X.env)).all (·.1.isSome) = true := by rfl) (hks : (backToKw pos (keywordEach kws X.env)).filterMap (·.1) = ks := by rfl) (hdb : (x == ("__debug__" : Str)) = false := by decide)
    (hpl : ((backTo pos (starEach [] X.env)).any (·.1) || (backToKw pos (keywordEach kws X.env)).any (·.1.isNone)) = false := by rfl) (hl : ks.length = m := by rfl) : PE X (.Call (.Name x p) [] kws pos) (cE X.kx W (aMakeK 0 m ord mk aNil tz)) := by
  subst hl
  refine ⟨fun pins s σ H Q I h => ?_⟩
  obtain ⟨I0, L, F0, ρ, P, px, S, h, q⟩ := h
  refine wpAny_Call_Name_kw (ld_glob I hg hm ?_ hdb)
  refine PySem.W.callWith_KW0 (h₀ := X.base) I.ok.mod.kin M.kp hall ?_ hpl
  refine thn (hkw.run pos pins s σ H (fun zs H2 => ∃ es I2 L2, Ab X.kx I2 L2 F0 H2 ∧ Ex I0 I2 ∧ Rps X.K I2 es zs ∧ es.length = ks.length ∧ mk (ord [] es) L2 P fun c L' => px c ρ L') I ⟨I0, L, F0, ρ, _, px, S, h, fun es L2 zs I2 H2 h2 A2 e2 r2 => ⟨es, I2, L2, A2, e2, r2, h2.2.1, h2.2.2⟩⟩) fun ws s2 ⟨zs, H2, J, rz, es, I2, L2, A2, e2, r2, l2, h2⟩ => ⟨J.kIn, ?_⟩
  rw [hks]
  exact makeN_end (us := []) (vs := []) M c F hmk hr hb ho tk J (S.go A2 e2) .nil rz .nil r2 (q.mono e2) rfl l2 h2
theorem a_makeK {ord : List DV → List DV → List DV} {tz : AA} {m : Nat} (M : Mk X.K C f) (c : FOk X.K C []) (F : FnOk X.prog X.w X.K X.mg X.base (L2.CX X.prog X.w) k f fd ps (liftSp X.kx asp)) (hmk : MkOk X.kx C asp mk []) (hr : Room (k + 1) X.A) (hg : Gl X x) (hm : X.mg x = some (.ref C)) (hb : KBn X.K fd ps (n + 1) ks g gV) (ho : OrdOk X.K ord gV) (tk : Takes X W) (ha : PA X (e :: es) (cA X.kx W t)) (hkw : PK X kws (cA X.kx W tz))
    (hall : (backToKw pos (keywordEach kws X.env)).all (·.1.isSome) = true := by rfl) (hks : (backToKw pos (keywordEach kws X.env)).filterMap (·.1) = ks := by rfl) (hdb : (x == ("__debug__" : Str)) = false := by decide)
    (he : starEach (e :: es) X.env = (false, eval e X.env) :: starEach es X.env := by rfl) (hpl : ((backTo pos (starEach (e :: es) X.env)).any (·.1) || (backToKw pos (keywordEach kws X.env)).any (·.1.isNone)) = false := by rfl) (hl : ks.length = m := by rfl) : PE X (.Call (.Name x p) (e :: es) kws pos) (cE X.kx W (aMakeK n m ord mk t tz)) := by
  subst hl
  refine ⟨fun pins s σ H Q I h => ?_⟩
  obtain ⟨I0, L, F0, ρ, P, px, S, h, q⟩ := h
  refine wpAny_Call_Name_kw (ld_glob I hg hm ?_ hdb)
  refine PySem.W.callWith_KW (h₀ := X.base) I.ok.mod.kin M.kp hall (thn (ha.run pos pins s σ H (fun vs H1 => ∃ ds I1 L1, Ab X.kx I1 L1 F0 H1 ∧ Ex I0 I1 ∧ Rps X.K I1 ds vs ∧ tz ρ L1 (fun zs L2 => ds.length = n ∧ zs.length = ks.length ∧ mk (ord ds zs) L2 P fun c L' => px c ρ L') px) I ⟨I0, L, F0, ρ, _, px, S, h, fun ds L1 vs I1 H1 h1 A1 e1 r1 => ⟨ds, I1, L1, A1, e1, r1, h1⟩⟩) fun us s1 ⟨vs, H1, J1, rv, ds, I1, L1, A1, e1, r1, h1⟩ => ?_) hpl he
  refine thn (hkw.run pos pins s1 σ H1 (fun zs H2 => ∃ es I2 L2, Ab X.kx I2 L2 F0 H2 ∧ Ex I0 I2 ∧ Rps X.K I2 ds vs ∧ Rps X.K I2 es zs ∧ ds.length = n ∧ es.length = ks.length ∧ mk (ord ds es) L2 P fun c L' => px c ρ L') J1 ⟨I1, L1, F0, ρ, _, px, S.go A1 e1, h1, fun es L2 zs I2 H2 h2 A2 e2 r2 => ⟨es, I2, L2, A2, e1.trans e2, r1.mono e2, r2, h2.1, h2.2.1, h2.2.2⟩⟩) fun ws s2 ⟨zs, H2, J, rz, es, I2, L2, A2, e2, rd, r2, l1, l2, h2⟩ => ⟨J.kIn, ?_⟩
  rw [hks]
  exact makeN_end M c F hmk hr hb ho tk J (S.go A2 e2) rv rz rd r2 (q.mono e2) l1 l2 h2
/-- the three ways of putting in order: keywords then the default; keywords; keywords turned -/
def kA {α : Type} (us its ws : List α) : List α := us ++ (ws ++ its)
def kS {α : Type} (us _ ws : List α) : List α := us ++ ws
def kR {α : Type} (us _ ws : List α) : List α := us ++ ws.reverse
theorem vals_rev : ∀ {vs : List V} {us : List Value}, Vals vs us → Vals vs.reverse us.reverse
  | _, _, .nil => .nil
  | _, _, .cons h r => by rw [List.reverse_cons, List.reverse_cons]; exact (vals_rev r).append (.cons h .nil)
theorem kA_vals {vs ds zs : List V} {us its ws : List Value} (a : Vals vs us) (b : Vals ds its) (c : Vals zs ws) : Vals (kA vs ds zs) (kA us its ws) := a.append (c.append b)
theorem kS_vals {vs ds zs : List V} {us its ws : List Value} (a : Vals vs us) (_ : Vals ds its) (c : Vals zs ws) : Vals (kS vs ds zs) (kS us its ws) := a.append c
theorem kR_vals {vs ds zs : List V} {us its ws : List Value} (a : Vals vs us) (_ : Vals ds its) (c : Vals zs ws) : Vals (kR vs ds zs) (kR us its ws) := a.append (vals_rev c)
theorem kA_ord {K : PySem.W.Frag} {dd : List DV} {dv : List V} (h : ∀ I, Rps K I dd dv) : OrdOk K (fun ds zs => ds ++ (zs ++ dd)) (fun vs zs => kA vs dv zs) := fun I ds zs vs ws x r1 r2 => ⟨vs ++ (ws ++ dv), rfl, r1.append (r2.append (h I))⟩
theorem kS_ord {K : PySem.W.Frag} {dv : List V} : OrdOk K (fun ds zs => ds ++ zs) (fun vs zs => kS vs dv zs) := fun I ds zs vs ws x r1 r2 => ⟨vs ++ ws, rfl, r1.append r2⟩
theorem kR_ord {K : PySem.W.Frag} {dv : List V} : OrdOk K (fun ds zs => ds ++ zs.reverse) (fun vs zs => kR vs dv zs) := fun I ds zs vs ws x r1 r2 => ⟨vs ++ ws.reverse, rfl, r1.append r2.reverse⟩
end
end AL
/-! ### enumerate of a tuple -/
namespace PySem
open Sem (wp)
open AutoSeq1 (wpAny_loadPart')
theorem meets_enumerate_newT (l : Addr) (items : Array Value) (n : Nat) (dct : Option Addr) (sl : Array (Option Value)) :
    Meets (Builtin.«enumerate.__new__» ⟨[.type "enumerate", .ref l], []⟩) (fun _ R s => s.heap.get? l = some { cls := .type "tuple", dict := dct, data := .seq items n, slots := sl } ∧
      R (.ok (.ret (.ref (s.heap.push { cls := .type "tuple_iterator", data := .fields #[.ref l, .int 0 0] }).objs.size)))
        { s with heap := (s.heap.push { cls := .type "tuple_iterator", data := .fields #[.ref l, .int 0 0] }).push { cls := .type "enumerate", data := .fields #[.none, .bool false, .ref s.heap.objs.size, rawInt 0, .none, .none] } }) :=
  .of_wp fun prog w A R s h => by
    obtain ⟨hp, g, d, tk, os⟩ := s; obtain ⟨hl, h⟩ := h
    have hsub := sub_enumerate
    have hL : Heap.IsTuple (Shared.heap ⟨hp, g, d, tk, os⟩) l items := ⟨_, hl, rfl, n, rfl⟩
    wp_walk using wpAny_loadPart' hl
    refine wpAny_stack_any fun st => wpAny_pure ?_
    split
    · rename_i c _ _ _ _ _
      cases (c == Value.type "enumerate")
      · wp_walk using wpAny_loadPart' hl, wpAny_pyIter_tuple hL
        exact ⟨_, rfl, h⟩
      · wp_walk using wpAny_loadPart' hl, wpAny_pyIter_tuple hL
        exact ⟨_, rfl, h⟩
    · wp_walk using wpAny_loadPart' hl, wpAny_pyIter_tuple hL
      exact ⟨_, rfl, h⟩
theorem call_enumerate_tuple {prog : Program} {w : World} {A : Around} {E : Value → Shared → Prop} {s : Shared} {l : Addr} {items : Array Value} {Q : Value → Shared → Prop} (hL : s.heap.IsTuple l items)
    (h : ∀ h', IsEnum h' (s.heap.objs.size + 1) s.heap.objs.size 0 .none → h'.IsTupleIter s.heap.objs.size l 0 → h'.objs.size = s.heap.objs.size + 2 →
      (∀ b o, s.heap.get? b = some o → h'.get? b = some o) → Q (.ref (s.heap.objs.size + 1)) { s with heap := h' }) :
    wpAny (model prog w) A (call (.type "enumerate") [.ref l]) Q E s := by
  obtain ⟨⟨c, dct, dt, sl⟩, hl, hc, n, hd⟩ := hL
  replace hc : c = .type "tuple" := hc
  replace hd : dt = .seq items n := hd
  subst hc hd
  refine callType_new F.called_enumerate (by decide) (F.typeCall_enumerate_1 _) (F.newCall_enumerate_1 _) (fun obj => F.args_object_init_2 obj _) F.entry_enumerate_new
    (meets_enumerate_newT l items n dct sl) ⟨hl, ?_⟩
  have hz : (s.heap.push { cls := .type "tuple_iterator", data := .fields #[.ref l, .int 0 0] }).objs.size = s.heap.objs.size + 1 := Heap.size_push ..
  show _ ∧ _
  rw [hz]
  have he : IsEnum ((s.heap.push { cls := .type "tuple_iterator", data := .fields #[.ref l, .int 0 0] }).push
      { cls := .type "enumerate", data := .fields #[.none, .bool false, .ref s.heap.objs.size, rawInt 0, .none, .none] }) (s.heap.objs.size + 1) s.heap.objs.size 0 .none := by
    have := Heap.get?_push_size (s.heap.push { cls := .type "tuple_iterator", data := .fields #[.ref l, .int 0 0] })
      (o := { cls := .type "enumerate", data := .fields #[.none, .bool false, .ref s.heap.objs.size, rawInt 0, .none, .none] }) rfl
    rw [hz] at this; exact this
  refine ⟨⟨_, he, rfl⟩, h _ he ⟨_, Heap.get?_push_of_some _ (Heap.get?_push_size _ rfl), rfl, rfl⟩ (by rw [Heap.size_push, hz]) fun b o x => Heap.get?_push_of_some _ (Heap.get?_push_of_some _ x)⟩
theorem wpAny_pyNext_enum_endT {prog : Program} {w : World} {A : Around} {E : Value → Shared → Prop} {s : Shared} {e it t : Addr} {items : Array Value} {k i : Nat} {old : Value} {Q : Option Value → Shared → Prop} (hh : A.in1.handled = none)
    (he : IsEnum s.heap e it (k : Nat) old) (hit : s.heap.IsTupleIter it t i) (ht : s.heap.IsTuple t items) (hx : items[i]? = none)
    (hQ : ∀ h', Heap.ExtBut it s.heap h' → Q none { s with heap := h' }) : wpAny (model prog w) A (pyNext (.ref e)) Q E s := by
  have hT : s.TypeIs (.ref e) "enumerate" := ⟨_, he, rfl⟩
  unfold pyNext
  refine wpAny_bind (wpAny_attempt (wpAny_callSpecial?_slot (name := Str.ofString "__next__") hT F.slot_enumerate_next
    (wpAny_call_entry F.slot_enumerate_next hT F.entry_enumerate_next ?_ (F.args_enumerate_next_1 _))))
  show wpAny _ _ (field (.ref e) 2 >>= _) _ _ _
  refine wpAny_bind (wpAny_field he rfl (x := .ref it) rfl ?_)
  refine wpAny_bind (wpAny_nextOf_tuple_end hh hit ht hx fun h' x he' hx' => ?_)
  obtain ⟨o, ho, hc⟩ := hx'
  refine wpAny_bind (wpAny_isInstance (T := "StopIteration") (b := true) ⟨o, ho, hc⟩ isSubtype_stop ?_)
  exact wpAny_pure (hQ _ he')
end PySem
namespace AL
open PySem PySem.Spec PyProof.Rows L2
def Itet (K : PySem.W.Frag) (a : Addr) : It :=
  ⟨fun i H => ∃ (xs : List V) (x : V), SqT K H a xs ∧ xs[i]? = some x, fun i H v H' => ∃ T x, v = .ref T ∧ H T = none ∧ H' = upd H T (.tup [.int (i : Nat), x]) ∧ ∀ xs, SqT K H a xs → xs[i]? = some x, fun i H => ∃ xs : List V, SqT K H a xs ∧ xs.length ≤ i⟩
theorem turn_enumT {P : Program} {w : World} {K : PySem.W.Frag} {elts : List Expr} {kk : Nat} {tpos : Pos} (a e it : Addr) :
    Turn P w K (.Tuple elts kk tpos) (Itet K a) [e, it] e (fun i h => (∃ old, IsEnum h e it ((i : Nat) : Int) old) ∧ h.IsTupleIter it a i ∧ e ≠ it ∧ a ≠ e ∧ a ≠ it) where
  mem := by simp
  obj := fun i h st b hb => by
    obtain ⟨⟨old, he⟩, ⟨o, ho, hc, hd⟩, _⟩ := st
    have e' : b = e ∨ b = it := by simpa using hb
    rcases e' with z | z
    · rw [z]; exact ⟨_, he, fun v q => nomatch q⟩
    · rw [z]; exact ⟨o, ho, fun v q => by rw [hd] at q; cases q⟩
  keep := fun i h h' st k => let ⟨⟨old, he⟩, hi, hne⟩ := st; ⟨⟨old, k e (by simp) _ he⟩, hi.at fun o q => k it (by simp) o q, hne⟩
  item := by
    intro X hP hw hK hc i pins s σ H E I hf st hg
    subst hP hw hK
    obtain ⟨⟨old, he⟩, hit, hne, hae, hai⟩ := st
    obtain ⟨xs, x, hq, hx⟩ := hg
    obtain ⟨its, rv, p, hz⟩ := I.tuple hq
    obtain ⟨u, hu, ru⟩ := rv.get hx
    have hel : e < s.heap.objs.size := Heap.lt_size he
    have hil : it < s.heap.objs.size := by obtain ⟨_, q, _⟩ := hit; exact Heap.lt_size q
    have ht : s.heap.IsTuple a its.toArray := p
    have hlt : i < its.toArray.size := by
      have := (List.getElem?_eq_some_iff.mp hu).1
      simpa using this
    have hh : X.A.in1.handled = none := I.ok.hd hc
    refine wpAny_pyNext_enum_itemD (Draws.tuple hh it a hai its.toArray) he ⟨hit, ht⟩ hlt hne (by simp; exact ⟨hne, Ne.symm hae⟩) fun x' h' tk hx' ho hst' hT hsz hk => ?_
    have ex : x' = u := by
      have hx' : its.toArray[i]? = some x' := hx'
      rw [show its.toArray[i]? = its[i]? by simp, hu] at hx'
      exact (Option.some.inj hx').symm
    subst ex
    refine ⟨_, rfl, wpAny_letOwnedTupleGo_enum (s := { s with heap := h', toks := tk + 1 }) ho fun h'' he' sb => ?_⟩
    have hT2 : h''.get? s.heap.objs.size = some { cls := .type "tuple", data := .seq #[.int i tk, x'] } := (sb.2 _ (Nat.ne_of_gt hel)).trans hT
    have new : ObjOk X.prog X.w (upd H s.heap.objs.size (.tup [.int (i : Nat), x])) h'' s.heap.objs.size (.tup [.int (i : Nat), x]) :=
      ⟨by show 2 ≤ sizeLine; decide, [.int i tk, x'], .cons ⟨_, rfl⟩ (.cons ru .nil), ⟨_, hT2, rfl, _, rfl⟩⟩
    have I1 : Inv X pins σ (upd H s.heap.objs.size (.tup [.int (i : Nat), x])) { s with heap := h'', toks := tk + 1 } :=
      I.turnedNew (ch := [e, it]) (fun b ob hb q => (sb.2 b (fun z => hb (by simp [z]))).trans (hk b ob (fun z => hb (by simp [z])) (fun z => hb (by simp [z])) q)) hf (Nat.le_refl _) new
    refine ⟨.ref s.heap.objs.size, _, I1, rfl, ⟨_, x, rfl, I.hok.fresh (Nat.le_refl _), rfl, fun ys hy => by rw [I.tuple_inj hy hq]; exact hx⟩, ⟨⟨x', ?_⟩, hst'.1.at fun o q => (sb.2 it (Ne.symm hne)).trans q, hne, hae, hai⟩, fun b hb => ?_⟩
    · have e1 : ((i + 1 : Nat) : Int) = (i : Int) + 1 := by omega
      rw [e1]; exact he'
    · have hb' : b < s.heap.objs.size := by
        have e' : b = e ∨ b = it := by simpa using hb
        rcases e' with z | z
        · rw [z]; exact hel
        · rw [z]; exact hil
      rw [upd_ne (Nat.ne_of_lt hb')]
      exact (hf b hb).1
  done := by
    intro X hP hw hK hc i pins s σ H E I hf st hg
    subst hP hw hK
    obtain ⟨⟨old, he⟩, hit, hne, hae, hai⟩ := st
    obtain ⟨xs, hq, hx⟩ := hg
    obtain ⟨its, rv, p, hz⟩ := I.tuple hq
    obtain ⟨f0, f1, f2, f3, f4, f5⟩ := hf it (by simp)
    have hl := rv.length
    have hh : X.A.in1.handled = none := I.ok.hd hc
    exact wpAny_pyNext_enum_endT hh he hit p (by simp; omega) fun h' eb => ⟨rfl, I.turned (t' := s.toks) (fun b o hb q => eb b o hb q) f0 f1 f3 f4 f5⟩
  self := fun A i s Q E st h => let ⟨⟨_, he⟩, _⟩ := st; wpAny_pyIter_enum he h
/-- enumerate(e), e a list or a tuple -/
theorem pi_enumB {X : Cx} {e : Expr} {ta : TA} {p pos tpos : Pos} {elts : List Expr} {kk : Nat} (hg : Gl X "enumerate") (hm : X.mg "enumerate" = none) (ha : PA X [e] ta) (hs : starEach [e] X.env = [(false, eval e X.env)] := by rfl) :
    PI X (.Tuple elts kk tpos) (.Call (.Name "enumerate" p) [e] [] pos) (fun σ H R => ta σ H fun vs H1 => ∃ a, vs = [.ref a] ∧ (((∃ xs, SqL X.K H1 a xs) ∧ R (Ite X.K a) H1) ∨ ((∃ xs, SqT X.K H1 a xs) ∧ R (Itet X.K a) H1))) := by
  refine ⟨fun pins s σ H R I h => ?_⟩
  refine Call_ (ld_blt I hg hm boot_enumerate (PyProof.Rows.callWith_type1 (thn (ha.run pos pins s σ H _ I h) fun us s1 ⟨vs, H1, I1, r1, q1⟩ => ?_) hs rfl))
  obtain ⟨a, ex, q⟩ := q1
  subst ex
  cases r1 with
  | cons r rr =>
    cases rr
    cases r
    have fresh : ∀ b ∈ [s1.heap.objs.size + 1, s1.heap.objs.size], FpOk X pins H1 b := fun b hb => by
      have e' : b = s1.heap.objs.size + 1 ∨ b = s1.heap.objs.size := by simpa using hb
      have hle : s1.heap.objs.size ≤ b := by
        rcases e' with z | z
        · rw [z]; exact Nat.le_add_right _ _
        · rw [z]; exact Nat.le_refl _
      exact I1.fpOk hle (I1.hok.fresh hle)
    rcases q with ⟨⟨xs, hq⟩, q⟩ | ⟨⟨xs, hq⟩, q⟩
    · obtain ⟨its, rv, p', hz⟩ := I1.list hq
      refine call_enumerate_list p'.isList fun h' he hit hsz hk => wpAny_pyIter_enum he ?_
      have I2 : Inv X pins σ H1 { s1 with heap := h' } := I1.kept (t' := s1.toks) hk
      exact ⟨s1.heap.objs.size + 1, [s1.heap.objs.size + 1, s1.heap.objs.size], _, _, H1, rfl, I2, turn_enum a (s1.heap.objs.size + 1) s1.heap.objs.size, ⟨⟨.none, he⟩, hit, Nat.succ_ne_self _⟩, fresh, q⟩
    · obtain ⟨its, rv, p', hz⟩ := I1.tuple hq
      have ht : s1.heap.IsTuple a its.toArray := p'
      have hal : a < s1.heap.objs.size := by obtain ⟨_, q, _⟩ := ht; exact Heap.lt_size q
      refine call_enumerate_tuple ht fun h' he hit hsz hk => wpAny_pyIter_enum he ?_
      have I2 : Inv X pins σ H1 { s1 with heap := h' } := I1.kept (t' := s1.toks) hk
      exact ⟨s1.heap.objs.size + 1, [s1.heap.objs.size + 1, s1.heap.objs.size], _, _, H1, rfl, I2, turn_enumT a (s1.heap.objs.size + 1) s1.heap.objs.size, ⟨⟨.none, he⟩, hit, Nat.succ_ne_self _, Nat.ne_of_lt (Nat.lt_succ_of_lt hal), Nat.ne_of_lt hal⟩, fresh, q⟩
theorem it_enumT {k : Kx} {I0 : Hp} {a : Addr} {vs : List V} {ds : List DV} (h : SqT k.K I0 a vs) (r : Rps k.K I0 ds vs) : ItOk k (Itet k.K a) I0 (enumD ds) (fun _ => True) where
  stop i A e s hi := ⟨vs, A.imm.t (e.t h), by rw [← r.length]; simpa [enumD_length] using hi⟩
  go i d A e s hd := by
    obtain ⟨x, hx, _⟩ := enumD_get hd
    obtain ⟨v, hv, _⟩ := r.get hx
    exact ⟨vs, v, A.imm.t (e.t h), hv⟩
  yld i d x H' A e s hd y := by
    obtain ⟨T, v, rfl, hT, rfl, y⟩ := y
    obtain ⟨z, hz, rfl⟩ := enumD_get hd
    obtain ⟨v', hv, rv⟩ := r.get hz
    have := y vs (A.imm.t (e.t h))
    rw [hv] at this; cases this
    exact pair_new A hT (rv.mono e)
/-- enumerate of a list or a tuple -/
def iEnB (ta : AA) : AI := fun ρ L P px => ta ρ L (fun ds L1 => match ds with
  | [.lst xs] => P (enumD xs) (fun _ => True) L1
  | [.tup xs] => P (enumD xs) (fun _ => True) L1
  | [.ref a] => ∃ xs, L1 a = some (.lst xs) ∧ P (enumD xs) (fun L' => L' a = some (.lst xs)) L1
  | _ => False) px
section
variable {X : Cx} {W : WX} {e : Expr} {ta : AA} {p pos tpos : Pos} {elts : List Expr} {kk : Nat}
theorem i_enB (hg : Gl X "enumerate") (hm : X.mg "enumerate" = none) (ha : PA X [e] (cA X.kx W ta)) (hs : starEach [e] X.env = [(false, eval e X.env)] := by rfl) : PI X (.Tuple elts kk tpos) (.Call (.Name "enumerate" p) [e] [] pos) (cI X.kx W (iEnB ta)) :=
  (pi_enumB hg hm ha hs).imp fun σ H R ⟨I, L, F, ρ, P, px, S, h, q⟩ => ⟨I, L, F, ρ, _, px, S, h, fun ds L1 vs I1 H1 h1 A1 e1 r1 => by
    split at h1
    · obtain ⟨v, rfl, r2⟩ := one_rp (k := X.kx) r1
      cases r2 with
      | lst hl r => exact ⟨_, rfl, .inl ⟨⟨_, SqL.of (A1.imm _ _ hl)⟩, q _ _ _ _ _ _ h1 A1 e1 (it_enum fun A e _ => ⟨_, A.imm.l (e.l (SqL.of hl)), r.mono e⟩)⟩⟩
    · obtain ⟨v, rfl, r2⟩ := one_rp (k := X.kx) r1
      cases r2 with
      | tup hl r => exact ⟨_, rfl, .inr ⟨⟨_, A1.imm.t hl⟩, q _ _ _ _ _ _ h1 A1 e1 (it_enumT hl r)⟩⟩
    · obtain ⟨v, rfl, r2⟩ := one_rp (k := X.kx) r1
      cases r2
      obtain ⟨xs, hl, h1⟩ := h1
      obtain ⟨_, _, o, e2, r2⟩ := A1.led _ _ hl
      cases r2 with
      | lst r => exact ⟨_, rfl, .inl ⟨⟨_, SqL.of e2⟩, q _ _ _ _ _ _ h1 A1 e1 (it_enum fun A e s => by
          obtain ⟨_, _, o, e3, r3⟩ := A.led _ _ s
          cases r3 with
          | lst r => exact ⟨_, SqL.of e3, r⟩)⟩⟩
    · exact h1.elim⟩
end
end AL
namespace AL
open PySem PySem.Spec PyProof.Rows L2
/-! ### dicts with ints or texts as keys -/
def keyD : DV → Option Key
  | .int i => some (.inl i)
  | .str s => some (.inr s)
  | _ => none
def valG {α : Type} (kvs : List (Key × α)) (k : Key) : Option α := (kvs.find? fun kv => decide (kv.1 = k)).map (·.2)
def putG {α : Type} (kvs : List (Key × α)) (k : Key) (v : α) : List (Key × α) :=
  if (kvs.any fun kv => decide (kv.1 = k)) = true then kvs.map (fun kv => if kv.1 = k then (kv.1, v) else kv) else kvs ++ [(k, v)]
theorem keyD_rp {K : PySem.W.Frag} {I : Hp} {d : DV} {v : V} {k : Key} (r : Rp K I d v) (h : keyD d = some k) : v = kV k := by
  cases r <;> first | (cases h; rfl) | cases h
theorem val_rp {K : PySem.W.Frag} {I : Hp} {k : Key} : ∀ {kvs : List (Key × DV)} {xs : List (Key × V)}, kvs.map (·.1) = xs.map (·.1) → Rps K I (kvs.map (·.2)) (xs.map (·.2)) →
    (valG kvs k = none ∧ valV xs k = none) ∨ ∃ d v, valG kvs k = some d ∧ valV xs k = some v ∧ Rp K I d v
  | [], [], _, _ => .inl ⟨rfl, rfl⟩
  | [], _ :: _, e, _ => by cases e
  | _ :: _, [], e, _ => by cases e
  | (k1, d) :: kvs, (k2, v) :: xs, e, r => by
    simp only [List.map_cons, List.cons.injEq] at e
    obtain ⟨rfl, e⟩ := e
    cases r with
    | cons h r =>
    by_cases z : k1 = k
    · refine .inr ⟨d, v, ?_, ?_, h⟩
      · simp [valG, List.find?_cons, z]
      · simp [valV, List.find?_cons, z]
    · have ih := val_rp (k := k) e r
      have e1 : valG ((k1, d) :: kvs) k = valG kvs k := by simp [valG, List.find?_cons, z]
      have e2 : valV ((k1, v) :: xs) k = valV xs k := by simp [valV, List.find?_cons, z]
      rw [e1, e2]
      exact ih
theorem any_keys {α β : Type} {k : Key} : ∀ {kvs : List (Key × α)} {xs : List (Key × β)}, kvs.map (·.1) = xs.map (·.1) → (kvs.any fun kv => decide (kv.1 = k)) = xs.any fun kv => decide (kv.1 = k)
  | [], [], _ => rfl
  | [], _ :: _, e => by cases e
  | _ :: _, [], e => by cases e
  | (k1, d) :: kvs, (k2, v) :: xs, e => by
    simp only [List.map_cons, List.cons.injEq] at e
    obtain ⟨rfl, e⟩ := e
    rw [List.any_cons, List.any_cons, any_keys e]
theorem map_rp {K : PySem.W.Frag} {I : Hp} {k : Key} {d : DV} {v : V} (h : Rp K I d v) : ∀ {kvs : List (Key × DV)} {xs : List (Key × V)}, kvs.map (·.1) = xs.map (·.1) → Rps K I (kvs.map (·.2)) (xs.map (·.2)) →
    (kvs.map fun kv => if kv.1 = k then (kv.1, d) else kv).map (·.1) = (xs.map fun kv => if kv.1 = k then (kv.1, v) else kv).map (·.1) ∧ Rps K I ((kvs.map fun kv => if kv.1 = k then (kv.1, d) else kv).map (·.2)) ((xs.map fun kv => if kv.1 = k then (kv.1, v) else kv).map (·.2))
  | [], [], _, _ => ⟨rfl, .nil⟩
  | [], _ :: _, e, _ => by cases e
  | _ :: _, [], e, _ => by cases e
  | (k1, d1) :: kvs, (k2, v1) :: xs, e, r => by
    simp only [List.map_cons, List.cons.injEq] at e
    obtain ⟨rfl, e⟩ := e
    cases r with
    | cons h1 r =>
    obtain ⟨e2, r2⟩ := map_rp h e r
    by_cases z : k1 = k
    · simp only [List.map_cons, if_pos z]
      exact ⟨congrArg _ e2, .cons h r2⟩
    · simp only [List.map_cons, if_neg z]
      exact ⟨congrArg _ e2, .cons h1 r2⟩
theorem put_rp {K : PySem.W.Frag} {I : Hp} {k : Key} {d : DV} {v : V} (h : Rp K I d v) {kvs : List (Key × DV)} {xs : List (Key × V)} (e : kvs.map (·.1) = xs.map (·.1)) (r : Rps K I (kvs.map (·.2)) (xs.map (·.2))) :
    (putG kvs k d).map (·.1) = (putK xs k v).map (·.1) ∧ Rps K I ((putG kvs k d).map (·.2)) ((putK xs k v).map (·.2)) := by
  unfold putG putK
  rw [any_keys e]
  by_cases z : (xs.any fun kv => decide (kv.1 = k)) = true
  · rw [if_pos z, if_pos z]
    exact map_rp h e r
  · rw [if_neg z, if_neg z]
    refine ⟨by rw [List.map_append, List.map_append, e]; rfl, ?_⟩
    rw [List.map_append, List.map_append]
    exact r.append (.cons h .nil)
/-- {} -/
def aDict0 : AE := fun _ L P _ => ∀ a, L a = none → P (.ref a) (updL L a (.dK []))
/-- k in d -/
def oDin (neg : Bool) : AR2 := fun x y L P => match y with
  | .ref a => ∃ kvs k, L a = some (.dK kvs) ∧ keyD x = some k ∧ P (.bl (neg ^^ (valG kvs k).isSome)) L
  | _ => False
/-- d[k], k there -/
def oDget : AR2 := fun x y L P => match x with
  | .ref a => ∃ kvs k d, L a = some (.dK kvs) ∧ keyD y = some k ∧ valG kvs k = some d ∧ P d L
  | _ => False
/-- d[k] = e -/
def aDput (to ti tv : AE) : AS := fun AD ρ L => tv ρ L (fun d L1 => to ρ L1 (fun x L2 => ti ρ L2 (fun y L3 => match x with
  | .ref a => ∃ kvs k, L3 a = some (.dK kvs) ∧ keyD y = some k ∧ kvs.length < sizeLine ∧ AD.nx ρ (updL L3 a (.dK (putG kvs k d)))
  | _ => False) AD.px) AD.px) AD.px
section
variable {X : Cx} {W : WX} {e o i value : Expr} {te to ti tv : AE} {pos pos' : Pos} {kk : Nat}
theorem a_dict0 : PE X (.Dict [] [] pos) (cE X.kx W aDict0) := pe_dnewK.imp fun σ H Q ⟨I, L, F, ρ, P, px, S, h, q⟩ p hp =>
  q _ _ _ _ _ (h p (S.ab.freeL hp)) (S.ab.newL hp (.dK rfl .nil)) (Ex.refl I) (.ref p)
theorem din_go {neg : Bool} {σ : L2.St} {H : Hp} {Q : VK} {R : V → V → Hp → VK → Prop} (hR : ∀ a y o H Q, DGet H a y o → Q (.bl (neg ^^ o.isSome)) H → R y (.ref a) H Q) (h : cE X.kx W (aBin (oDin neg) ti to) σ H Q) :
    cE X.kx W ti σ H fun y H1 => cE X.kx W to σ H1 fun x H2 => R y x H2 Q := by
  obtain ⟨I, L, F, ρ, P, px, S, h, q⟩ := h
  refine ⟨I, L, F, ρ, _, px, S, h, fun x L1 xv I1 H1 h1 A1 e1 r1 => ⟨I1, L1, F, ρ, _, px, S.go A1 e1, h1, fun y L2 yv I2 H2 h2 A2 e2 r2 => ?_⟩⟩
  unfold oDin at h2
  split at h2
  · cases r2
    obtain ⟨kvs, k, hl, hk, h2⟩ := h2
    obtain ⟨_, _, ob, eo, ro⟩ := A2.led _ _ hl
    cases ro with
    | dK ek rk =>
    rename_i xs
    rw [keyD_rp r1 hk]
    have g : DGet H2 _ (kV k) (valV xs k) := DGet.k eo
    refine hR _ _ _ _ _ g ?_
    have es : (valV xs k).isSome = (valG kvs k).isSome := by
      rcases val_rp (k := k) ek rk with ⟨a, b⟩ | ⟨d, v, a, b, _⟩ <;> rw [a, b] <;> rfl
    rw [es]
    exact here A2 (.bl _) h2 (q.mono (e1.trans e2))
  · exact h2.elim
theorem t_din (hr : Room kk X.A) (hi : PE X i (cE X.kx W ti)) (ho : PE X o (cE X.kx W to)) (hm : behindInMarks .In o = false := by rfl) : PT X (.Compare i [.In] [o] pos) (cT X.kx W (aTest (aBin (oDin false) ti to))) :=
  (pt_cmp (pc_din (hu_of hr.old) hi ho) (h1 := hm)).imp (ctest fun σ H Q h => by
    obtain z := din_go (R := fun y x H Q => ∃ a o, x = .ref a ∧ DGet H a y o ∧ Q (.bl o.isSome) H) (fun a y o H Q g q => ⟨a, o, rfl, g, by rw [Bool.false_xor] at q; exact q⟩) h
    exact z)
theorem t_dnin (hr : Room kk X.A) (hi : PE X i (cE X.kx W ti)) (ho : PE X o (cE X.kx W to)) (hm : behindInMarks .NotIn o = false := by rfl) : PT X (.Compare i [.NotIn] [o] pos) (cT X.kx W (aTest (aBin (oDin true) ti to))) :=
  (pt_cmp (pc_dnotin (hu_of hr.old) hi ho) (h1 := hm)).imp (ctest fun σ H Q h => by
    obtain z := din_go (R := fun y x H Q => ∃ a o, x = .ref a ∧ DGet H a y o ∧ Q (.bl (!o.isSome)) H) (fun a y o H Q g q => ⟨a, o, rfl, g, by rw [Bool.true_xor] at q; exact q⟩) h
    exact z)
theorem a_din (hr : Room kk X.A) (hi : PE X i (cE X.kx W ti)) (ho : PE X o (cE X.kx W to)) (hm : behindInMarks .In o = false := by rfl) : PE X (.Compare i [.In] [o] pos) (cE X.kx W (aBin (oDin false) ti to)) :=
  (pe_cmp (pc_din (hu_of hr.old) hi ho) (h1 := hm)).imp fun σ H Q h => by
    obtain z := din_go (R := fun y x H Q => ∃ a o, x = .ref a ∧ DGet H a y o ∧ Q (.bl o.isSome) H) (fun a y o H Q g q => ⟨a, o, rfl, g, by rw [Bool.false_xor] at q; exact q⟩) h
    exact z
theorem a_dnin (hr : Room kk X.A) (hi : PE X i (cE X.kx W ti)) (ho : PE X o (cE X.kx W to)) (hm : behindInMarks .NotIn o = false := by rfl) : PE X (.Compare i [.NotIn] [o] pos) (cE X.kx W (aBin (oDin true) ti to)) :=
  (pe_cmp (pc_dnotin (hu_of hr.old) hi ho) (h1 := hm)).imp fun σ H Q h => by
    obtain z := din_go (R := fun y x H Q => ∃ a o, x = .ref a ∧ DGet H a y o ∧ Q (.bl (!o.isSome)) H) (fun a y o H Q g q => ⟨a, o, rfl, g, by rw [Bool.true_xor] at q; exact q⟩) h
    exact z
theorem a_dget (hr : Room kk X.A) (ho : PE X o (cE X.kx W to)) (hi : PE X i (cE X.kx W ti)) (hs : NoSl i := by intro _ _; rfl) : PE X (.Subscript o i pos) (cE X.kx W (aBin oDget to ti)) :=
  (pe_dget (hu_of hr.old) ho hi hs).imp fun σ H Q ⟨I, L, F, ρ, P, px, S, h, q⟩ => ⟨I, L, F, ρ, _, px, S, h, fun x L1 xv I1 H1 h1 A1 e1 r1 => ⟨I1, L1, F, ρ, _, px, S.go A1 e1, h1, fun y L2 yv I2 H2 h2 A2 e2 r2 => by
    unfold oDget at h2
    split at h2
    · cases r1
      obtain ⟨kvs, k, d, hl, hk, hd, h2⟩ := h2
      obtain ⟨_, _, ob, eo, ro⟩ := A2.led _ _ hl
      cases ro with
      | dK ek rk =>
      rcases val_rp (k := k) ek rk with ⟨a, _⟩ | ⟨d', v, a, b, rv⟩
      · rw [hd] at a; cases a
      · rw [hd] at a; cases a
        refine ⟨_, v, rfl, ?_, here A2 rv h2 (q.mono (e1.trans e2))⟩
        rw [keyD_rp r2 hk, ← b]
        exact DGet.k eo
    · exact h2.elim⟩⟩
theorem s_dput (hr : Room kk X.A) (ho : PE X o (cE X.kx W to)) (hi : PE X i (cE X.kx W ti)) (hv : PE X value (cE X.kx W tv)) (hs : swapsWith value (some (.Subscript o i pos')) pos.line X.env = pure false := by rfl) : PS X (.Assign [.Subscript o i pos'] value pos) (cS X.kx W (aDput to ti tv)) :=
  (ps_dput (hu_of hr.old) ho hi hv hs).imp fun D σ H ⟨I, L, F, ρ, AD, S, h, q⟩ => ⟨I, L, F, ρ, _, AD.px, S, h, fun d L1 v I1 H1 h1 A1 e1 r1 => ⟨I1, L1, F, ρ, _, AD.px, S.go A1 e1, h1, fun x L2 xv I2 H2 h2 A2 e2 r2 => ⟨I2, L2, F, ρ, _, AD.px, S.go A2 (e1.trans e2), h2, fun y L3 yv I3 H3 h3 A3 e3 r3 => by
    split at h3
    · cases r2
      obtain ⟨kvs, k, hl, hk, hz, h3⟩ := h3
      obtain ⟨_, _, ob, eo, ro⟩ := A3.led _ _ hl
      cases ro with
      | dK ek rk =>
      rename_i xs
      have el : kvs.length = xs.length := by have := congrArg List.length ek; simpa using this
      obtain ⟨pk, pr⟩ := put_rp (k := k) (r1.mono (e2.trans e3)) ek rk
      refine ⟨_, _, rfl, ?_, q.nx _ _ _ _ _ h3 (A3.write hl (.dK pk pr)) ((e1.trans e2).trans e3) (S.rs.mono ((e1.trans e2).trans e3))⟩
      rw [keyD_rp r3 hk]
      exact DPut.k eo (by rw [← el]; exact hz)
    · exact h3.elim⟩⟩⟩
end
end AL
namespace AL
open PySem PySem.Spec PyProof.Rows L2

/-! ### a new list as data, or on the ledger -/
abbrev NW := List DV → Led → PD → Prop
def newD : NW := fun ds L P => P (.lst ds) L
def newR : NW := fun ds L P => ∀ a, L a = none → P (.ref a) (updL L a (.lst ds))
abbrev NwOk (nw : NW) : Prop := ∀ ds L P, nw ds L P → newL ds L P
def newS : NW := newL
theorem newS_ok : NwOk newS := fun _ _ _ h => h
theorem newD_ok : NwOk newD := fun _ _ _ h => .inr h
theorem newR_ok : NwOk newR := fun _ _ _ h => .inl h
theorem AOp.imp {k : Kx} {r : R2} {ro ro' : AR2} (h : AOp k r ro) (i : ∀ x y L P, ro' x y L P → ro x y L P) : AOp k r ro' := fun A rx ry o q => h A rx ry (i _ _ _ _ o) q
theorem ACl.imp {k : Kx} {r : List V → Hp → VK → Prop} {ro ro' : AC} (h : ACl k r ro) (i : ∀ ds L P, ro' ds L P → ro ds L P) : ACl k r ro' := fun A rx o q => h A rx (i _ _ _ o) q
theorem withL.imp {L : Led} {x : DV} {q q' : List DV → Prop} (i : ∀ ds, q ds → q' ds) (h : withL L x q) : withL L x q' := by
  cases x <;> first | exact h.elim | exact i _ h | skip
  obtain ⟨ds, e, h⟩ := h
  exact ⟨ds, e, i _ h⟩
theorem withSq.imp {L : Led} {x : DV} {q q' : List DV → Prop} (i : ∀ ds, q ds → q' ds) (h : withSq L x q) : withSq L x q' := by
  cases x <;> first | exact h.elim | exact i _ h | skip
  obtain ⟨ds, e, h⟩ := h
  exact ⟨ds, e, i _ h⟩
def oAddN (nw : NW) : AR2 := fun x y L P => match x, y with
  | .int i, .int j => P (.int (i + j)) L
  | .str a, .str b => a.length + b.length ≤ sizeLine ∧ P (.str (a ++ b)) L
  | .tup a, .tup b => a.length + b.length ≤ sizeLine ∧ P (.tup (a ++ b)) L
  | x, y => withL L x fun a => withL L y fun b => a.length + b.length ≤ sizeLine ∧ nw (a ++ b) L P
theorem oAddN_imp {nw : NW} (hn : NwOk nw) (x y : DV) (L : Led) (P : PD) (h : oAddN nw x y L P) : oAdd x y L P := by
  have g : ∀ x y, (withL L x fun a => withL L y fun b => a.length + b.length ≤ sizeLine ∧ nw (a ++ b) L P) → (withL L x fun a => withL L y fun b => a.length + b.length ≤ sizeLine ∧ newL (a ++ b) L P) := fun x y h => h.imp fun a h => h.imp fun b h => ⟨h.1, hn _ _ _ h.2⟩
  cases x <;> cases y <;> first | exact h | exact g (.ref _) (.ref _) h | exact g (.lst _) (.ref _) h | exact g (.ref _) (.lst _) h | exact g (.lst _) (.lst _) h
def oMulN (nw : NW) : AR2 := fun x y L P => match x, y with
  | .int i, .int j => CMul i j ∧ P (.int (i * j)) L
  | x, .int j => withL L x fun a => -(2 ^ 63) ≤ j ∧ j < 2 ^ 63 ∧ a.length * j.toNat ≤ sizeLine ∧ nw (List.replicate j.toNat a).flatten L P
  | _, _ => False
theorem oMulN_imp {nw : NW} (hn : NwOk nw) (x y : DV) (L : Led) (P : PD) (h : oMulN nw x y L P) : oMulL x y L P := by
  cases y <;> try (cases x <;> exact h.elim)
  have g : ∀ (x : DV) (j : Int), (withL L x fun a => -(2 ^ 63) ≤ j ∧ j < 2 ^ 63 ∧ a.length * j.toNat ≤ sizeLine ∧ nw (List.replicate j.toNat a).flatten L P) → (withL L x fun a => -(2 ^ 63) ≤ j ∧ j < 2 ^ 63 ∧ a.length * j.toNat ≤ sizeLine ∧ newL (List.replicate j.toNat a).flatten L P) := fun x j h => h.imp fun a h => ⟨h.1, h.2.1, h.2.2.1, hn _ _ _ h.2.2.2⟩
  cases x <;> first | exact h | exact h.elim | exact g (.ref _) _ h | exact g (.lst _) _ h
def oSlN (nw : NW) (x : DV) (lo hi : Option Int) (L : Led) (P : PD) : Prop := match x with
  | .str z => z.length ≤ sizeLine ∧ P (.str (cutS z lo hi)) L
  | .tup xs => P (.tup (cut xs lo hi)) L
  | x => withL L x fun ds => nw (cut ds lo hi) L P
theorem oSlN_imp {nw : NW} (hn : NwOk nw) {x : DV} {lo hi : Option Int} {L : Led} {P : PD} (h : oSlN nw x lo hi L P) : oSl x lo hi L P := by
  have g : ∀ x : DV, (withL L x fun ds => nw (cut ds lo hi) L P) → (withL L x fun ds => newL (cut ds lo hi) L P) := fun x h => h.imp fun a h => hn _ _ _ h
  cases x <;> first | exact h | exact h.elim | exact g (.ref _) h | exact g (.lst _) h
def aSlN (nw : NW) (te : AE) (tl th : AO) : AE := fun ρ L P px => te ρ L (fun x L1 => tl ρ L1 (fun lo L2 => th ρ L2 (fun hi L3 => oSlN nw x lo hi L3 P) px) px) px
def aRevN (nw : NW) (te : AE) : AE := fun ρ L P px => te ρ L (fun x L1 => withL L1 x fun ds => nw ds.reverse L1 P) px
def aLstN (nw : NW) (ta : AA) : AE := fun ρ L P px => ta ρ L (fun ds L1 => few ds 200 (nw ds L1 P)) px
def bListN (nw : NW) : AC := fun ds L P => match ds with
  | [x] => withSq L x fun ds => nw ds L P
  | _ => False
theorem bListN_imp {nw : NW} (hn : NwOk nw) (ds : List DV) (L : Led) (P : PD) (h : bListN nw ds L P) : bList ds L P := by
  unfold bListN at h; unfold bList; split at h
  · exact h.imp fun ds h => hn _ _ _ h
  · exact h.elim
def bSortedN (nw : NW) : AC := fun ds L P => match ds with
  | [x] => withL L x fun ds => ∃ ns : List Int, ds = ns.map DV.int ∧ ∀ ns' : List Int, ns'.Perm ns → ns'.Pairwise (· ≤ ·) → nw (ns'.map DV.int) L P
  | _ => False
theorem bSortedN_imp {nw : NW} (hn : NwOk nw) (ds : List DV) (L : Led) (P : PD) (h : bSortedN nw ds L P) : bSorted ds L P := by
  unfold bSortedN at h; unfold bSorted; split at h
  · exact h.imp fun ds h => let ⟨ns, e, h⟩ := h; ⟨ns, e, fun ns' a b => hn _ _ _ (h ns' a b)⟩
  · exact h.elim
section
variable {X : Cx} {W : WX} {e a b : Expr} {es : List Expr} {lo hi : Option Expr} {te ta tb : AE} {t : AA} {tl th : AO} {p pos p2 : Pos} {nw : NW} (hn : NwOk nw)
include hn
theorem a_addN (ha : PE X a (cE X.kx W ta)) (hb : PE X b (cE X.kx W tb)) : PE X (.BinOp a .Add b pos) (cE X.kx W (aBin (oAddN nw) ta tb)) := a_bin opAdd (oAdd_ok.imp (oAddN_imp hn)) ha hb
theorem a_mulN (ha : PE X a (cE X.kx W ta)) (hb : PE X b (cE X.kx W tb)) : PE X (.BinOp a .Mult b pos) (cE X.kx W (aBin (oMulN nw) ta tb)) := a_bin opMulL (oMulL_ok.imp (oMulN_imp hn)) ha hb
theorem a_sliceN (he : PE X e (cE X.kx W te)) (hl : PO X lo (cO X.kx W tl)) (hu : PO X hi (cO X.kx W th)) : PE X (.Subscript e (.Slice lo hi none p2) pos) (cE X.kx W (aSlN nw te tl th)) :=
  (pe_slice (sl_str.or (sl_tupA.or sl_list)) he hl hu).imp fun σ H Q ⟨I, L, F, ρ, P, px, S, h, q⟩ => ⟨I, L, F, ρ, _, px, S, h, fun x L1 xv I1 H1 h1 A1 e1 r1 => ⟨I1, L1, F, ρ, _, px, S.go A1 e1, h1, fun l L2 I2 H2 h2 A2 e2 =>
    ⟨I2, L2, F, ρ, _, px, S.go A2 (e1.trans e2), h2, fun u L3 I3 H3 h3 A3 e3 => oSl_ok A3 (r1.mono (e2.trans e3)) (oSlN_imp hn h3) (q.mono ((e1.trans e2).trans e3))⟩⟩⟩
theorem a_revN {k : Nat} {p1 p3 p4 : Pos} (he : PE X e (cE X.kx W te)) : PE X (.Subscript e (.Slice none none (some (.UnaryOp .USub (.Constant (.int 1) k p1) p3)) p4) pos) (cE X.kx W (aRevN nw te)) :=
  (pe_revL he).imp fun σ H Q ⟨I, L, F, ρ, P, px, S, h, q⟩ => ⟨I, L, F, ρ, _, px, S, h, fun x L1 xv I1 H1 h1 A1 e1 r1 => by
    obtain ⟨a, vs, ds, rfl, ha, r, h⟩ := withL_ok A1 r1 h1
    exact ⟨_, _, rfl, SqL.of ha, newL_ok A1 r.reverse (hn _ _ _ h) (q.mono e1)⟩⟩
theorem a_lstN (h : PA X es (cA X.kx W t)) : PE X (.List es pos) (cE X.kx W (aLstN nw t)) :=
  (pe_lst h).imp fun σ H Q ⟨I, L, F, ρ, P, px, S, h, q⟩ => ⟨I, L, F, ρ, _, px, S, h, fun ds L1 vs I1 H1 h1 A1 e1 r1 => ⟨by rw [← r1.length]; exact z200 (few_ok h1).1, newL_ok A1 r1 (hn _ _ _ (few_ok h1).2) (q.mono e1)⟩⟩
theorem a_listN (hg : Gl X "list") (hm : X.mg "list" = none) (ha : PA X [e] (cA X.kx W t)) (he : starEach [e] X.env = (false, eval e X.env) :: starEach [] X.env := by rfl) : PE X (.Call (.Name "list" p) [e] [] pos) (cE X.kx W (aCB (bListN nw) t)) := a_callTy call_list_of (bList_ok.imp (bListN_imp hn)) hg hm (by decide +kernel) ha (he := he)
theorem a_sortedN (hg : Gl X "sorted") (hm : X.mg "sorted" = none) (ha : PA X [e] (cA X.kx W t)) (he : starEach [e] X.env = (false, eval e X.env) :: starEach [] X.env := by rfl) : PE X (.Call (.Name "sorted" p) [e] [] pos) (cE X.kx W (aCB (bSortedN nw) t)) := a_callB cr_sortedI (bSorted_ok.imp (bSortedN_imp hn)) hg hm (by decide +kernel) ha (he := he)
end

/-! ### stops: what stands behind a lock is not looked into -/
inductive Lk {α : Type} (a : α) : Type
  | mk
/-- an exception's wish, put apart -/
def pxA (px : PX) (ρ : Sl) : Addr → Led → Prop := fun c L => px c ρ L
def callA (asp : ASp) (ds : List DV) (L : Led) (P : PD) (R : Addr → Led → Prop) (_ : Lk P) (_ : Lk R) : Prop := asp ds L P R
def forL (items : List DV) (stay : Led → Prop) (g : AG) (tb : AS) (AD : AEnds) (_ : Lk AD) (ρ : Sl) (L : Led) : Prop := ∃ Pv : Nat → Sl → Led → Prop, Pv 0 ρ L ∧ (∀ i ρ' L', Pv i ρ' L' → stay L') ∧
  (∀ i d ρ' L', items[i]? = some d → Pv i ρ' L' → g d ρ' L' fun ρ2 L2 => tb { AD with nx := Pv (i + 1), ct := Pv (i + 1), bk := AD.nx } ρ2 L2) ∧ ∀ ρ' L', Pv items.length ρ' L' → AD.nx ρ' L'
def lcL (nw : NW) (items : List DV) (stay : Led → Prop) (g : AG) (tt : AT) (te : AE) (vs : List Nat) (ρ : Sl) (L : Led) (P : PD) (_ : Lk P) : Prop := items.length < sizeLine ∧ ∃ Pv : Nat → List DV → Led → Prop, Pv 0 [] L ∧ (∀ i acc L', Pv i acc L' → stay L' ∧ acc.length ≤ i) ∧
  (∀ i d acc L', items[i]? = some d → Pv i acc L' → g d (wipeA ρ vs) L' fun ρ2 L2 => tt ρ2 L2 (fun b L3 => (b = true → te ρ2 L3 (fun y L4 => Pv (i + 1) (acc ++ [y]) L4) noPX) ∧ (b = false → Pv (i + 1) acc L3)) noPX) ∧ ∀ acc L', Pv items.length acc L' → nw acc L' P
def whileL (c : AT) (tb : AS) (AD : AEnds) (_ : Lk AD) (ρ : Sl) (L : Led) : Prop := aWhile c tb AD ρ L
def raiseL (C : Addr) (AD : AEnds) (_ : Lk AD) (ρ : Sl) (L : Led) : Prop := ∃ L2, Sub L2 L ∧ AD.px C ρ L2
def ghL (k : Kx) (u : AS) (AD : AEnds) (_ : Lk AD) (ρ : Sl) (L : Led) : Prop := ∃ ρ2 L2, FrzS k ρ L ρ2 L2 ∧ u AD ρ2 L2
def fldA (f : Str) (j : Nat) (x : DV) (L : Led) (P : PD) (_ : Lk P) : Prop := withI L x fun _ ks ds => ks[j]? = some f ∧ ∃ d, ds[j]? = some d ∧ P d L
def wLA (L : Led) (x : DV) (q : List DV → Prop) (_ : Lk q) : Prop := withL L x q
def wSA (L : Led) (x : DV) (q : List DV → Prop) (_ : Lk q) : Prop := withSq L x q
def isCA (L : Led) (x : DV) (C : Addr) (q : Prop) (_ : Lk q) : Prop := isC L x C q
def seqA (x : DV) (L : Led) (P : List DV → (Led → Prop) → Led → Prop) (_ : Lk P) : Prop := seqI x L P
def newA (ds : List DV) (L : Led) (P : PD) (_ : Lk P) : Prop := newL ds L P
def eqA (n : Bool) (x y : DV) (L : Led) (P : PD) (_ : Lk P) : Prop := oEqN n x y L P
def inA (n : Bool) (x y : DV) (L : Led) (P : PD) (_ : Lk P) : Prop := oIn n x y L P
def ixA (ds : List DV) (i : Int) (L : Led) (P : PD) (_ : Lk P) : Prop := ∃ d, atI ds i = some d ∧ P d L
def frzA (k : Kx) (d : DV) (L : Led) (P : PD) (_ : Lk P) : Prop := FrzP k d L P
def isiA (K : PySem.W.Frag) (ds : List DV) (L : Led) (P : PD) (_ : Lk P) : Prop := bIsi K ds L P
def truA (d : DV) (L : Led) (q : Bool → Prop) (_ : Lk q) : Prop := truD d L q

theorem av_0 {d : DV} {ρ : Sl} {L : Led} {P : PD} {px : PX} : aVar 0 (some d :: ρ) L P px = P d L := (rfl)
theorem sl_0 {d v : Option DV} {ρ : Sl} : List.set (d :: ρ) 0 v = v :: ρ := (rfl)
theorem av_1 {x0 : Option DV} {d : DV} {ρ : Sl} {L : Led} {P : PD} {px : PX} : aVar 1 (x0 :: some d :: ρ) L P px = P d L := (rfl)
theorem sl_1 {x0 : Option DV} {d v : Option DV} {ρ : Sl} : List.set (x0 :: d :: ρ) 1 v = x0 :: v :: ρ := (rfl)
theorem av_2 {x0 x1 : Option DV} {d : DV} {ρ : Sl} {L : Led} {P : PD} {px : PX} : aVar 2 (x0 :: x1 :: some d :: ρ) L P px = P d L := (rfl)
theorem sl_2 {x0 x1 : Option DV} {d v : Option DV} {ρ : Sl} : List.set (x0 :: x1 :: d :: ρ) 2 v = x0 :: x1 :: v :: ρ := (rfl)
theorem av_3 {x0 x1 x2 : Option DV} {d : DV} {ρ : Sl} {L : Led} {P : PD} {px : PX} : aVar 3 (x0 :: x1 :: x2 :: some d :: ρ) L P px = P d L := (rfl)
theorem sl_3 {x0 x1 x2 : Option DV} {d v : Option DV} {ρ : Sl} : List.set (x0 :: x1 :: x2 :: d :: ρ) 3 v = x0 :: x1 :: x2 :: v :: ρ := (rfl)
theorem av_4 {x0 x1 x2 x3 : Option DV} {d : DV} {ρ : Sl} {L : Led} {P : PD} {px : PX} : aVar 4 (x0 :: x1 :: x2 :: x3 :: some d :: ρ) L P px = P d L := (rfl)
theorem sl_4 {x0 x1 x2 x3 : Option DV} {d v : Option DV} {ρ : Sl} : List.set (x0 :: x1 :: x2 :: x3 :: d :: ρ) 4 v = x0 :: x1 :: x2 :: x3 :: v :: ρ := (rfl)
theorem av_5 {x0 x1 x2 x3 x4 : Option DV} {d : DV} {ρ : Sl} {L : Led} {P : PD} {px : PX} : aVar 5 (x0 :: x1 :: x2 :: x3 :: x4 :: some d :: ρ) L P px = P d L := (rfl)
theorem sl_5 {x0 x1 x2 x3 x4 : Option DV} {d v : Option DV} {ρ : Sl} : List.set (x0 :: x1 :: x2 :: x3 :: x4 :: d :: ρ) 5 v = x0 :: x1 :: x2 :: x3 :: x4 :: v :: ρ := (rfl)
theorem av_6 {x0 x1 x2 x3 x4 x5 : Option DV} {d : DV} {ρ : Sl} {L : Led} {P : PD} {px : PX} : aVar 6 (x0 :: x1 :: x2 :: x3 :: x4 :: x5 :: some d :: ρ) L P px = P d L := (rfl)
theorem sl_6 {x0 x1 x2 x3 x4 x5 : Option DV} {d v : Option DV} {ρ : Sl} : List.set (x0 :: x1 :: x2 :: x3 :: x4 :: x5 :: d :: ρ) 6 v = x0 :: x1 :: x2 :: x3 :: x4 :: x5 :: v :: ρ := (rfl)
theorem av_7 {x0 x1 x2 x3 x4 x5 x6 : Option DV} {d : DV} {ρ : Sl} {L : Led} {P : PD} {px : PX} : aVar 7 (x0 :: x1 :: x2 :: x3 :: x4 :: x5 :: x6 :: some d :: ρ) L P px = P d L := (rfl)
theorem sl_7 {x0 x1 x2 x3 x4 x5 x6 : Option DV} {d v : Option DV} {ρ : Sl} : List.set (x0 :: x1 :: x2 :: x3 :: x4 :: x5 :: x6 :: d :: ρ) 7 v = x0 :: x1 :: x2 :: x3 :: x4 :: x5 :: x6 :: v :: ρ := (rfl)
theorem av_8 {x0 x1 x2 x3 x4 x5 x6 x7 : Option DV} {d : DV} {ρ : Sl} {L : Led} {P : PD} {px : PX} : aVar 8 (x0 :: x1 :: x2 :: x3 :: x4 :: x5 :: x6 :: x7 :: some d :: ρ) L P px = P d L := (rfl)
theorem sl_8 {x0 x1 x2 x3 x4 x5 x6 x7 : Option DV} {d v : Option DV} {ρ : Sl} : List.set (x0 :: x1 :: x2 :: x3 :: x4 :: x5 :: x6 :: x7 :: d :: ρ) 8 v = x0 :: x1 :: x2 :: x3 :: x4 :: x5 :: x6 :: x7 :: v :: ρ := (rfl)
theorem av_9 {x0 x1 x2 x3 x4 x5 x6 x7 x8 : Option DV} {d : DV} {ρ : Sl} {L : Led} {P : PD} {px : PX} : aVar 9 (x0 :: x1 :: x2 :: x3 :: x4 :: x5 :: x6 :: x7 :: x8 :: some d :: ρ) L P px = P d L := (rfl)
theorem sl_9 {x0 x1 x2 x3 x4 x5 x6 x7 x8 : Option DV} {d v : Option DV} {ρ : Sl} : List.set (x0 :: x1 :: x2 :: x3 :: x4 :: x5 :: x6 :: x7 :: x8 :: d :: ρ) 9 v = x0 :: x1 :: x2 :: x3 :: x4 :: x5 :: x6 :: x7 :: x8 :: v :: ρ := (rfl)
theorem av_10 {x0 x1 x2 x3 x4 x5 x6 x7 x8 x9 : Option DV} {d : DV} {ρ : Sl} {L : Led} {P : PD} {px : PX} : aVar 10 (x0 :: x1 :: x2 :: x3 :: x4 :: x5 :: x6 :: x7 :: x8 :: x9 :: some d :: ρ) L P px = P d L := (rfl)
theorem sl_10 {x0 x1 x2 x3 x4 x5 x6 x7 x8 x9 : Option DV} {d v : Option DV} {ρ : Sl} : List.set (x0 :: x1 :: x2 :: x3 :: x4 :: x5 :: x6 :: x7 :: x8 :: x9 :: d :: ρ) 10 v = x0 :: x1 :: x2 :: x3 :: x4 :: x5 :: x6 :: x7 :: x8 :: x9 :: v :: ρ := (rfl)
theorem av_11 {x0 x1 x2 x3 x4 x5 x6 x7 x8 x9 x10 : Option DV} {d : DV} {ρ : Sl} {L : Led} {P : PD} {px : PX} : aVar 11 (x0 :: x1 :: x2 :: x3 :: x4 :: x5 :: x6 :: x7 :: x8 :: x9 :: x10 :: some d :: ρ) L P px = P d L := (rfl)
theorem sl_11 {x0 x1 x2 x3 x4 x5 x6 x7 x8 x9 x10 : Option DV} {d v : Option DV} {ρ : Sl} : List.set (x0 :: x1 :: x2 :: x3 :: x4 :: x5 :: x6 :: x7 :: x8 :: x9 :: x10 :: d :: ρ) 11 v = x0 :: x1 :: x2 :: x3 :: x4 :: x5 :: x6 :: x7 :: x8 :: x9 :: x10 :: v :: ρ := (rfl)
theorem av_12 {x0 x1 x2 x3 x4 x5 x6 x7 x8 x9 x10 x11 : Option DV} {d : DV} {ρ : Sl} {L : Led} {P : PD} {px : PX} : aVar 12 (x0 :: x1 :: x2 :: x3 :: x4 :: x5 :: x6 :: x7 :: x8 :: x9 :: x10 :: x11 :: some d :: ρ) L P px = P d L := (rfl)
theorem sl_12 {x0 x1 x2 x3 x4 x5 x6 x7 x8 x9 x10 x11 : Option DV} {d v : Option DV} {ρ : Sl} : List.set (x0 :: x1 :: x2 :: x3 :: x4 :: x5 :: x6 :: x7 :: x8 :: x9 :: x10 :: x11 :: d :: ρ) 12 v = x0 :: x1 :: x2 :: x3 :: x4 :: x5 :: x6 :: x7 :: x8 :: x9 :: x10 :: x11 :: v :: ρ := (rfl)
theorem av_13 {x0 x1 x2 x3 x4 x5 x6 x7 x8 x9 x10 x11 x12 : Option DV} {d : DV} {ρ : Sl} {L : Led} {P : PD} {px : PX} : aVar 13 (x0 :: x1 :: x2 :: x3 :: x4 :: x5 :: x6 :: x7 :: x8 :: x9 :: x10 :: x11 :: x12 :: some d :: ρ) L P px = P d L := (rfl)
theorem sl_13 {x0 x1 x2 x3 x4 x5 x6 x7 x8 x9 x10 x11 x12 : Option DV} {d v : Option DV} {ρ : Sl} : List.set (x0 :: x1 :: x2 :: x3 :: x4 :: x5 :: x6 :: x7 :: x8 :: x9 :: x10 :: x11 :: x12 :: d :: ρ) 13 v = x0 :: x1 :: x2 :: x3 :: x4 :: x5 :: x6 :: x7 :: x8 :: x9 :: x10 :: x11 :: x12 :: v :: ρ := (rfl)
theorem av_14 {x0 x1 x2 x3 x4 x5 x6 x7 x8 x9 x10 x11 x12 x13 : Option DV} {d : DV} {ρ : Sl} {L : Led} {P : PD} {px : PX} : aVar 14 (x0 :: x1 :: x2 :: x3 :: x4 :: x5 :: x6 :: x7 :: x8 :: x9 :: x10 :: x11 :: x12 :: x13 :: some d :: ρ) L P px = P d L := (rfl)
theorem sl_14 {x0 x1 x2 x3 x4 x5 x6 x7 x8 x9 x10 x11 x12 x13 : Option DV} {d v : Option DV} {ρ : Sl} : List.set (x0 :: x1 :: x2 :: x3 :: x4 :: x5 :: x6 :: x7 :: x8 :: x9 :: x10 :: x11 :: x12 :: x13 :: d :: ρ) 14 v = x0 :: x1 :: x2 :: x3 :: x4 :: x5 :: x6 :: x7 :: x8 :: x9 :: x10 :: x11 :: x12 :: x13 :: v :: ρ := (rfl)
theorem av_15 {x0 x1 x2 x3 x4 x5 x6 x7 x8 x9 x10 x11 x12 x13 x14 : Option DV} {d : DV} {ρ : Sl} {L : Led} {P : PD} {px : PX} : aVar 15 (x0 :: x1 :: x2 :: x3 :: x4 :: x5 :: x6 :: x7 :: x8 :: x9 :: x10 :: x11 :: x12 :: x13 :: x14 :: some d :: ρ) L P px = P d L := (rfl)
theorem sl_15 {x0 x1 x2 x3 x4 x5 x6 x7 x8 x9 x10 x11 x12 x13 x14 : Option DV} {d v : Option DV} {ρ : Sl} : List.set (x0 :: x1 :: x2 :: x3 :: x4 :: x5 :: x6 :: x7 :: x8 :: x9 :: x10 :: x11 :: x12 :: x13 :: x14 :: d :: ρ) 15 v = x0 :: x1 :: x2 :: x3 :: x4 :: x5 :: x6 :: x7 :: x8 :: x9 :: x10 :: x11 :: x12 :: x13 :: x14 :: v :: ρ := (rfl)
theorem st_1_0 : startA 1 [] = [none] := (rfl)
theorem st_1_1 {d0 : DV} : startA 1 [d0] = [some d0] := (rfl)
theorem st_2_0 : startA 2 [] = [none, none] := (rfl)
theorem st_2_1 {d0 : DV} : startA 2 [d0] = [some d0, none] := (rfl)
theorem st_2_2 {d0 d1 : DV} : startA 2 [d0, d1] = [some d0, some d1] := (rfl)
theorem st_3_0 : startA 3 [] = [none, none, none] := (rfl)
theorem st_3_1 {d0 : DV} : startA 3 [d0] = [some d0, none, none] := (rfl)
theorem st_3_2 {d0 d1 : DV} : startA 3 [d0, d1] = [some d0, some d1, none] := (rfl)
theorem st_3_3 {d0 d1 d2 : DV} : startA 3 [d0, d1, d2] = [some d0, some d1, some d2] := (rfl)
theorem st_4_0 : startA 4 [] = [none, none, none, none] := (rfl)
theorem st_4_1 {d0 : DV} : startA 4 [d0] = [some d0, none, none, none] := (rfl)
theorem st_4_2 {d0 d1 : DV} : startA 4 [d0, d1] = [some d0, some d1, none, none] := (rfl)
theorem st_4_3 {d0 d1 d2 : DV} : startA 4 [d0, d1, d2] = [some d0, some d1, some d2, none] := (rfl)
theorem st_4_4 {d0 d1 d2 d3 : DV} : startA 4 [d0, d1, d2, d3] = [some d0, some d1, some d2, some d3] := (rfl)
theorem st_5_0 : startA 5 [] = [none, none, none, none, none] := (rfl)
theorem st_5_1 {d0 : DV} : startA 5 [d0] = [some d0, none, none, none, none] := (rfl)
theorem st_5_2 {d0 d1 : DV} : startA 5 [d0, d1] = [some d0, some d1, none, none, none] := (rfl)
theorem st_5_3 {d0 d1 d2 : DV} : startA 5 [d0, d1, d2] = [some d0, some d1, some d2, none, none] := (rfl)
theorem st_5_4 {d0 d1 d2 d3 : DV} : startA 5 [d0, d1, d2, d3] = [some d0, some d1, some d2, some d3, none] := (rfl)
theorem st_5_5 {d0 d1 d2 d3 d4 : DV} : startA 5 [d0, d1, d2, d3, d4] = [some d0, some d1, some d2, some d3, some d4] := (rfl)
theorem st_6_0 : startA 6 [] = [none, none, none, none, none, none] := (rfl)
theorem st_6_1 {d0 : DV} : startA 6 [d0] = [some d0, none, none, none, none, none] := (rfl)
theorem st_6_2 {d0 d1 : DV} : startA 6 [d0, d1] = [some d0, some d1, none, none, none, none] := (rfl)
theorem st_6_3 {d0 d1 d2 : DV} : startA 6 [d0, d1, d2] = [some d0, some d1, some d2, none, none, none] := (rfl)
theorem st_6_4 {d0 d1 d2 d3 : DV} : startA 6 [d0, d1, d2, d3] = [some d0, some d1, some d2, some d3, none, none] := (rfl)
theorem st_6_5 {d0 d1 d2 d3 d4 : DV} : startA 6 [d0, d1, d2, d3, d4] = [some d0, some d1, some d2, some d3, some d4, none] := (rfl)
theorem st_6_6 {d0 d1 d2 d3 d4 d5 : DV} : startA 6 [d0, d1, d2, d3, d4, d5] = [some d0, some d1, some d2, some d3, some d4, some d5] := (rfl)
theorem st_7_0 : startA 7 [] = [none, none, none, none, none, none, none] := (rfl)
theorem st_7_1 {d0 : DV} : startA 7 [d0] = [some d0, none, none, none, none, none, none] := (rfl)
theorem st_7_2 {d0 d1 : DV} : startA 7 [d0, d1] = [some d0, some d1, none, none, none, none, none] := (rfl)
theorem st_7_3 {d0 d1 d2 : DV} : startA 7 [d0, d1, d2] = [some d0, some d1, some d2, none, none, none, none] := (rfl)
theorem st_7_4 {d0 d1 d2 d3 : DV} : startA 7 [d0, d1, d2, d3] = [some d0, some d1, some d2, some d3, none, none, none] := (rfl)
theorem st_7_5 {d0 d1 d2 d3 d4 : DV} : startA 7 [d0, d1, d2, d3, d4] = [some d0, some d1, some d2, some d3, some d4, none, none] := (rfl)
theorem st_7_6 {d0 d1 d2 d3 d4 d5 : DV} : startA 7 [d0, d1, d2, d3, d4, d5] = [some d0, some d1, some d2, some d3, some d4, some d5, none] := (rfl)
theorem st_8_0 : startA 8 [] = [none, none, none, none, none, none, none, none] := (rfl)
theorem st_8_1 {d0 : DV} : startA 8 [d0] = [some d0, none, none, none, none, none, none, none] := (rfl)
theorem st_8_2 {d0 d1 : DV} : startA 8 [d0, d1] = [some d0, some d1, none, none, none, none, none, none] := (rfl)
theorem st_8_3 {d0 d1 d2 : DV} : startA 8 [d0, d1, d2] = [some d0, some d1, some d2, none, none, none, none, none] := (rfl)
theorem st_8_4 {d0 d1 d2 d3 : DV} : startA 8 [d0, d1, d2, d3] = [some d0, some d1, some d2, some d3, none, none, none, none] := (rfl)
theorem st_8_5 {d0 d1 d2 d3 d4 : DV} : startA 8 [d0, d1, d2, d3, d4] = [some d0, some d1, some d2, some d3, some d4, none, none, none] := (rfl)
theorem st_8_6 {d0 d1 d2 d3 d4 d5 : DV} : startA 8 [d0, d1, d2, d3, d4, d5] = [some d0, some d1, some d2, some d3, some d4, some d5, none, none] := (rfl)
theorem st_9_0 : startA 9 [] = [none, none, none, none, none, none, none, none, none] := (rfl)
theorem st_9_1 {d0 : DV} : startA 9 [d0] = [some d0, none, none, none, none, none, none, none, none] := (rfl)
theorem st_9_2 {d0 d1 : DV} : startA 9 [d0, d1] = [some d0, some d1, none, none, none, none, none, none, none] := (rfl)
theorem st_9_3 {d0 d1 d2 : DV} : startA 9 [d0, d1, d2] = [some d0, some d1, some d2, none, none, none, none, none, none] := (rfl)
theorem st_9_4 {d0 d1 d2 d3 : DV} : startA 9 [d0, d1, d2, d3] = [some d0, some d1, some d2, some d3, none, none, none, none, none] := (rfl)
theorem st_9_5 {d0 d1 d2 d3 d4 : DV} : startA 9 [d0, d1, d2, d3, d4] = [some d0, some d1, some d2, some d3, some d4, none, none, none, none] := (rfl)
theorem st_9_6 {d0 d1 d2 d3 d4 d5 : DV} : startA 9 [d0, d1, d2, d3, d4, d5] = [some d0, some d1, some d2, some d3, some d4, some d5, none, none, none] := (rfl)
theorem st_10_0 : startA 10 [] = [none, none, none, none, none, none, none, none, none, none] := (rfl)
theorem st_10_1 {d0 : DV} : startA 10 [d0] = [some d0, none, none, none, none, none, none, none, none, none] := (rfl)
theorem st_10_2 {d0 d1 : DV} : startA 10 [d0, d1] = [some d0, some d1, none, none, none, none, none, none, none, none] := (rfl)
theorem st_10_3 {d0 d1 d2 : DV} : startA 10 [d0, d1, d2] = [some d0, some d1, some d2, none, none, none, none, none, none, none] := (rfl)
theorem st_10_4 {d0 d1 d2 d3 : DV} : startA 10 [d0, d1, d2, d3] = [some d0, some d1, some d2, some d3, none, none, none, none, none, none] := (rfl)
theorem st_10_5 {d0 d1 d2 d3 d4 : DV} : startA 10 [d0, d1, d2, d3, d4] = [some d0, some d1, some d2, some d3, some d4, none, none, none, none, none] := (rfl)
theorem st_10_6 {d0 d1 d2 d3 d4 d5 : DV} : startA 10 [d0, d1, d2, d3, d4, d5] = [some d0, some d1, some d2, some d3, some d4, some d5, none, none, none, none] := (rfl)
theorem st_11_0 : startA 11 [] = [none, none, none, none, none, none, none, none, none, none, none] := (rfl)
theorem st_11_1 {d0 : DV} : startA 11 [d0] = [some d0, none, none, none, none, none, none, none, none, none, none] := (rfl)
theorem st_11_2 {d0 d1 : DV} : startA 11 [d0, d1] = [some d0, some d1, none, none, none, none, none, none, none, none, none] := (rfl)
theorem st_11_3 {d0 d1 d2 : DV} : startA 11 [d0, d1, d2] = [some d0, some d1, some d2, none, none, none, none, none, none, none, none] := (rfl)
theorem st_11_4 {d0 d1 d2 d3 : DV} : startA 11 [d0, d1, d2, d3] = [some d0, some d1, some d2, some d3, none, none, none, none, none, none, none] := (rfl)
theorem st_11_5 {d0 d1 d2 d3 d4 : DV} : startA 11 [d0, d1, d2, d3, d4] = [some d0, some d1, some d2, some d3, some d4, none, none, none, none, none, none] := (rfl)
theorem st_11_6 {d0 d1 d2 d3 d4 d5 : DV} : startA 11 [d0, d1, d2, d3, d4, d5] = [some d0, some d1, some d2, some d3, some d4, some d5, none, none, none, none, none] := (rfl)
theorem st_12_0 : startA 12 [] = [none, none, none, none, none, none, none, none, none, none, none, none] := (rfl)
theorem st_12_1 {d0 : DV} : startA 12 [d0] = [some d0, none, none, none, none, none, none, none, none, none, none, none] := (rfl)
theorem st_12_2 {d0 d1 : DV} : startA 12 [d0, d1] = [some d0, some d1, none, none, none, none, none, none, none, none, none, none] := (rfl)
theorem st_12_3 {d0 d1 d2 : DV} : startA 12 [d0, d1, d2] = [some d0, some d1, some d2, none, none, none, none, none, none, none, none, none] := (rfl)
theorem st_12_4 {d0 d1 d2 d3 : DV} : startA 12 [d0, d1, d2, d3] = [some d0, some d1, some d2, some d3, none, none, none, none, none, none, none, none] := (rfl)
theorem st_12_5 {d0 d1 d2 d3 d4 : DV} : startA 12 [d0, d1, d2, d3, d4] = [some d0, some d1, some d2, some d3, some d4, none, none, none, none, none, none, none] := (rfl)
theorem st_12_6 {d0 d1 d2 d3 d4 d5 : DV} : startA 12 [d0, d1, d2, d3, d4, d5] = [some d0, some d1, some d2, some d3, some d4, some d5, none, none, none, none, none, none] := (rfl)
theorem st_13_0 : startA 13 [] = [none, none, none, none, none, none, none, none, none, none, none, none, none] := (rfl)
theorem st_13_1 {d0 : DV} : startA 13 [d0] = [some d0, none, none, none, none, none, none, none, none, none, none, none, none] := (rfl)
theorem st_13_2 {d0 d1 : DV} : startA 13 [d0, d1] = [some d0, some d1, none, none, none, none, none, none, none, none, none, none, none] := (rfl)
theorem st_13_3 {d0 d1 d2 : DV} : startA 13 [d0, d1, d2] = [some d0, some d1, some d2, none, none, none, none, none, none, none, none, none, none] := (rfl)
theorem st_13_4 {d0 d1 d2 d3 : DV} : startA 13 [d0, d1, d2, d3] = [some d0, some d1, some d2, some d3, none, none, none, none, none, none, none, none, none] := (rfl)
theorem st_13_5 {d0 d1 d2 d3 d4 : DV} : startA 13 [d0, d1, d2, d3, d4] = [some d0, some d1, some d2, some d3, some d4, none, none, none, none, none, none, none, none] := (rfl)
theorem st_13_6 {d0 d1 d2 d3 d4 d5 : DV} : startA 13 [d0, d1, d2, d3, d4, d5] = [some d0, some d1, some d2, some d3, some d4, some d5, none, none, none, none, none, none, none] := (rfl)
theorem st_14_0 : startA 14 [] = [none, none, none, none, none, none, none, none, none, none, none, none, none, none] := (rfl)
theorem st_14_1 {d0 : DV} : startA 14 [d0] = [some d0, none, none, none, none, none, none, none, none, none, none, none, none, none] := (rfl)
theorem st_14_2 {d0 d1 : DV} : startA 14 [d0, d1] = [some d0, some d1, none, none, none, none, none, none, none, none, none, none, none, none] := (rfl)
theorem st_14_3 {d0 d1 d2 : DV} : startA 14 [d0, d1, d2] = [some d0, some d1, some d2, none, none, none, none, none, none, none, none, none, none, none] := (rfl)
theorem st_14_4 {d0 d1 d2 d3 : DV} : startA 14 [d0, d1, d2, d3] = [some d0, some d1, some d2, some d3, none, none, none, none, none, none, none, none, none, none] := (rfl)
theorem st_14_5 {d0 d1 d2 d3 d4 : DV} : startA 14 [d0, d1, d2, d3, d4] = [some d0, some d1, some d2, some d3, some d4, none, none, none, none, none, none, none, none, none] := (rfl)
theorem st_14_6 {d0 d1 d2 d3 d4 d5 : DV} : startA 14 [d0, d1, d2, d3, d4, d5] = [some d0, some d1, some d2, some d3, some d4, some d5, none, none, none, none, none, none, none, none] := (rfl)
theorem st_15_0 : startA 15 [] = [none, none, none, none, none, none, none, none, none, none, none, none, none, none, none] := (rfl)
theorem st_15_1 {d0 : DV} : startA 15 [d0] = [some d0, none, none, none, none, none, none, none, none, none, none, none, none, none, none] := (rfl)
theorem st_15_2 {d0 d1 : DV} : startA 15 [d0, d1] = [some d0, some d1, none, none, none, none, none, none, none, none, none, none, none, none, none] := (rfl)
theorem st_15_3 {d0 d1 d2 : DV} : startA 15 [d0, d1, d2] = [some d0, some d1, some d2, none, none, none, none, none, none, none, none, none, none, none, none] := (rfl)
theorem st_15_4 {d0 d1 d2 d3 : DV} : startA 15 [d0, d1, d2, d3] = [some d0, some d1, some d2, some d3, none, none, none, none, none, none, none, none, none, none, none] := (rfl)
theorem st_15_5 {d0 d1 d2 d3 d4 : DV} : startA 15 [d0, d1, d2, d3, d4] = [some d0, some d1, some d2, some d3, some d4, none, none, none, none, none, none, none, none, none, none] := (rfl)
theorem st_15_6 {d0 d1 d2 d3 d4 d5 : DV} : startA 15 [d0, d1, d2, d3, d4, d5] = [some d0, some d1, some d2, some d3, some d4, some d5, none, none, none, none, none, none, none, none, none] := (rfl)
theorem st_16_0 : startA 16 [] = [none, none, none, none, none, none, none, none, none, none, none, none, none, none, none, none] := (rfl)
theorem st_16_1 {d0 : DV} : startA 16 [d0] = [some d0, none, none, none, none, none, none, none, none, none, none, none, none, none, none, none] := (rfl)
theorem st_16_2 {d0 d1 : DV} : startA 16 [d0, d1] = [some d0, some d1, none, none, none, none, none, none, none, none, none, none, none, none, none, none] := (rfl)
theorem st_16_3 {d0 d1 d2 : DV} : startA 16 [d0, d1, d2] = [some d0, some d1, some d2, none, none, none, none, none, none, none, none, none, none, none, none, none] := (rfl)
theorem st_16_4 {d0 d1 d2 d3 : DV} : startA 16 [d0, d1, d2, d3] = [some d0, some d1, some d2, some d3, none, none, none, none, none, none, none, none, none, none, none, none] := (rfl)
theorem st_16_5 {d0 d1 d2 d3 d4 : DV} : startA 16 [d0, d1, d2, d3, d4] = [some d0, some d1, some d2, some d3, some d4, none, none, none, none, none, none, none, none, none, none, none] := (rfl)
theorem st_16_6 {d0 d1 d2 d3 d4 d5 : DV} : startA 16 [d0, d1, d2, d3, d4, d5] = [some d0, some d1, some d2, some d3, some d4, some d5, none, none, none, none, none, none, none, none, none, none] := (rfl)

section
variable {ρ : Sl} {L : Led} {P : PD} {px : PX} {AD : AEnds} {nx_ bk_ ct_ : Sl → Led → Prop} {rt_ : PD} {px_ : PX} {ta tb tc te : AE} {t u : AS} {c : AT} {ro ro' : AR2} {Pb : Bool → Led → Prop} {Pa : List DV → Led → Prop} {nw : NW}
theorem xSeq : aSeq t u ⟨nx_, rt_, bk_, ct_, px_⟩ ρ L = t ⟨u ⟨nx_, rt_, bk_, ct_, px_⟩, rt_, bk_, ct_, px_⟩ ρ L := (rfl)
theorem xNext : aNext ⟨nx_, rt_, bk_, ct_, px_⟩ ρ L = nx_ ρ L := (rfl)
section
variable {n b c : Sl → Led → Prop} {r : PD} {p : PX} {d : DV} {C : Addr}
theorem yNx : AEnds.nx ⟨n, r, b, c, p⟩ ρ L = n ρ L := (rfl)
theorem yBk : AEnds.bk ⟨n, r, b, c, p⟩ ρ L = b ρ L := (rfl)
theorem yCt : AEnds.ct ⟨n, r, b, c, p⟩ ρ L = c ρ L := (rfl)
theorem yRt : AEnds.rt ⟨n, r, b, c, p⟩ d L = r d L := (rfl)
theorem yPx : AEnds.px ⟨n, r, b, c, p⟩ C ρ L = p C ρ L := (rfl)
end
theorem xBrk : aBrk ⟨nx_, rt_, bk_, ct_, px_⟩ ρ L = bk_ ρ L := (rfl)
theorem xCnt : aCnt ⟨nx_, rt_, bk_, ct_, px_⟩ ρ L = ct_ ρ L := (rfl)
theorem xDrop : aDrop te ⟨nx_, rt_, bk_, ct_, px_⟩ ρ L = te ρ L (fun _ => nx_ ρ) px_ := (rfl)
theorem xRet : aRet te ⟨nx_, rt_, bk_, ct_, px_⟩ ρ L = te ρ L rt_ px_ := (rfl)
theorem xRetN : aRetN ⟨nx_, rt_, bk_, ct_, px_⟩ ρ L = rt_ .non L := (rfl)
theorem xIf : aIf c t u ⟨nx_, rt_, bk_, ct_, px_⟩ ρ L = c ρ L (fun b L1 => (b = true → t ⟨nx_, rt_, bk_, ct_, px_⟩ ρ L1) ∧ (b = false → u ⟨nx_, rt_, bk_, ct_, px_⟩ ρ L1)) px_ := (rfl)
theorem xSet {i : Nat} : aSet i te ⟨nx_, rt_, bk_, ct_, px_⟩ ρ L = te ρ L (fun d => nx_ (ρ.set i (some d))) px_ := (rfl)
theorem xRaise {C : Addr} : aRaise C ⟨nx_, rt_, bk_, ct_, px_⟩ ρ L = raiseL C ⟨nx_, rt_, bk_, ct_, px_⟩ .mk ρ L := (rfl)
theorem xGh {k : Kx} : aGh k t ⟨nx_, rt_, bk_, ct_, px_⟩ ρ L = ghL k t ⟨nx_, rt_, bk_, ct_, px_⟩ .mk ρ L := (rfl)
theorem xFrz {k : Kx} : aFrz k te ρ L P px = te ρ L (fun d L1 => frzA k d L1 P .mk) px := (rfl)
theorem xC {d : DV} : aC d ρ L P px = P d L := (rfl)
theorem xBin : aBin ro ta tb ρ L P px = ta ρ L (fun x L1 => tb ρ L1 (fun y L2 => ro x y L2 P) px) px := (rfl)
def tstA (d : DV) (L : Led) (P : Bool → Led → Prop) : Prop := match d with
  | .bl b => P b L
  | _ => False
theorem tstA_bl {b : Bool} : tstA (.bl b) L Pb = Pb b L := (rfl)
theorem xTest : aTest te ρ L Pb px = te ρ L (fun d L' => tstA d L' Pb) px := (rfl)
theorem xChain : aChain ro ro' ta tb tc ρ L P px = ta ρ L (fun x L1 => tb ρ L1 (fun y L2 => ro x y L2 (fun z L3 => tstA z L3 fun b L3 => (b = true → tc ρ L3 (fun w L4 => ro' y w L4 P) px) ∧ (b = false → P (.bl false) L3))) px) px := (rfl)
theorem xAnd {c c' : AT} : aAnd c c' ρ L Pb px = c ρ L (fun b L1 => (b = true → c' ρ L1 Pb px) ∧ (b = false → Pb false L1)) px := (rfl)
theorem xOr {c c' : AT} : aOr c c' ρ L Pb px = c ρ L (fun b L1 => (b = true → Pb true L1) ∧ (b = false → c' ρ L1 Pb px)) px := (rfl)
theorem xNot {c : AT} : aNot c ρ L Pb px = c ρ L (fun b => Pb (!b)) px := (rfl)
theorem xIfE {c : AT} : aIfE c ta tb ρ L P px = c ρ L (fun b L1 => (b = true → ta ρ L1 P px) ∧ (b = false → tb ρ L1 P px)) px := (rfl)
theorem xAndV : aAndV ta tb ρ L P px = ta ρ L (fun d L1 => tstA d L1 fun b L1 => (b = true → tb ρ L1 P px) ∧ (b = false → P (.bl false) L1)) px := (rfl)
theorem xOrV : aOrV ta tb ρ L P px = ta ρ L (fun d L1 => tstA d L1 fun b L1 => (b = true → P (.bl true) L1) ∧ (b = false → tb ρ L1 P px)) px := (rfl)
theorem xNotB : aNotB te ρ L P px = te ρ L (fun d L1 => tstA d L1 fun b => P (.bl (!b))) px := (rfl)
theorem xNotV {c : AT} : aNotV c ρ L P px = c ρ L (fun b => P (.bl (!b))) px := (rfl)
def negA (d : DV) (L : Led) (P : PD) : Prop := match d with
  | .int i => P (.int (-i)) L
  | _ => False
theorem negA_int {i : Int} : negA (.int i) L P = P (.int (-i)) L := (rfl)
theorem xNeg : aNeg te ρ L P px = te ρ L (fun d L1 => negA d L1 P) px := (rfl)
theorem xNil : aNil ρ L Pa px = Pa [] L := (rfl)
theorem xCons {tr : AA} : aCons ta tr ρ L Pa px = ta ρ L (fun x L1 => tr ρ L1 (fun xs => Pa (x :: xs)) px) px := (rfl)
theorem xTup {tr : AA} : aTup tr ρ L P px = tr ρ L (fun ds L1 => few ds 200 (P (.tup ds) L1)) px := (rfl)
theorem xLst {tr : AA} : aLst tr ρ L P px = tr ρ L (fun ds L1 => few ds 200 (newL ds L1 P)) px := (rfl)
theorem xLstN {tr : AA} : aLstN nw tr ρ L P px = tr ρ L (fun ds L1 => few ds 200 (nw ds L1 P)) px := (rfl)
theorem few_nil {n : Nat} {q : Prop} : few [] n q = q := (rfl)
theorem xCB {ro : AC} {tr : AA} : aCB ro tr ρ L P px = tr ρ L (fun ds L1 => ro ds L1 P) px := (rfl)
theorem xTru : aTru te ρ L Pb px = te ρ L (fun d L' => truD d L' fun b => Pb b L') px := (rfl)
theorem xSl {tl th : AO} : aSl te tl th ρ L P px = te ρ L (fun x L1 => tl ρ L1 (fun lo L2 => th ρ L2 (fun hi L3 => oSl x lo hi L3 P) px) px) px := (rfl)
theorem xSlN {tl th : AO} : aSlN nw te tl th ρ L P px = te ρ L (fun x L1 => tl ρ L1 (fun lo L2 => th ρ L2 (fun hi L3 => oSlN nw x lo hi L3 P) px) px) px := (rfl)
theorem xNoPart {Po : Option Int → Led → Prop} : aNoPart ρ L Po px = Po none L := (rfl)
def partA (d : DV) (L : Led) (P : Option Int → Led → Prop) : Prop := match d with
  | .int i => P (some i) L
  | _ => False
theorem partA_int {i : Int} {Po : Option Int → Led → Prop} : partA (.int i) L Po = Po (some i) L := (rfl)
theorem xPart {Po : Option Int → Led → Prop} : aPart te ρ L Po px = te ρ L (fun x L1 => partA x L1 Po) px := (rfl)
theorem xRev : aRev te ρ L P px = te ρ L (fun x L1 => withL L1 x fun ds => newL ds.reverse L1 P) px := (rfl)
theorem xRevN : aRevN nw te ρ L P px = te ρ L (fun x L1 => withL L1 x fun ds => nw ds.reverse L1 P) px := (rfl)
theorem xFld {f : Str} {j : Nat} : aFld f j te ρ L P px = te ρ L (fun x L1 => fldA f j x L1 P .mk) px := (rfl)
theorem xCall {asp : ASp} {dds : List DV} {tr : AA} : aCall asp dds tr ρ L P px = tr ρ L (fun ds L1 => callA asp (ds ++ dds) L1 P (pxA px ρ) .mk .mk) px := (rfl)
theorem xMeth {C : Addr} {asp : ASp} {dds : List DV} {tr : AA} : aMeth C asp dds te tr ρ L P px = te ρ L (fun x L1 => isC L1 x C (tr ρ L1 (fun ds L2 => callA asp (x :: (ds ++ dds)) L2 P (pxA px ρ) .mk .mk) px)) px := (rfl)
theorem xProp {C : Addr} {asp : ASp} : aProp C asp te ρ L P px = te ρ L (fun x L1 => isC L1 x C (callA asp [x] L1 P (fun _ _ => False) .mk .mk)) px := (rfl)
theorem xMake {mk : ASp} {tr : AA} : aMake mk tr ρ L P px = tr ρ L (fun ds L1 => callA mk ds L1 P (pxA px ρ) .mk .mk) px := (rfl)
theorem xOpM {C : Addr} {asp : ASp} : aOpM C asp ta tb ρ L P px = ta ρ L (fun x L1 => tb ρ L1 (fun y L2 => isC L2 x C (isC L2 y C (callA asp [x, y] L2 P (pxA px ρ) .mk .mk))) px) px := (rfl)
theorem xUnM {C : Addr} {asp : ASp} : aUnM C asp ta ρ L P px = ta ρ L (fun x L1 => isC L1 x C (callA asp [x] L1 P (pxA px ρ) .mk .mk)) px := (rfl)
theorem xForS {te : AE} {g : AG} {tb : AS} : aFor (iSeq te) g tb ⟨nx_, rt_, bk_, ct_, px_⟩ ρ L = te ρ L (fun x L1 => seqI x L1 fun items stay => forL items stay g tb ⟨nx_, rt_, bk_, ct_, px_⟩ .mk ρ) px_ := (rfl)
theorem xForR {r} {tr : AA} {g : AG} {tb : AS} : aFor (iRng r tr) g tb ⟨nx_, rt_, bk_, ct_, px_⟩ ρ L = tr ρ L (fun ds L1 => r ds L1 fun items stay => forL items stay g tb ⟨nx_, rt_, bk_, ct_, px_⟩ .mk ρ) px_ := (rfl)
def sigA (d : DV) (L : Led) (P : List DV → (Led → Prop) → Led → Prop) : Prop := match d with
  | .str z => P (signs z) (fun _ => True) L
  | _ => False
theorem sigA_str {z : Str} {Pi : List DV → (Led → Prop) → Led → Prop} : sigA (.str z) L Pi = Pi (signs z) (fun _ => True) L := (rfl)
theorem xForG {g : AG} {tb : AS} : aFor (iSig te) g tb ⟨nx_, rt_, bk_, ct_, px_⟩ ρ L = te ρ L (fun x L1 => sigA x L1 fun items stay => forL items stay g tb ⟨nx_, rt_, bk_, ct_, px_⟩ .mk ρ) px_ := (rfl)
def enuA (ds : List DV) (L : Led) (P : List DV → (Led → Prop) → Led → Prop) (_ : Lk P) : Prop := match ds with
  | [.lst xs] => P (enumD xs) (fun _ => True) L
  | [.tup xs] => P (enumD xs) (fun _ => True) L
  | [.ref a] => ∃ xs, L a = some (.lst xs) ∧ P (enumD xs) (fun L' => L' a = some (.lst xs)) L
  | _ => False
theorem enuA_lst {xs : List DV} {Pi : List DV → (Led → Prop) → Led → Prop} : enuA [.lst xs] L Pi .mk = Pi (enumD xs) (fun _ => True) L := (rfl)
theorem enuA_tup {xs : List DV} {Pi : List DV → (Led → Prop) → Led → Prop} : enuA [.tup xs] L Pi .mk = Pi (enumD xs) (fun _ => True) L := (rfl)
theorem xForE {tr : AA} {g : AG} {tb : AS} : aFor (iEnB tr) g tb ⟨nx_, rt_, bk_, ct_, px_⟩ ρ L = tr ρ L (fun ds L1 => enuA ds L1 (fun items stay => forL items stay g tb ⟨nx_, rt_, bk_, ct_, px_⟩ .mk ρ) .mk) px_ := (rfl)
section
variable {te2 : AE} {g : AG} {tt : AT} {vs : List Nat}
theorem xLcS : aLcN nw (iSeq te) g tt te2 vs ρ L P px = te ρ L (fun x L1 => seqI x L1 fun items stay L2 => lcL nw items stay g tt te2 vs ρ L2 P .mk) px := (rfl)
theorem xLcR {r} {tr : AA} : aLcN nw (iRng r tr) g tt te2 vs ρ L P px = tr ρ L (fun ds L1 => r ds L1 fun items stay L2 => lcL nw items stay g tt te2 vs ρ L2 P .mk) px := (rfl)
theorem xLcG : aLcN nw (iSig te) g tt te2 vs ρ L P px = te ρ L (fun x L1 => sigA x L1 fun items stay L2 => lcL nw items stay g tt te2 vs ρ L2 P .mk) px := (rfl)
theorem xLcE {tr : AA} : aLcN nw (iEnB tr) g tt te2 vs ρ L P px = tr ρ L (fun ds L1 => enuA ds L1 (fun items stay L2 => lcL nw items stay g tt te2 vs ρ L2 P .mk) .mk) px := (rfl)
end
theorem xWhile {c : AT} {tb : AS} : aWhile c tb ⟨nx_, rt_, bk_, ct_, px_⟩ ρ L = whileL c tb ⟨nx_, rt_, bk_, ct_, px_⟩ .mk ρ L := (rfl)
theorem xTryO {K : PySem.W.Frag} {cc : Value} {su : Addr → AS} {tb : AS} : aTryO K cc su tb ⟨nx_, rt_, bk_, ct_, px_⟩ ρ L = tb ⟨nx_, rt_, bk_, ct_, fun c ρ' L' => ∃ b, Caught K c cc b ∧ (b = true → su c ⟨nx_, rt_, bk_, ct_, noPX⟩ ρ' L') ∧ (b = false → px_ c ρ' L')⟩ ρ L := (rfl)
theorem xAsgT {js : List Nat} : aAsgT te js ⟨nx_, rt_, bk_, ct_, px_⟩ ρ L = te ρ L (fun d L1 => gT js d ρ L1 nx_) px_ := (rfl)
theorem xSetIx {to ti tv : AE} : aSetIx to ti tv ⟨nx_, rt_, bk_, ct_, px_⟩ ρ L = tv ρ L (fun d L1 => to ρ L1 (fun x L2 => ti ρ L2 (fun y L3 => oSetL x y d L3 (nx_ ρ)) px_) px_) px_ := (rfl)
theorem xgN {i : Nat} {d : DV} {Q : Sl → Led → Prop} : gN i d ρ L Q = Q (ρ.set i (some d)) L := (rfl)
theorem xgT2 {i j : Nat} {d e : DV} {Q : Sl → Led → Prop} : gT [i, j] (.tup [d, e]) ρ L Q = Q ((ρ.set i (some d)).set j (some e)) L := by
  unfold gT; simp [setsA]
theorem xgT3 {i j l : Nat} {d e f : DV} {Q : Sl → Led → Prop} : gT [i, j, l] (.tup [d, e, f]) ρ L Q = Q (((ρ.set i (some d)).set j (some e)).set l (some f)) L := by
  unfold gT; simp [setsA]
theorem wipe0 : wipeA ρ [] = ρ := (rfl)
theorem wipe1 {i : Nat} : wipeA ρ [i] = ρ.set i none := (rfl)
theorem wipe2 {i j : Nat} : wipeA ρ [i, j] = (ρ.set j none).set i none := (rfl)
theorem wipe3 {i j l : Nat} : wipeA ρ [i, j, l] = ((ρ.set l none).set j none).set i none := (rfl)
theorem xYes : aYes ρ L Pb px = Pb true L := (rfl)
/-! operators on told data -/
theorem oI0_ii {g : Int → Int → DV} {i j : Int} : oI0 g (.int i) (.int j) L P = P (g i j) L := (rfl)
theorem oI_ii {C : Int → Int → Prop} {g : Int → Int → DV} {i j : Int} : oI C g (.int i) (.int j) L P = (C i j ∧ P (g i j) L) := (rfl)
theorem oAdd_ii {i j : Int} : oAdd (.int i) (.int j) L P = P (.int (i + j)) L := (rfl)
theorem oAddN_ii {i j : Int} : oAddN nw (.int i) (.int j) L P = P (.int (i + j)) L := (rfl)
theorem oAddN_tt {i j : List DV} : oAddN nw (.tup i) (.tup j) L P = (i.length + j.length ≤ sizeLine ∧ P (.tup (i ++ j)) L) := (rfl)
theorem oAddN_ss {i j : Str} : oAddN nw (.str i) (.str j) L P = (i.length + j.length ≤ sizeLine ∧ P (.str (i ++ j)) L) := (rfl)
theorem oAddN_ll {i j : List DV} : oAddN nw (.lst i) (.lst j) L P = (i.length + j.length ≤ sizeLine ∧ nw (i ++ j) L P) := (rfl)
theorem oAddN_rl {i : Addr} {j : List DV} : oAddN nw (.ref i) (.lst j) L P = withL L (.ref i) fun i => (i.length + j.length ≤ sizeLine ∧ nw (i ++ j) L P) := (rfl)
theorem oAddN_lr {i : List DV} {j : Addr} : oAddN nw (.lst i) (.ref j) L P = withL L (.ref j) fun j => (i.length + j.length ≤ sizeLine ∧ nw (i ++ j) L P) := (rfl)
theorem oAddN_rr {i j : Addr} : oAddN nw (.ref i) (.ref j) L P = withL L (.ref i) fun i => withL L (.ref j) fun j => (i.length + j.length ≤ sizeLine ∧ nw (i ++ j) L P) := (rfl)
theorem oMulN_ii {i j : Int} : oMulN nw (.int i) (.int j) L P = (CMul i j ∧ P (.int (i * j)) L) := (rfl)
theorem oMulN_li {i : List DV} {j : Int} : oMulN nw (.lst i) (.int j) L P = (-(2 ^ 63) ≤ j ∧ j < 2 ^ 63 ∧ i.length * j.toNat ≤ sizeLine ∧ nw (List.replicate j.toNat i).flatten L P) := (rfl)
theorem oMulL_ii {i j : Int} : oMulL (.int i) (.int j) L P = (CMul i j ∧ P (.int (i * j)) L) := (rfl)
theorem newD_eq {ds : List DV} : newD ds L P = P (.lst ds) L := (rfl)
theorem oSlN_tup {ds : List DV} {lo hi : Option Int} : oSlN nw (.tup ds) lo hi L P = P (.tup (cut ds lo hi)) L := (rfl)
theorem oSlN_lst {ds : List DV} {lo hi : Option Int} : oSlN nw (.lst ds) lo hi L P = nw (cut ds lo hi) L P := (rfl)
theorem oSlN_ref {a : Addr} {lo hi : Option Int} : oSlN nw (.ref a) lo hi L P = withL L (.ref a) fun ds => nw (cut ds lo hi) L P := (rfl)
theorem oSlN_str {z : Str} {lo hi : Option Int} : oSlN nw (.str z) lo hi L P = (z.length ≤ sizeLine ∧ P (.str (cutS z lo hi)) L) := (rfl)
theorem oIx_tup {ds : List DV} {i : Int} : oIx (.tup ds) (.int i) L P = ixA ds i L P .mk := (rfl)
theorem oIx_lst {ds : List DV} {i : Int} : oIx (.lst ds) (.int i) L P = ixA ds i L P .mk := (rfl)
theorem oIx_wl {ds : List DV} {i : Int} : oIx (.wl ds) (.int i) L P = ixA ds i L P .mk := (rfl)
theorem oIx_ref {a : Addr} {i : Int} : oIx (.ref a) (.int i) L P = withL L (.ref a) fun ds => ixA ds i L P .mk := (rfl)
theorem ixA_0 {d : DV} {ds : List DV} {lk : Lk P} : ixA (d :: ds) 0 L P lk = P d L := by
  unfold ixA; rw [show atI (d :: ds) 0 = some d from atI_nat (j := 0) rfl]; simp
theorem ixA_1 {d e : DV} {ds : List DV} {lk : Lk P} : ixA (d :: e :: ds) 1 L P lk = P e L := by
  unfold ixA; rw [show atI (d :: e :: ds) 1 = some e from atI_nat (j := 1) rfl]; simp
theorem ixA_2 {d e f : DV} {ds : List DV} {lk : Lk P} : ixA (d :: e :: f :: ds) 2 L P lk = P f L := by
  unfold ixA; rw [show atI (d :: e :: f :: ds) 2 = some f from atI_nat (j := 2) rfl]; simp
theorem ixA_of {ds : List DV} {i : Int} {d : DV} {lk : Lk P} (h : atI ds i = some d) : ixA ds i L P lk = P d L := by
  unfold ixA; rw [h]; simp
theorem ixA_nat {ds : List DV} {j : Nat} {d : DV} {lk : Lk P} (h : ds[j]? = some d) : ixA ds (j : Int) L P lk = P d L := ixA_of (atI_nat h)
theorem ixA_int {ds : List DV} {i : Int} {d : DV} {lk : Lk P} (h0 : 0 ≤ i) (h : ds[i.toNat]? = some d) : ixA ds i L P lk = P d L := by
  have := atI_nat h
  rw [Int.toNat_of_nonneg h0] at this
  exact ixA_of this
theorem oEqN_ii {n : Bool} {i j : Int} : oEqN n (.int i) (.int j) L P = P (.bl (n ^^ decide (i = j))) L := (rfl)
theorem oEqN_ss {n : Bool} {i j : Str} : oEqN n (.str i) (.str j) L P = P (.bl (n ^^ decide (i = j))) L := (rfl)
theorem oEqN_bb {n : Bool} {i j : Bool} : oEqN n (.bl i) (.bl j) L P = P (.bl (n ^^ decide (i = j))) L := (rfl)
theorem oEqN_nn {n : Bool} : oEqN n .non .non L P = P (.bl (n ^^ true)) L := (rfl)
theorem oEqN_ni {n : Bool} {i : Int} : oEqN n .non (.int i) L P = P (.bl (n ^^ false)) L := (rfl)
theorem oEqN_in {n : Bool} {i : Int} : oEqN n (.int i) .non L P = P (.bl (n ^^ false)) L := (rfl)
theorem oEqN_si {n : Bool} {i : Int} {s : Str} : oEqN n (.str s) (.int i) L P = P (.bl (n ^^ false)) L := (rfl)
theorem oEqN_is {n : Bool} {i : Int} {s : Str} : oEqN n (.int i) (.str s) L P = P (.bl (n ^^ false)) L := (rfl)
theorem oIsN_x {n : Bool} {x : DV} : oIsN n x .non L P = P (.bl (n ^^ isN x)) L := (rfl)
theorem isN_non : isN .non = true := (rfl)
theorem isN_int {i : Int} : isN (.int i) = false := (rfl)
theorem isN_tup {i : List DV} : isN (.tup i) = false := (rfl)
theorem isN_lst {i : List DV} : isN (.lst i) = false := (rfl)
theorem isN_str {i : Str} : isN (.str i) = false := (rfl)
theorem isN_ins {C : Addr} {ks : List Str} {ds : List DV} : isN (.ins C ks ds) = false := (rfl)
theorem isN_ref {a : Addr} : isN (.ref a) = false := (rfl)
theorem isN_bl {b : Bool} : isN (.bl b) = false := (rfl)
theorem bInt_i {i : Int} : bInt [.int i] L P = P (.int i) L := (rfl)
theorem bInt_b {b : Bool} : bInt [.bl b] L P = P (.int (if b then 1 else 0)) L := (rfl)
theorem bAbs_i {i : Int} : bAbs [.int i] L P = P (.int (if i < 0 then -i else i)) L := (rfl)
theorem bMax2_i {i j : Int} : bMax2 [.int i, .int j] L P = P (.int (if j > i then j else i)) L := (rfl)
theorem bMin2_i {i j : Int} : bMin2 [.int i, .int j] L P = P (.int (if j < i then j else i)) L := (rfl)
theorem bLen_s {z : Str} : bLen [.str z] L P = (z.length ≤ sizeLine ∧ P (.int (z.length : Nat)) L) := (rfl)
theorem bLen_l {ds : List DV} : bLen [.lst ds] L P = P (.int (ds.length : Nat)) L := (rfl)
theorem bLen_t {ds : List DV} : bLen [.tup ds] L P = P (.int (ds.length : Nat)) L := (rfl)
theorem bLen_w {ds : List DV} : bLen [.wl ds] L P = P (.int (ds.length : Nat)) L := (rfl)
theorem bLen_r {a : Addr} : bLen [.ref a] L P = withL L (.ref a) fun ds => P (.int (ds.length : Nat)) L := (rfl)
theorem bListN_l {ds : List DV} : bListN nw [.lst ds] L P = nw ds L P := (rfl)
theorem bListN_t {ds : List DV} : bListN nw [.tup ds] L P = nw ds L P := (rfl)
theorem bListN_w {ds : List DV} : bListN nw [.wl ds] L P = nw ds L P := (rfl)
theorem bListN_r {a : Addr} : bListN nw [.ref a] L P = withL L (.ref a) fun ds => nw ds L P := (rfl)
theorem bTuple_t {ds : List DV} : bTuple [.tup ds] L P = P (.tup ds) L := (rfl)
theorem bTuple_l {ds : List DV} : bTuple [.lst ds] L P = P (.tup ds) L := (rfl)
theorem bTuple_r {a : Addr} : bTuple [.ref a] L P = withL L (.ref a) fun ds => P (.tup ds) L := (rfl)
theorem bStr_i {i : Int} : bStr [.int i] L P = (i.natAbs.log2 < 1920 ∧ P (.str (toString i)) L) := (rfl)
theorem truD_b {b : Bool} {q : Bool → Prop} : truD (.bl b) L q = q b := (rfl)
theorem truD_n {q : Bool → Prop} : truD .non L q = q false := (rfl)
theorem truD_i {i : Int} {q : Bool → Prop} : truD (.int i) L q = q (i != 0) := (rfl)
theorem truD_l {i : List DV} {q : Bool → Prop} : truD (.lst i) L q = q (!i.isEmpty) := (rfl)
theorem truD_t {i : List DV} {q : Bool → Prop} : truD (.tup i) L q = q (!i.isEmpty) := (rfl)
theorem truD_r {a : Addr} {q : Bool → Prop} : truD (.ref a) L q = withL L (.ref a) fun ds => q (!ds.isEmpty) := (rfl)
theorem seqI_l {xs : List DV} {Pi : List DV → (Led → Prop) → Led → Prop} : seqI (.lst xs) L Pi = Pi xs (fun _ => True) L := (rfl)
theorem seqI_t {xs : List DV} {Pi : List DV → (Led → Prop) → Led → Prop} : seqI (.tup xs) L Pi = Pi xs (fun _ => True) L := (rfl)
theorem seqI_w {xs : List DV} {Pi : List DV → (Led → Prop) → Led → Prop} : seqI (.wl xs) L Pi = Pi xs (fun _ => True) L := (rfl)
theorem rng1_i {j : Int} {Pi : List DV → (Led → Prop) → Led → Prop} : rng1 [.int j] L Pi = ((-(2 ^ 62) ≤ j ∧ j < 2 ^ 62) ∧ Pi (rangeD 0 j.toNat) (fun _ => True) L) := (rfl)
theorem rng2_i {i j : Int} {Pi : List DV → (Led → Prop) → Led → Prop} : rng2 [.int i, .int j] L Pi = ((-(2 ^ 62) ≤ i ∧ i < 2 ^ 62 ∧ -(2 ^ 62) ≤ j ∧ j < 2 ^ 62) ∧ Pi (rangeD i (j - i).toNat) (fun _ => True) L) := (rfl)
theorem rng3_i {i j : Int} {Pi : List DV → (Led → Prop) → Led → Prop} : rng3 [.int i, .int j, .int (-1)] L Pi = ((-(2 ^ 62) ≤ i ∧ i < 2 ^ 62 ∧ -(2 ^ 62) ≤ j ∧ j < 2 ^ 62) ∧ Pi (downD i (i - j).toNat) (fun _ => True) L) := (rfl)
/-! the ledger -/
theorem withL_lst {ds : List DV} {q : List DV → Prop} : withL L (.lst ds) q = q ds := (rfl)
theorem withSq_lst {ds : List DV} {q : List DV → Prop} : withSq L (.lst ds) q = q ds := (rfl)
theorem withSq_tup {ds : List DV} {q : List DV → Prop} : withSq L (.tup ds) q = q ds := (rfl)
theorem withSq_wl {ds : List DV} {q : List DV → Prop} : withSq L (.wl ds) q = q ds := (rfl)
theorem withL_ref {a : Addr} {q : List DV → Prop} : withL L (.ref a) q = wLA L (.ref a) q .mk := (rfl)
theorem withSq_ref {a : Addr} {q : List DV → Prop} : withSq L (.ref a) q = wSA L (.ref a) q .mk := (rfl)
theorem seqI_ref {a : Addr} {Pi : List DV → (Led → Prop) → Led → Prop} : seqI (.ref a) L Pi = seqA (.ref a) L Pi .mk := (rfl)
theorem isC_ref {a C : Addr} {q : Prop} : isC L (.ref a) C q = isCA L (.ref a) C q .mk := (rfl)
theorem newR_eq {ds : List DV} : newR ds L P = ∀ a, L a = none → P (.ref a) (updL L a (.lst ds)) := (rfl)
theorem newS_e {ds : List DV} : newS ds L P = newA ds L P .mk := (rfl)
theorem newL_e {ds : List DV} : newL ds L P = newA ds L P .mk := (rfl)
theorem oIn_e {n : Bool} {x y : DV} : oIn n x y L P = inA n x y L P .mk := (rfl)
theorem oEqN_tx {n : Bool} {a : List DV} {y : DV} : oEqN n (.tup a) y L P = eqA n (.tup a) y L P .mk := (rfl)
theorem oEqN_lx {n : Bool} {a : List DV} {y : DV} : oEqN n (.lst a) y L P = eqA n (.lst a) y L P .mk := (rfl)
theorem oEqN_rx {n : Bool} {a : Addr} {y : DV} : oEqN n (.ref a) y L P = eqA n (.ref a) y L P .mk := (rfl)
theorem oEqN_xt {n : Bool} {a : List DV} {x : DV} : oEqN n x (.tup a) L P = eqA n x (.tup a) L P .mk := (rfl)
theorem oEqN_xl {n : Bool} {a : List DV} {x : DV} : oEqN n x (.lst a) L P = eqA n x (.lst a) L P .mk := (rfl)
theorem withL_of {a : Addr} {ds : List DV} {q : List DV → Prop} {lk : Lk q} (h : L a = some (.lst ds)) : wLA L (.ref a) q lk = q ds := by
  show (∃ xs, L a = some (.lst xs) ∧ q xs) = _
  simp [h]
theorem withSq_of {a : Addr} {ds : List DV} {q : List DV → Prop} {lk : Lk q} (h : L a = some (.lst ds)) : wSA L (.ref a) q lk = q ds := by
  show (∃ xs, L a = some (.lst xs) ∧ q xs) = _
  simp [h]
theorem seqI_of {a : Addr} {ds : List DV} {Pi : List DV → (Led → Prop) → Led → Prop} {lk : Lk Pi} (h : L a = some (.lst ds)) : seqA (.ref a) L Pi lk = Pi ds (fun L' => L' a = some (.lst ds)) L := by
  show (∃ xs, L a = some (.lst xs) ∧ Pi xs (fun L' => L' a = some (.lst xs)) L) = _
  simp [h]
theorem enuA_of {a : Addr} {ds : List DV} {Pi : List DV → (Led → Prop) → Led → Prop} (h : L a = some (.lst ds)) : enuA [.ref a] L Pi .mk = Pi (enumD ds) (fun L' => L' a = some (.lst ds)) L := by
  show (∃ xs, L a = some (.lst xs) ∧ Pi (enumD xs) (fun L' => L' a = some (.lst xs)) L) = _
  simp [h]
theorem withL_upd {a : Addr} {ds : List DV} {q : List DV → Prop} {lk : Lk q} : wLA (updL L a (.lst ds)) (.ref a) q lk = q ds := withL_of updL_same
theorem withSq_upd {a : Addr} {ds : List DV} {q : List DV → Prop} {lk : Lk q} : wSA (updL L a (.lst ds)) (.ref a) q lk = q ds := withSq_of updL_same
theorem seqI_upd {a : Addr} {ds : List DV} {Pi : List DV → (Led → Prop) → Led → Prop} {lk : Lk Pi} : seqA (.ref a) (updL L a (.lst ds)) Pi lk = Pi ds (fun L' => L' a = some (.lst ds)) (updL L a (.lst ds)) := seqI_of updL_same
theorem withL_ne {a b : Addr} {m : MO} {q : List DV → Prop} {lk : Lk q} (h : b ≠ a) : wLA (updL L a m) (.ref b) q lk = wLA L (.ref b) q lk := by
  show (∃ xs, updL L a m b = _ ∧ q xs) = _
  rw [updL_ne h]; rfl
def lmB (ro : AM) (a : Addr) (ds : List DV) (L : Led) (P : PD) (_ : Lk P) : Prop := ∃ xs, L a = some (.lst xs) ∧ ro a xs ds L P
def lmR (x : DV) (L : Led) (q : Addr → Prop) (_ : Lk q) : Prop := match x with
  | .ref a => (∃ ds, L a = some (.lst ds)) ∧ q a
  | _ => False
theorem xLm {ro : AM} {tr : AA} : aLm ro te tr ρ L P px = te ρ L (fun x L1 => lmR x L1 (fun a => tr ρ L1 (fun ds L2 => lmB ro a ds L2 P .mk) px) .mk) px := (rfl)
theorem lmR_of {a : Addr} {ds : List DV} {q : Addr → Prop} {lk : Lk q} (h : L a = some (.lst ds)) : lmR (.ref a) L q lk = q a := by
  show ((∃ xs, L a = some (.lst xs)) ∧ q a) = _
  simp [h]
theorem lmR_upd {a : Addr} {ds : List DV} {q : Addr → Prop} {lk : Lk q} : lmR (.ref a) (updL L a (.lst ds)) q lk = q a := lmR_of updL_same
theorem lmR_ne {a b : Addr} {m : MO} {q : Addr → Prop} {lk : Lk q} (h : b ≠ a) : lmR (.ref b) (updL L a m) q lk = lmR (.ref b) L q lk := by
  show ((∃ xs, updL L a m b = _) ∧ _) = _
  rw [updL_ne h]; rfl
theorem lmB_of {ro : AM} {a : Addr} {xs ds : List DV} {lk : Lk P} (h : L a = some (.lst xs)) : lmB ro a ds L P lk = ro a xs ds L P := by
  show (∃ xs, L a = some (.lst xs) ∧ ro a xs ds L P) = _
  simp [h]
theorem lmB_upd {ro : AM} {a : Addr} {xs ds : List DV} {lk : Lk P} : lmB ro a ds (updL L a (.lst xs)) P lk = ro a xs ds (updL L a (.lst xs)) P := lmB_of updL_same
theorem mAppend_e {a : Addr} {xs : List DV} {d : DV} : mAppend a xs [d] L P = (xs.length < sizeLine ∧ P .non (updL L a (.lst (xs ++ [d])))) := (rfl)
theorem mReverse_e {a : Addr} {xs : List DV} : mReverse a xs [] L P = P .non (updL L a (.lst xs.reverse)) := (rfl)
theorem mClear_e {a : Addr} {xs : List DV} : mClear a xs [] L P = P .non (updL L a (.lst [])) := (rfl)
theorem mExtend_l {a : Addr} {xs ys : List DV} : mExtend a xs [.lst ys] L P = (xs.length + ys.length ≤ sizeLine ∧ P .non (updL L a (.lst (xs ++ ys)))) := (rfl)
theorem updupd {a : Addr} {m n : MO} : updL (updL L a m) a n = updL L a n := updL_updL
theorem updsame {a : Addr} {m : MO} : updL L a m a = some m := updL_same
theorem isC_ins {C D : Addr} {ks : List Str} {ds : List DV} {q : Prop} : isC L (.ins D ks ds) C q = (D = C ∧ q) := (rfl)
theorem isC_self {C : Addr} {ks : List Str} {ds : List DV} {q : Prop} : isC L (.ins C ks ds) C q = q := by
  show (C = C ∧ q) = q
  simp
theorem isC_of {C a dx : Addr} {ks : List Str} {ds : List DV} {q : Prop} {lk : Lk q} (h : L a = some (.ins C dx ks ds)) : isCA L (.ref a) C q lk = q := by
  show (∃ dx ks ds, L a = some (.ins C dx ks ds) ∧ q) = q
  simp [h]
theorem fldA_of {f : Str} {j : Nat} {C a dx : Addr} {ks : List Str} {ds : List DV} {lk : Lk P} (h : L a = some (.ins C dx ks ds)) : fldA f j (.ref a) L P lk = (ks[j]? = some f ∧ ∃ d, ds[j]? = some d ∧ P d L) := by
  show (∃ C dx ks ds, L a = some (.ins C dx ks ds) ∧ ks[j]? = some f ∧ ∃ d, ds[j]? = some d ∧ P d L) = _
  exact propext ⟨fun ⟨C, dx, ks, ds, e, q⟩ => by rw [h] at e; cases e; exact q, fun q => ⟨_, _, _, _, h, q⟩⟩

theorem fldI_0 {f : Str} {C : Addr} {ks : List Str} {d : DV} {ds : List DV} {lk : Lk P} : fldA f 0 (.ins C (f :: ks) (d :: ds)) L P lk = P d L := by
  show ((f :: ks)[0]? = some f ∧ ∃ y, (d :: ds)[0]? = some y ∧ P y L) = _
  simp
theorem fldI_1 {k0 : Str} {x0 : DV} {f : Str} {C : Addr} {ks : List Str} {d : DV} {ds : List DV} {lk : Lk P} : fldA f 1 (.ins C (k0 :: f :: ks) (x0 :: d :: ds)) L P lk = P d L := by
  show ((k0 :: f :: ks)[1]? = some f ∧ ∃ y, (x0 :: d :: ds)[1]? = some y ∧ P y L) = _
  simp
theorem fldI_2 {k0 k1 : Str} {x0 x1 : DV} {f : Str} {C : Addr} {ks : List Str} {d : DV} {ds : List DV} {lk : Lk P} : fldA f 2 (.ins C (k0 :: k1 :: f :: ks) (x0 :: x1 :: d :: ds)) L P lk = P d L := by
  show ((k0 :: k1 :: f :: ks)[2]? = some f ∧ ∃ y, (x0 :: x1 :: d :: ds)[2]? = some y ∧ P y L) = _
  simp
theorem fldI_3 {k0 k1 k2 : Str} {x0 x1 x2 : DV} {f : Str} {C : Addr} {ks : List Str} {d : DV} {ds : List DV} {lk : Lk P} : fldA f 3 (.ins C (k0 :: k1 :: k2 :: f :: ks) (x0 :: x1 :: x2 :: d :: ds)) L P lk = P d L := by
  show ((k0 :: k1 :: k2 :: f :: ks)[3]? = some f ∧ ∃ y, (x0 :: x1 :: x2 :: d :: ds)[3]? = some y ∧ P y L) = _
  simp
theorem fldI_4 {k0 k1 k2 k3 : Str} {x0 x1 x2 x3 : DV} {f : Str} {C : Addr} {ks : List Str} {d : DV} {ds : List DV} {lk : Lk P} : fldA f 4 (.ins C (k0 :: k1 :: k2 :: k3 :: f :: ks) (x0 :: x1 :: x2 :: x3 :: d :: ds)) L P lk = P d L := by
  show ((k0 :: k1 :: k2 :: k3 :: f :: ks)[4]? = some f ∧ ∃ y, (x0 :: x1 :: x2 :: x3 :: d :: ds)[4]? = some y ∧ P y L) = _
  simp
theorem fldI_5 {k0 k1 k2 k3 k4 : Str} {x0 x1 x2 x3 x4 : DV} {f : Str} {C : Addr} {ks : List Str} {d : DV} {ds : List DV} {lk : Lk P} : fldA f 5 (.ins C (k0 :: k1 :: k2 :: k3 :: k4 :: f :: ks) (x0 :: x1 :: x2 :: x3 :: x4 :: d :: ds)) L P lk = P d L := by
  show ((k0 :: k1 :: k2 :: k3 :: k4 :: f :: ks)[5]? = some f ∧ ∃ y, (x0 :: x1 :: x2 :: x3 :: x4 :: d :: ds)[5]? = some y ∧ P y L) = _
  simp
theorem few_200 {d : DV} {ds : List DV} {q : Prop} : few (d :: ds) 200 q = few ds 199 q := (rfl)
theorem few_199 {d : DV} {ds : List DV} {q : Prop} : few (d :: ds) 199 q = few ds 198 q := (rfl)
theorem few_198 {d : DV} {ds : List DV} {q : Prop} : few (d :: ds) 198 q = few ds 197 q := (rfl)
theorem few_197 {d : DV} {ds : List DV} {q : Prop} : few (d :: ds) 197 q = few ds 196 q := (rfl)
theorem few_196 {d : DV} {ds : List DV} {q : Prop} : few (d :: ds) 196 q = few ds 195 q := (rfl)
theorem few_195 {d : DV} {ds : List DV} {q : Prop} : few (d :: ds) 195 q = few ds 194 q := (rfl)
theorem few_194 {d : DV} {ds : List DV} {q : Prop} : few (d :: ds) 194 q = few ds 193 q := (rfl)
theorem few_193 {d : DV} {ds : List DV} {q : Prop} : few (d :: ds) 193 q = few ds 192 q := (rfl)
theorem few_192 {d : DV} {ds : List DV} {q : Prop} : few (d :: ds) 192 q = few ds 191 q := (rfl)
theorem few_191 {d : DV} {ds : List DV} {q : Prop} : few (d :: ds) 191 q = few ds 190 q := (rfl)
theorem few_190 {d : DV} {ds : List DV} {q : Prop} : few (d :: ds) 190 q = few ds 189 q := (rfl)
theorem few_189 {d : DV} {ds : List DV} {q : Prop} : few (d :: ds) 189 q = few ds 188 q := (rfl)
theorem few_188 {d : DV} {ds : List DV} {q : Prop} : few (d :: ds) 188 q = few ds 187 q := (rfl)
theorem few_187 {d : DV} {ds : List DV} {q : Prop} : few (d :: ds) 187 q = few ds 186 q := (rfl)
theorem few_186 {d : DV} {ds : List DV} {q : Prop} : few (d :: ds) 186 q = few ds 185 q := (rfl)
theorem few_185 {d : DV} {ds : List DV} {q : Prop} : few (d :: ds) 185 q = few ds 184 q := (rfl)
theorem few_184 {d : DV} {ds : List DV} {q : Prop} : few (d :: ds) 184 q = few ds 183 q := (rfl)
theorem few_183 {d : DV} {ds : List DV} {q : Prop} : few (d :: ds) 183 q = few ds 182 q := (rfl)
theorem few_182 {d : DV} {ds : List DV} {q : Prop} : few (d :: ds) 182 q = few ds 181 q := (rfl)
theorem few_181 {d : DV} {ds : List DV} {q : Prop} : few (d :: ds) 181 q = few ds 180 q := (rfl)
end
/-! isinstance of told kinds -/
section
variable {K : PySem.W.Frag} {L : Led} {P : PD}
theorem isi_go {x c : DV} {t u : Value} {b : Bool} (ht : ∀ q, withTy L x q = q t) (hu : ∀ q, withCl c q = q u) (h : PySem.W.kitOne K t u = some b) : bIsi K [x, c] L P = P (.bl b) L := by
  show (withTy L x fun t => withCl c fun u => ∃ b, PySem.W.kitOne K t u = some b ∧ P (.bl b) L) = _
  rw [ht, hu, h]; simp

theorem isi_non_int : bIsi K [.non, .ty "int"] L P = P (.bl false) L := isi_go (fun _ => rfl) (fun _ => rfl) (kit_ty (by decide +kernel))
theorem isi_non_bool : bIsi K [.non, .ty "bool"] L P = P (.bl false) L := isi_go (fun _ => rfl) (fun _ => rfl) (kit_ty (by decide +kernel))
theorem isi_non_str : bIsi K [.non, .ty "str"] L P = P (.bl false) L := isi_go (fun _ => rfl) (fun _ => rfl) (kit_ty (by decide +kernel))
theorem isi_non_list : bIsi K [.non, .ty "list"] L P = P (.bl false) L := isi_go (fun _ => rfl) (fun _ => rfl) (kit_ty (by decide +kernel))
theorem isi_non_tuple : bIsi K [.non, .ty "tuple"] L P = P (.bl false) L := isi_go (fun _ => rfl) (fun _ => rfl) (kit_ty (by decide +kernel))
theorem isi_bl_int {b : Bool} : bIsi K [.bl b, .ty "int"] L P = P (.bl true) L := isi_go (fun _ => rfl) (fun _ => rfl) (kit_ty (by decide +kernel))
theorem isi_bl_bool {b : Bool} : bIsi K [.bl b, .ty "bool"] L P = P (.bl true) L := isi_go (fun _ => rfl) (fun _ => rfl) (kit_ty (by decide +kernel))
theorem isi_bl_str {b : Bool} : bIsi K [.bl b, .ty "str"] L P = P (.bl false) L := isi_go (fun _ => rfl) (fun _ => rfl) (kit_ty (by decide +kernel))
theorem isi_bl_list {b : Bool} : bIsi K [.bl b, .ty "list"] L P = P (.bl false) L := isi_go (fun _ => rfl) (fun _ => rfl) (kit_ty (by decide +kernel))
theorem isi_bl_tuple {b : Bool} : bIsi K [.bl b, .ty "tuple"] L P = P (.bl false) L := isi_go (fun _ => rfl) (fun _ => rfl) (kit_ty (by decide +kernel))
theorem isi_int_int {b : Int} : bIsi K [.int b, .ty "int"] L P = P (.bl true) L := isi_go (fun _ => rfl) (fun _ => rfl) (kit_ty (by decide +kernel))
theorem isi_int_bool {b : Int} : bIsi K [.int b, .ty "bool"] L P = P (.bl false) L := isi_go (fun _ => rfl) (fun _ => rfl) (kit_ty (by decide +kernel))
theorem isi_int_str {b : Int} : bIsi K [.int b, .ty "str"] L P = P (.bl false) L := isi_go (fun _ => rfl) (fun _ => rfl) (kit_ty (by decide +kernel))
theorem isi_int_list {b : Int} : bIsi K [.int b, .ty "list"] L P = P (.bl false) L := isi_go (fun _ => rfl) (fun _ => rfl) (kit_ty (by decide +kernel))
theorem isi_int_tuple {b : Int} : bIsi K [.int b, .ty "tuple"] L P = P (.bl false) L := isi_go (fun _ => rfl) (fun _ => rfl) (kit_ty (by decide +kernel))
theorem isi_str_int {b : Str} : bIsi K [.str b, .ty "int"] L P = P (.bl false) L := isi_go (fun _ => rfl) (fun _ => rfl) (kit_ty (by decide +kernel))
theorem isi_str_bool {b : Str} : bIsi K [.str b, .ty "bool"] L P = P (.bl false) L := isi_go (fun _ => rfl) (fun _ => rfl) (kit_ty (by decide +kernel))
theorem isi_str_str {b : Str} : bIsi K [.str b, .ty "str"] L P = P (.bl true) L := isi_go (fun _ => rfl) (fun _ => rfl) (kit_ty (by decide +kernel))
theorem isi_str_list {b : Str} : bIsi K [.str b, .ty "list"] L P = P (.bl false) L := isi_go (fun _ => rfl) (fun _ => rfl) (kit_ty (by decide +kernel))
theorem isi_str_tuple {b : Str} : bIsi K [.str b, .ty "tuple"] L P = P (.bl false) L := isi_go (fun _ => rfl) (fun _ => rfl) (kit_ty (by decide +kernel))
theorem isi_lst_int {b : List DV} : bIsi K [.lst b, .ty "int"] L P = P (.bl false) L := isi_go (fun _ => rfl) (fun _ => rfl) (kit_ty (by decide +kernel))
theorem isi_lst_bool {b : List DV} : bIsi K [.lst b, .ty "bool"] L P = P (.bl false) L := isi_go (fun _ => rfl) (fun _ => rfl) (kit_ty (by decide +kernel))
theorem isi_lst_str {b : List DV} : bIsi K [.lst b, .ty "str"] L P = P (.bl false) L := isi_go (fun _ => rfl) (fun _ => rfl) (kit_ty (by decide +kernel))
theorem isi_lst_list {b : List DV} : bIsi K [.lst b, .ty "list"] L P = P (.bl true) L := isi_go (fun _ => rfl) (fun _ => rfl) (kit_ty (by decide +kernel))
theorem isi_lst_tuple {b : List DV} : bIsi K [.lst b, .ty "tuple"] L P = P (.bl false) L := isi_go (fun _ => rfl) (fun _ => rfl) (kit_ty (by decide +kernel))
theorem isi_tup_int {b : List DV} : bIsi K [.tup b, .ty "int"] L P = P (.bl false) L := isi_go (fun _ => rfl) (fun _ => rfl) (kit_ty (by decide +kernel))
theorem isi_tup_bool {b : List DV} : bIsi K [.tup b, .ty "bool"] L P = P (.bl false) L := isi_go (fun _ => rfl) (fun _ => rfl) (kit_ty (by decide +kernel))
theorem isi_tup_str {b : List DV} : bIsi K [.tup b, .ty "str"] L P = P (.bl false) L := isi_go (fun _ => rfl) (fun _ => rfl) (kit_ty (by decide +kernel))
theorem isi_tup_list {b : List DV} : bIsi K [.tup b, .ty "list"] L P = P (.bl false) L := isi_go (fun _ => rfl) (fun _ => rfl) (kit_ty (by decide +kernel))
theorem isi_tup_tuple {b : List DV} : bIsi K [.tup b, .ty "tuple"] L P = P (.bl true) L := isi_go (fun _ => rfl) (fun _ => rfl) (kit_ty (by decide +kernel))
theorem isi_r_list {a : Addr} {ds : List DV} {lk : Lk P} (h : L a = some (.lst ds)) : isiA K [.ref a, .ty "list"] L P lk = P (.bl true) L := by
  refine isi_go (t := .type "list") (fun q => ?_) (fun _ => rfl) (kit_ty (by decide +kernel))
  show ((∃ C dx ks ds, L a = some (.ins C dx ks ds) ∧ q (.ref C)) ∨ (∃ ds, L a = some (.lst ds) ∧ q (.type "list")) ∨ ∃ kvs, L a = some (.dK kvs) ∧ q (.type "dict")) = _
  simp [h]
theorem isi_d_list {a : Addr} {ds : List (Key × DV)} {lk : Lk P} (h : L a = some (.dK ds)) : isiA K [.ref a, .ty "list"] L P lk = P (.bl false) L := by
  refine isi_go (t := .type "dict") (fun q => ?_) (fun _ => rfl) (kit_ty (by decide +kernel))
  show ((∃ C dx ks ds, L a = some (.ins C dx ks ds) ∧ q (.ref C)) ∨ (∃ ds, L a = some (.lst ds) ∧ q (.type "list")) ∨ ∃ kvs, L a = some (.dK kvs) ∧ q (.type "dict")) = _
  simp [h]
theorem isi_r_int {a : Addr} {ds : List DV} {lk : Lk P} (h : L a = some (.lst ds)) : isiA K [.ref a, .ty "int"] L P lk = P (.bl false) L := by
  refine isi_go (t := .type "list") (fun q => ?_) (fun _ => rfl) (kit_ty (by decide +kernel))
  show ((∃ C dx ks ds, L a = some (.ins C dx ks ds) ∧ q (.ref C)) ∨ (∃ ds, L a = some (.lst ds) ∧ q (.type "list")) ∨ ∃ kvs, L a = some (.dK kvs) ∧ q (.type "dict")) = _
  simp [h]
theorem isi_d_int {a : Addr} {ds : List (Key × DV)} {lk : Lk P} (h : L a = some (.dK ds)) : isiA K [.ref a, .ty "int"] L P lk = P (.bl false) L := by
  refine isi_go (t := .type "dict") (fun q => ?_) (fun _ => rfl) (kit_ty (by decide +kernel))
  show ((∃ C dx ks ds, L a = some (.ins C dx ks ds) ∧ q (.ref C)) ∨ (∃ ds, L a = some (.lst ds) ∧ q (.type "list")) ∨ ∃ kvs, L a = some (.dK kvs) ∧ q (.type "dict")) = _
  simp [h]
theorem isi_r_bool {a : Addr} {ds : List DV} {lk : Lk P} (h : L a = some (.lst ds)) : isiA K [.ref a, .ty "bool"] L P lk = P (.bl false) L := by
  refine isi_go (t := .type "list") (fun q => ?_) (fun _ => rfl) (kit_ty (by decide +kernel))
  show ((∃ C dx ks ds, L a = some (.ins C dx ks ds) ∧ q (.ref C)) ∨ (∃ ds, L a = some (.lst ds) ∧ q (.type "list")) ∨ ∃ kvs, L a = some (.dK kvs) ∧ q (.type "dict")) = _
  simp [h]
theorem isi_d_bool {a : Addr} {ds : List (Key × DV)} {lk : Lk P} (h : L a = some (.dK ds)) : isiA K [.ref a, .ty "bool"] L P lk = P (.bl false) L := by
  refine isi_go (t := .type "dict") (fun q => ?_) (fun _ => rfl) (kit_ty (by decide +kernel))
  show ((∃ C dx ks ds, L a = some (.ins C dx ks ds) ∧ q (.ref C)) ∨ (∃ ds, L a = some (.lst ds) ∧ q (.type "list")) ∨ ∃ kvs, L a = some (.dK kvs) ∧ q (.type "dict")) = _
  simp [h]
theorem isi_r_str {a : Addr} {ds : List DV} {lk : Lk P} (h : L a = some (.lst ds)) : isiA K [.ref a, .ty "str"] L P lk = P (.bl false) L := by
  refine isi_go (t := .type "list") (fun q => ?_) (fun _ => rfl) (kit_ty (by decide +kernel))
  show ((∃ C dx ks ds, L a = some (.ins C dx ks ds) ∧ q (.ref C)) ∨ (∃ ds, L a = some (.lst ds) ∧ q (.type "list")) ∨ ∃ kvs, L a = some (.dK kvs) ∧ q (.type "dict")) = _
  simp [h]
theorem isi_d_str {a : Addr} {ds : List (Key × DV)} {lk : Lk P} (h : L a = some (.dK ds)) : isiA K [.ref a, .ty "str"] L P lk = P (.bl false) L := by
  refine isi_go (t := .type "dict") (fun q => ?_) (fun _ => rfl) (kit_ty (by decide +kernel))
  show ((∃ C dx ks ds, L a = some (.ins C dx ks ds) ∧ q (.ref C)) ∨ (∃ ds, L a = some (.lst ds) ∧ q (.type "list")) ∨ ∃ kvs, L a = some (.dK kvs) ∧ q (.type "dict")) = _
  simp [h]
theorem isi_r_tuple {a : Addr} {ds : List DV} {lk : Lk P} (h : L a = some (.lst ds)) : isiA K [.ref a, .ty "tuple"] L P lk = P (.bl false) L := by
  refine isi_go (t := .type "list") (fun q => ?_) (fun _ => rfl) (kit_ty (by decide +kernel))
  show ((∃ C dx ks ds, L a = some (.ins C dx ks ds) ∧ q (.ref C)) ∨ (∃ ds, L a = some (.lst ds) ∧ q (.type "list")) ∨ ∃ kvs, L a = some (.dK kvs) ∧ q (.type "dict")) = _
  simp [h]
theorem isi_d_tuple {a : Addr} {ds : List (Key × DV)} {lk : Lk P} (h : L a = some (.dK ds)) : isiA K [.ref a, .ty "tuple"] L P lk = P (.bl false) L := by
  refine isi_go (t := .type "dict") (fun q => ?_) (fun _ => rfl) (kit_ty (by decide +kernel))
  show ((∃ C dx ks ds, L a = some (.ins C dx ks ds) ∧ q (.ref C)) ∨ (∃ ds, L a = some (.lst ds) ∧ q (.type "list")) ∨ ∃ kvs, L a = some (.dK kvs) ∧ q (.type "dict")) = _
  simp [h]
theorem isi_ins {C D : Addr} {ks : List Str} {ds : List DV} {b : Bool} (hk : PySem.W.kitOne K (.ref C) (.ref D) = some b) : bIsi K [.ins C ks ds, .ref D] L P = P (.bl b) L := isi_go (fun _ => rfl) (fun _ => rfl) hk
theorem isi_refx {a : Addr} {c : DV} : bIsi K [.ref a, c] L P = isiA K [.ref a, c] L P .mk := (rfl)
theorem isi_insx {C D : Addr} {ks : List Str} {ds : List DV} : bIsi K [.ins C ks ds, .ref D] L P = isiA K [.ins C ks ds, .ref D] L P .mk := (rfl)
theorem isi_intx {D : Addr} {i : Int} : bIsi K [.int i, .ref D] L P = isiA K [.int i, .ref D] L P .mk := (rfl)
theorem isi_nonx {D : Addr} : bIsi K [.non, .ref D] L P = isiA K [.non, .ref D] L P .mk := (rfl)
theorem isi_lstx {D : Addr} {i : List DV} : bIsi K [.lst i, .ref D] L P = isiA K [.lst i, .ref D] L P .mk := (rfl)
theorem isi_tupx {D : Addr} {i : List DV} : bIsi K [.tup i, .ref D] L P = isiA K [.tup i, .ref D] L P .mk := (rfl)
theorem kit_me {v : Value} : PySem.W.kitOne K v v = some true := by unfold PySem.W.kitOne; rw [if_pos (by simp)]
theorem isi_own {C : Addr} {ks : List Str} {ds : List DV} {lk : Lk P} : isiA K [.ins C ks ds, .ref C] L P lk = P (.bl true) L := isi_ins kit_me
end
end AL

namespace AL
open PySem PySem.Spec PyProof.Rows L2

section
variable {items : List DV} {stay : Led → Prop} {g : AG} {tb : AS} {nx_ bk_ ct_ : Sl → Led → Prop} {rt_ : PD} {px_ : PX} {lk : Lk (AEnds.mk nx_ rt_ bk_ ct_ px_)} {ρ : Sl} {L : Led}
theorem pre_at {α : Type} {xs : List α} {i : Nat} {x : α} (h : xs[i]? = some x) : xs = xs.take i ++ x :: xs.drop (i + 1) := by
  obtain ⟨h1, h2⟩ := List.getElem?_eq_some_iff.mp h
  rw [← h2, ← List.drop_eq_getElem_cons h1, List.take_append_drop]
theorem for_pre {α : Type} (xs : List α) (e : α → DV) (Pv : List α → Sl → Led → Prop) (h0 : Pv [] ρ L) (hs : ∀ done ρ' L', Pv done ρ' L' → stay L')
    (hb : ∀ done x rest ρ' L', xs = done ++ x :: rest → Pv done ρ' L' → g (e x) ρ' L' fun ρ2 L2 => tb ⟨Pv (done ++ [x]), rt_, nx_, Pv (done ++ [x]), px_⟩ ρ2 L2)
    (hz : ∀ ρ' L', Pv xs ρ' L' → nx_ ρ' L') : forL (xs.map e) stay g tb ⟨nx_, rt_, bk_, ct_, px_⟩ lk ρ L := by
  refine ⟨fun i => Pv (xs.take i), h0, fun i ρ' L' h => hs _ _ _ h, fun i d ρ' L' hd h => ?_, fun ρ' L' h => hz _ _ ?_⟩
  · rw [List.getElem?_map] at hd
    cases q : xs[i]? with
    | none => rw [q] at hd; cases hd
    | some x =>
      rw [q] at hd
      cases hd
      have ht : xs.take (i + 1) = xs.take i ++ [x] := by rw [List.take_add_one, q]; rfl
      show g (e x) ρ' L' fun ρ2 L2 => tb ⟨Pv (xs.take (i + 1)), rt_, nx_, Pv (xs.take (i + 1)), px_⟩ ρ2 L2
      rw [ht]
      exact hb _ x _ _ _ (pre_at q) h
  · rw [List.length_map, List.take_length] at h; exact h
theorem for_ix {α : Type} (xs : List α) (e : α → DV) (Pv : Nat → Sl → Led → Prop) (h0 : Pv 0 ρ L) (hs : ∀ i ρ' L', Pv i ρ' L' → stay L')
    (hb : ∀ i x ρ' L', xs[i]? = some x → Pv i ρ' L' → g (e x) ρ' L' fun ρ2 L2 => tb ⟨Pv (i + 1), rt_, nx_, Pv (i + 1), px_⟩ ρ2 L2)
    (hz : ∀ ρ' L', Pv xs.length ρ' L' → nx_ ρ' L') : forL (xs.map e) stay g tb ⟨nx_, rt_, bk_, ct_, px_⟩ lk ρ L := by
  refine ⟨Pv, h0, fun i ρ' L' h => hs _ _ _ h, fun i d ρ' L' hd h => ?_, fun ρ' L' h => hz _ _ ?_⟩
  · rw [List.getElem?_map] at hd
    cases q : xs[i]? with
    | none => rw [q] at hd; cases hd
    | some x =>
      rw [q] at hd
      cases hd
      exact hb i x _ _ q h
  · rw [List.length_map] at h; exact h
theorem for_enu {α : Type} (xs : List α) (e : α × Nat → DV) (Pv : Nat → Sl → Led → Prop) (h0 : Pv 0 ρ L) (hs : ∀ i ρ' L', Pv i ρ' L' → stay L')
    (hb : ∀ i x ρ' L', xs[i]? = some x → Pv i ρ' L' → g (e (x, i)) ρ' L' fun ρ2 L2 => tb ⟨Pv (i + 1), rt_, nx_, Pv (i + 1), px_⟩ ρ2 L2)
    (hz : ∀ ρ' L', Pv xs.length ρ' L' → nx_ ρ' L') : forL (xs.zipIdx.map e) stay g tb ⟨nx_, rt_, bk_, ct_, px_⟩ lk ρ L := by
  refine for_ix xs.zipIdx e Pv h0 hs (fun i x ρ' L' hx h => ?_) (fun ρ' L' h => hz _ _ (by rw [List.length_zipIdx] at h; exact h))
  rw [List.getElem?_zipIdx] at hx
  cases q : xs[i]? with
  | none => rw [q] at hx; cases hx
  | some y =>
    rw [q] at hx
    simp at hx
    subst hx
    exact hb i y _ _ q h
theorem for_enuR (xs : List DV) (Pv : Nat → Sl → Led → Prop) (h0 : Pv 0 ρ L) (hs : ∀ i ρ' L', Pv i ρ' L' → stay L')
    (hb : ∀ i x ρ' L', xs[i]? = some x → Pv i ρ' L' → g (.tup [.int (i : Nat), x]) ρ' L' fun ρ2 L2 => tb ⟨Pv (i + 1), rt_, nx_, Pv (i + 1), px_⟩ ρ2 L2)
    (hz : ∀ ρ' L', Pv xs.length ρ' L' → nx_ ρ' L') : forL (enumD xs) stay g tb ⟨nx_, rt_, bk_, ct_, px_⟩ lk ρ L :=
  for_enu xs (fun p => .tup [.int (p.2 : Nat), p.1]) Pv h0 hs hb hz
theorem for_rng (n : Nat) (e : Nat → DV) (Pv : Nat → Sl → Led → Prop) (h0 : Pv 0 ρ L) (hs : ∀ i ρ' L', Pv i ρ' L' → stay L')
    (hb : ∀ i ρ' L', i < n → Pv i ρ' L' → g (e i) ρ' L' fun ρ2 L2 => tb ⟨Pv (i + 1), rt_, nx_, Pv (i + 1), px_⟩ ρ2 L2)
    (hz : ∀ ρ' L', Pv n ρ' L' → nx_ ρ' L') : forL ((List.range n).map e) stay g tb ⟨nx_, rt_, bk_, ct_, px_⟩ lk ρ L := by
  refine for_ix (List.range n) e Pv h0 hs (fun i x ρ' L' hx h => ?_) (fun ρ' L' h => hz _ _ (by rw [List.length_range] at h; exact h))
  obtain ⟨h1, h2⟩ := List.getElem?_eq_some_iff.mp hx
  simp at h1 h2
  subst h2
  exact hb i _ _ h1 h
/-- with a break: Q holds behind the loop, whichever way it ends -/
theorem for_rngB (n : Nat) (e : Nat → DV) (Pv : Nat → Sl → Led → Prop) (Q : Sl → Led → Prop) (hz : ∀ ρ' L', Q ρ' L' → nx_ ρ' L') (h0 : Pv 0 ρ L) (hs : ∀ i ρ' L', Pv i ρ' L' → stay L') (hq : ∀ ρ' L', Pv n ρ' L' → Q ρ' L')
    (hb : (∀ ρ' L', Q ρ' L' → nx_ ρ' L') → ∀ i ρ' L', i < n → Pv i ρ' L' → g (e i) ρ' L' fun ρ2 L2 => tb ⟨Pv (i + 1), rt_, nx_, Pv (i + 1), px_⟩ ρ2 L2) : forL ((List.range n).map e) stay g tb ⟨nx_, rt_, bk_, ct_, px_⟩ lk ρ L :=
  for_rng n e Pv h0 hs (hb hz) (fun ρ' L' h => hz _ _ (hq _ _ h))
theorem for_ixB {α : Type} (xs : List α) (e : α → DV) (Pv : Nat → Sl → Led → Prop) (Q : Sl → Led → Prop) (hz : ∀ ρ' L', Q ρ' L' → nx_ ρ' L') (h0 : Pv 0 ρ L) (hs : ∀ i ρ' L', Pv i ρ' L' → stay L') (hq : ∀ ρ' L', Pv xs.length ρ' L' → Q ρ' L')
    (hb : (∀ ρ' L', Q ρ' L' → nx_ ρ' L') → ∀ i x ρ' L', xs[i]? = some x → Pv i ρ' L' → g (e x) ρ' L' fun ρ2 L2 => tb ⟨Pv (i + 1), rt_, nx_, Pv (i + 1), px_⟩ ρ2 L2) : forL (xs.map e) stay g tb ⟨nx_, rt_, bk_, ct_, px_⟩ lk ρ L :=
  for_ix xs e Pv h0 hs (hb hz) (fun ρ' L' h => hz _ _ (hq _ _ h))
/-- a loop that keeps what it found -/
theorem for_same (Pv : Sl → Led → Prop) (h0 : Pv ρ L) (hs : ∀ ρ' L', Pv ρ' L' → stay L')
    (hb : ∀ d, d ∈ items → ∀ ρ' L', Pv ρ' L' → g d ρ' L' fun ρ2 L2 => tb ⟨Pv, rt_, nx_, Pv, px_⟩ ρ2 L2) (hz : ∀ ρ' L', Pv ρ' L' → nx_ ρ' L') : forL items stay g tb ⟨nx_, rt_, bk_, ct_, px_⟩ lk ρ L :=
  ⟨fun _ => Pv, h0, fun _ ρ' L' h => hs _ _ h, fun i d ρ' L' hd h => hb d (List.mem_of_getElem? hd) _ _ h, fun ρ' L' h => hz _ _ h⟩
/-- the loop unrolled -/
def runL (g : AG) (tb : AS) (AD : AEnds) : List DV → Sl → Led → Prop
  | [] => AD.nx
  | d :: ds => fun ρ L => g d ρ L fun ρ2 L2 => tb ⟨runL g tb AD ds, AD.rt, AD.nx, runL g tb AD ds, AD.px⟩ ρ2 L2
theorem for_run (h : runL g tb ⟨nx_, rt_, bk_, ct_, px_⟩ items ρ L) : forL items (fun _ => True) g tb ⟨nx_, rt_, bk_, ct_, px_⟩ lk ρ L := by
  refine ⟨fun i => runL g tb ⟨nx_, rt_, bk_, ct_, px_⟩ (items.drop i), h, fun _ _ _ _ => trivial, fun i d ρ' L' hd h => ?_, fun ρ' L' h => ?_⟩
  · obtain ⟨h1, h2⟩ := List.getElem?_eq_some_iff.mp hd
    change runL g tb ⟨nx_, rt_, bk_, ct_, px_⟩ (items.drop i) ρ' L' at h
    rw [List.drop_eq_getElem_cons h1, h2] at h
    exact h
  · change runL g tb ⟨nx_, rt_, bk_, ct_, px_⟩ (items.drop items.length) ρ' L' at h
    rw [List.drop_length] at h; exact h
theorem run_nil : runL g tb ⟨nx_, rt_, bk_, ct_, px_⟩ [] ρ L = nx_ ρ L := (rfl)
theorem run_cons {d : DV} {ds : List DV} : runL g tb ⟨nx_, rt_, bk_, ct_, px_⟩ (d :: ds) ρ L = g d ρ L fun ρ2 L2 => tb ⟨runL g tb ⟨nx_, rt_, bk_, ct_, px_⟩ ds, rt_, nx_, runL g tb ⟨nx_, rt_, bk_, ct_, px_⟩ ds, px_⟩ ρ2 L2 := (rfl)
end
section
variable {stay : Led → Prop} {g : AG} {tt : AT} {te : AE} {vs : List Nat} {ρ : Sl} {L : Led} {P : PD} {lk : Lk P} {nw : NW}
theorem lc_pre {α : Type} (xs : List α) (e : α → DV) (Pv : List α → List DV → Led → Prop) (hl : xs.length < sizeLine) (h0 : Pv [] [] L) (hs : ∀ done acc L', Pv done acc L' → stay L' ∧ acc.length ≤ done.length)
    (hb : ∀ done x rest acc L', xs = done ++ x :: rest → Pv done acc L' → g (e x) (wipeA ρ vs) L' fun ρ2 L2 => tt ρ2 L2 (fun b L3 => (b = true → te ρ2 L3 (fun y L4 => Pv (done ++ [x]) (acc ++ [y]) L4) noPX) ∧ (b = false → Pv (done ++ [x]) acc L3)) noPX)
    (hz : ∀ acc L', Pv xs acc L' → nw acc L' P) : lcL nw (xs.map e) stay g tt te vs ρ L P lk := by
  refine ⟨by rw [List.length_map]; exact hl, fun i => Pv (xs.take i), h0, fun i acc L' h => ⟨(hs _ _ _ h).1, Nat.le_trans (hs _ _ _ h).2 (by rw [List.length_take]; exact Nat.min_le_left ..)⟩, fun i d acc L' hd h => ?_, fun ρ' L' h => hz _ _ ?_⟩
  · rw [List.getElem?_map] at hd
    cases q : xs[i]? with
    | none => rw [q] at hd; cases hd
    | some x =>
      rw [q] at hd
      cases hd
      have ht : xs.take (i + 1) = xs.take i ++ [x] := by rw [List.take_add_one, q]; rfl
      show g (e x) (wipeA ρ vs) L' fun ρ2 L2 => tt ρ2 L2 (fun b L3 => (b = true → te ρ2 L3 (fun y L4 => Pv (xs.take (i + 1)) (acc ++ [y]) L4) noPX) ∧ (b = false → Pv (xs.take (i + 1)) acc L3)) noPX
      rw [ht]
      exact hb _ x _ _ _ (pre_at q) h
  · rw [List.length_map, List.take_length] at h; exact h
/-- a comprehension that changes nothing, with a test -/
theorem lc_filt {α : Type} (xs : List α) (e : α → DV) (c : α → Bool) (f : α → DV) (hl : xs.length < sizeLine) (hs : stay L)
    (hb : ∀ x ∈ xs, ∀ (K1 : PD) (K0 : Led → Prop), (c x = true → K1 (f x) L) → (c x = false → K0 L) → g (e x) (wipeA ρ vs) L fun ρ2 L2 => tt ρ2 L2 (fun b L3 => (b = true → te ρ2 L3 K1 noPX) ∧ (b = false → K0 L3)) noPX)
    (h : nw ((xs.filter c).map f) L P) : lcL nw (xs.map e) stay g tt te vs ρ L P lk := by
  refine lc_pre xs e (fun done acc L' => L' = L ∧ acc = (done.filter c).map f) hl ⟨rfl, rfl⟩ (fun done acc L' q => ⟨by rw [q.1]; exact hs, by rw [q.2, List.length_map]; exact List.length_filter_le ..⟩) ?_ ?_
  · rintro done x rest acc L' e ⟨rfl, rfl⟩
    refine hb x (by rw [e]; simp) _ _ (fun z => ⟨rfl, ?_⟩) (fun z => ⟨rfl, ?_⟩)
    · rw [List.filter_append, List.map_append]; simp [List.filter, z]
    · rw [List.filter_append, List.map_append]; simp [List.filter, z]
  · rintro acc L' ⟨rfl, rfl⟩
    exact h
theorem lc_map {α : Type} (xs : List α) (e : α → DV) (f : α → DV) (hl : xs.length < sizeLine) (hs : stay L)
    (hb : ∀ x ∈ xs, ∀ (K1 : PD), K1 (f x) L → g (e x) (wipeA ρ vs) L fun ρ2 L2 => te ρ2 L2 K1 noPX)
    (h : nw (xs.map f) L P) : lcL nw (xs.map e) stay g aYes te vs ρ L P lk := by
  refine lc_pre xs e (fun done acc L' => L' = L ∧ acc = done.map f) hl ⟨rfl, rfl⟩ (fun done acc L' q => ⟨by rw [q.1]; exact hs, by rw [q.2, List.length_map]; exact Nat.le_refl _⟩) ?_ ?_
  · rintro done x rest acc L' e ⟨rfl, rfl⟩
    have := hb x (by rw [e]; simp) (fun y L4 => L4 = L' ∧ done.map f ++ [y] = (done ++ [x]).map f) ⟨rfl, by rw [List.map_append]; rfl⟩
    have e2 : (fun ρ2 L2 => aYes ρ2 L2 (fun b L3 => (b = true → te ρ2 L3 (fun y L4 => L4 = L' ∧ done.map f ++ [y] = (done ++ [x]).map f) noPX) ∧ (b = false → L3 = L' ∧ done.map f = (done ++ [x]).map f)) noPX) = fun ρ2 L2 => te ρ2 L2 (fun y L4 => L4 = L' ∧ done.map f ++ [y] = (done ++ [x]).map f) noPX := by
      funext ρ2 L2; simp [aYes]
    rw [e2]
    exact this
  · rintro acc L' ⟨rfl, rfl⟩
    exact h
theorem lc_mapR {xs : List DV} (f : DV → DV) (hl : xs.length < sizeLine) (hs : stay L)
    (hb : ∀ x ∈ xs, ∀ (K1 : PD), K1 (f x) L → g x (wipeA ρ vs) L fun ρ2 L2 => te ρ2 L2 K1 noPX)
    (h : nw (xs.map f) L P) : lcL nw xs stay g aYes te vs ρ L P lk := by
  have := lc_map (g := g) (te := te) (vs := vs) (ρ := ρ) (lk := lk) (nw := nw) (stay := stay) xs id f hl hs hb h
  rwa [List.map_id] at this
end
/-! ### lists of a kind -/
section
variable {α : Type} {xs : List α} {L : Led} {P : PD}
theorem bAll_map {p : α → Bool} : bAll [.lst (xs.map fun x => .bl (p x))] L P = P (.bl (xs.all p)) L := by
  show (∃ bs : List Bool, xs.map (fun x => DV.bl (p x)) = bs.map DV.bl ∧ P (.bl (bs.all id)) L) = _
  refine propext ⟨fun ⟨bs, e, h⟩ => ?_, fun h => ⟨xs.map p, by rw [List.map_map]; rfl, by rw [List.all_map]; exact h⟩⟩
  have : bs = xs.map p := by
    have := congrArg (List.map fun d => match d with | .bl b => b | _ => false) e
    simpa [List.map_map, Function.comp_def] using this.symm
  rw [this, List.all_map] at h
  exact h
theorem bAny_map {p : α → Bool} : bAny [.lst (xs.map fun x => .bl (p x))] L P = P (.bl (xs.any p)) L := by
  show (∃ bs : List Bool, xs.map (fun x => DV.bl (p x)) = bs.map DV.bl ∧ P (.bl (bs.any id)) L) = _
  refine propext ⟨fun ⟨bs, e, h⟩ => ?_, fun h => ⟨xs.map p, by rw [List.map_map]; rfl, by rw [List.any_map]; exact h⟩⟩
  have : bs = xs.map p := by
    have := congrArg (List.map fun d => match d with | .bl b => b | _ => false) e
    simpa [List.map_map, Function.comp_def] using this.symm
  rw [this, List.any_map] at h
  exact h
theorem bSum_map {p : α → Int} : bSum [.lst (xs.map fun x => .int (p x))] L P = P (.int (xs.map p).sum) L := by
  show (∃ ns : List Int, xs.map (fun x => DV.int (p x)) = ns.map DV.int ∧ P (.int ns.sum) L) = _
  refine propext ⟨fun ⟨bs, e, h⟩ => ?_, fun h => ⟨xs.map p, by rw [List.map_map]; rfl, h⟩⟩
  have : bs = xs.map p := by
    have := congrArg (List.map fun d => match d with | .int b => b | _ => 0) e
    simpa [List.map_map, Function.comp_def] using this.symm
  rw [this] at h
  exact h
theorem ixA_ints {ns : List Int} {i : Nat} {lk : Lk P} (h : i < ns.length) : ixA (ns.map DV.int) (i : Int) L P lk = P (.int (ns.getD i 0)) L :=
  ixA_nat (by rw [List.getElem?_map, List.getD_eq_getElem?_getD, List.getElem?_eq_getElem h]; rfl)
theorem ixA_lt {ds : List DV} {i : Nat} {lk : Lk P} (h : i < ds.length) : ixA ds (i : Int) L P lk = P ds[i] L := ixA_nat (List.getElem?_eq_getElem h)
theorem ixA_map {f : α → DV} {i : Nat} {x : α} {lk : Lk P} (h : xs[i]? = some x) : ixA (xs.map f) (i : Int) L P lk = P (f x) L :=
  ixA_nat (by rw [List.getElem?_map, h]; rfl)
theorem rangeD_0 {n : Nat} : rangeD 0 n = (List.range n).map fun i => DV.int (i : Nat) := by
  unfold rangeD; simp
theorem rangeD_e {lo : Int} {n : Nat} : rangeD lo n = (List.range n).map fun i => DV.int (lo + (i : Nat)) := (rfl)
theorem downD_e {lo : Int} {n : Nat} : downD lo n = (List.range n).map fun i => DV.int (lo - (i : Nat)) := (rfl)
theorem enumD_map {e : α → DV} : enumD (xs.map e) = xs.zipIdx.map fun p => DV.tup [.int (p.2 : Nat), e p.1] := by
  unfold enumD
  rw [List.zipIdx_map, List.map_map]; rfl
theorem signs_e {z : Str} : signs z = z.cps.toList.map fun c => DV.str ⟨#[c]⟩ := (rfl)
theorem cut_map {f : α → DV} {lo hi : Option Int} : cut (xs.map f) lo hi = (cut xs lo hi).map f := by
  unfold cut; rw [List.length_map, ← List.map_drop, ← List.map_take]
theorem cut_take {i : Int} (h : 0 ≤ i) : cut xs none (some i) = xs.take i.toNat := by
  unfold cut HT.sIx
  have e : (if i < 0 then (i + (xs.length : Int)).toNat else min i.toNat xs.length) = min i.toNat xs.length := if_neg (by omega)
  show (xs.drop 0).take ((if i < 0 then _ else _) - 0) = _
  rw [e, List.drop_zero, Nat.sub_zero]
  by_cases q : i.toNat ≤ xs.length
  · rw [Nat.min_eq_left q]
  · rw [Nat.min_eq_right (by omega), List.take_length, List.take_of_length_le (by omega)]
theorem cut_takeL {i : Int} (h : 0 ≤ i) : cut xs none (some i) = xs.take i.toNat := cut_take h
theorem cut_takeN {i : Nat} : cut xs none (some (i : Int)) = xs.take i := by rw [cut_take (Int.natCast_nonneg i), Int.toNat_natCast]
theorem cut_drop {i : Int} (h : 0 ≤ i) : cut xs (some i) none = xs.drop i.toNat := by
  unfold cut HT.sIx
  have e : (if i < 0 then (i + (xs.length : Int)).toNat else min i.toNat xs.length) = min i.toNat xs.length := if_neg (by omega)
  show (xs.drop (if i < 0 then _ else _)).take (xs.length - (if i < 0 then _ else _)) = _
  rw [e]
  by_cases q : i.toNat ≤ xs.length
  · rw [Nat.min_eq_left q, List.take_of_length_le (by rw [List.length_drop]; exact Nat.le_refl _)]
  · rw [Nat.min_eq_right (by omega), List.drop_of_length_le (Nat.le_refl _), List.drop_of_length_le (by omega), List.take_nil]
theorem cut_dropN {i : Nat} : cut xs (some (i : Int)) none = xs.drop i := by rw [cut_drop (Int.natCast_nonneg i), Int.toNat_natCast]
theorem cut_dropS {i : Nat} : cut xs (some ((i : Int) + 1)) none = xs.drop (i + 1) := by rw [cut_drop (by omega)]; congr 1
theorem cut_last {n : Int} (h : n < 0) : cut xs (some n) none = xs.drop (n + (xs.length : Int)).toNat := by
  unfold cut HT.sIx
  have e : (if n < 0 then (n + (xs.length : Int)).toNat else min n.toNat xs.length) = (n + (xs.length : Int)).toNat := if_pos h
  show (xs.drop (if n < 0 then _ else _)).take (xs.length - (if n < 0 then _ else _)) = _
  rw [e, List.take_of_length_le (by rw [List.length_drop]; exact Nat.le_refl _)]
end
/-! ### making what does not change -/
/-- what an __init__ makes of its arguments: the values of the fields, or an error -/
abbrev Ini := List DV → Led → (List DV → Prop) → (Addr → Led → Prop) → Prop
def spI (C : Addr) (ks : List Str) (ini : Ini) : ASp := fun ds L P R => ∃ x args dx, ds = .ref x :: args ∧ L x = some (.ins C dx [] []) ∧ ini args L (fun vals => P .non (updL L x (.ins C dx ks vals))) R
def mkI (C : Addr) (ks : List Str) (ini : Ini) : ASp := fun ds L P R => ini ds L (fun vals => P (.ins C ks vals) L) R
def IniMono (ini : Ini) : Prop := ∀ ds L x m K K' R, L x = none → (∀ v, K v → K' v) → ini ds L K R → ini ds (updL L x m) K' R
theorem mkok_I {k : Kx} {C : Addr} {ks : List Str} {ini : Ini} (hm : IniMono ini) : MkOk k C (spI C ks ini) (mkI C ks ini) [] := by
  intro ds L P R h x dx hx
  refine ⟨x, ds, dx, by rw [List.append_nil], updL_same, ?_⟩
  refine hm ds L x _ _ _ R hx (fun v h => ?_) h
  refine ⟨rfl, _, _, FrzD.ins updL_same, ?_⟩
  rw [updL_updL, delL_updL hx]
  exact h
def fnOk (f : Str) (ks : List Str) : Prop := (!ks.contains f && decide (ks.length < 900)) = true
instance (f : Str) (ks : List Str) : Decidable (fnOk f ks) := inferInstanceAs (Decidable (_ = true))
def fnewA (C : Addr) (f : Str) (x d : DV) (L : Led) (q : Led → Prop) (_ : Lk q) : Prop := match x with
  | .ref a => ∃ dx ks ds, L a = some (.ins C dx ks ds) ∧ fnOk f ks ∧ q (updL L a (.ins C dx (ks ++ [f]) (ds ++ [d])))
  | _ => False
theorem xFNew {C : Addr} {f : Str} {te tv : AE} {nx_ bk_ ct_ : Sl → Led → Prop} {rt_ : PD} {px_ : PX} {ρ : Sl} {L : Led} : aFNew C f te tv ⟨nx_, rt_, bk_, ct_, px_⟩ ρ L = tv ρ L (fun d L1 => te ρ L1 (fun x L2 => fnewA C f x d L2 (nx_ ρ) .mk) px_) px_ := (rfl)
theorem fnewA_of {C a dx : Addr} {f : Str} {d : DV} {L : Led} {q : Led → Prop} {lk : Lk q} {ks : List Str} {ds : List DV} (h : L a = some (.ins C dx ks ds)) : fnewA C f (.ref a) d L q lk = (fnOk f ks ∧ q (updL L a (.ins C dx (ks ++ [f]) (ds ++ [d])))) := by
  show (∃ dx ks ds, L a = some (.ins C dx ks ds) ∧ _) = _
  exact propext ⟨fun ⟨dx, ks, ds, e, h1, h2⟩ => by rw [h] at e; cases e; exact ⟨h1, h2⟩, fun z => ⟨_, _, _, h, z⟩⟩
theorem fnewA_upd {C a dx : Addr} {f : Str} {d : DV} {L : Led} {q : Led → Prop} {lk : Lk q} {ks : List Str} {ds : List DV} : fnewA C f (.ref a) d (updL L a (.ins C dx ks ds)) q lk = (fnOk f ks ∧ q (updL L a (.ins C dx (ks ++ [f]) (ds ++ [d])))) := by
  rw [fnewA_of updL_same, updL_updL]
theorem fupdA_dummy : True := trivial
/-- what was made is forgotten at the return -/
theorem frz_sub {k : Kx} {d : DV} {L L2 : Led} {P : PD} {lk : Lk P} (s : Sub L2 L) (h : P d L2) : frzA k d L P lk := ⟨d, L2, FrzD.sub s, h⟩
theorem Sub.over {L0 L : Led} {a : Addr} {m : MO} (s : Sub L0 L) (h : L0 a = Option.none) : Sub L0 (updL L a m) := fun b n e => by
  rw [updL_ne (ne_led e h)]; exact s b n e
/-! ### try -/
def tryPx (K : PySem.W.Frag) (cc : Value) (i : Nat) (suite : Addr → Addr → AS) (nx_ bk_ ct_ : Sl → Led → Prop) (rt_ : PD) (px_ : PX) : PX := fun c ρ' L' => ∃ b, Caught K c cc b ∧ (b = true → ∀ a, suite c a ⟨fun ρ2 L2 => nx_ (ρ2.set i none) L2, rt_, fun ρ2 L2 => bk_ (ρ2.set i none) L2, fun ρ2 L2 => ct_ (ρ2.set i none) L2, noPX⟩ (ρ'.set i (some (.ref a))) L') ∧ (b = false → px_ c ρ' L')
section
variable {K : PySem.W.Frag} {cc : Value} {i : Nat} {suite : Addr → Addr → AS} {nx_ bk_ ct_ : Sl → Led → Prop} {rt_ : PD} {px_ : PX} {tb : AS} {ρ : Sl} {L : Led} {P : PD}
theorem xTryA : aTryA K cc i suite tb ⟨nx_, rt_, bk_, ct_, px_⟩ ρ L = tb ⟨nx_, rt_, bk_, ct_, tryPx K cc i suite nx_ bk_ ct_ rt_ px_⟩ ρ L := (rfl)
theorem isE_of {D a C : Addr} {b : Bool} (h : PySem.W.kitOne K (.ref D) (.ref C) = some b) : bIsE K D a [.ref a, .ref C] L P = P (.bl b) L := by
  show (a = a ∧ ∃ r, PySem.W.kitOne K (.ref D) (.ref C) = some r ∧ P (.bl r) L) = _
  simp [h]
theorem isE_ty {D a : Addr} {n : String} {b : Bool} (h : PySem.W.kitOne K (.ref D) (.type n) = some b) : bIsE K D a [.ref a, .ty n] L P = P (.bl b) L := by
  show (a = a ∧ ∃ r, PySem.W.kitOne K (.ref D) (.type n) = some r ∧ P (.bl r) L) = _
  simp [h]
theorem isE_self {D a : Addr} : bIsE K D a [.ref a, .ref D] L P = P (.bl true) L := isE_of kit_me
end
/-! ### a place of a list is given another value -/
def setA (a : Addr) (i : Int) (d : DV) (L : Led) (q : Led → Prop) (_ : Lk q) : Prop := oSetL (.ref a) (.int i) d L q
section
variable {a : Addr} {i : Int} {d : DV} {L : Led} {q : Led → Prop} {lk : Lk q} {ds : List DV}
theorem oSetL_e : oSetL (.ref a) (.int i) d L q = setA a i d L q .mk := (rfl)
theorem setA_of (h : L a = some (.lst ds)) (h0 : 0 ≤ i) (h1 : i < ds.length) : setA a i d L q lk = q (updL L a (.lst (ds.set i.toNat d))) := by
  have e : ixN ds.length i = some i.toNat := by
    unfold ixN; rw [if_pos h0, if_pos h1]
  refine propext ⟨fun ⟨xs, j, e1, e2, z⟩ => ?_, fun z => ⟨ds, i.toNat, h, e, z⟩⟩
  rw [h] at e1; cases e1
  rw [e] at e2; cases e2
  exact z
theorem setA_upd (h0 : 0 ≤ i) (h1 : i < ds.length) : setA a i d (updL L a (.lst ds)) q lk = q (updL L a (.lst (ds.set i.toNat d))) := by
  rw [setA_of updL_same h0 h1, updL_updL]
end
end AL
namespace AL
open PySem PySem.Spec PyProof.Rows L2

/-! ### nested data compared -/
mutual
def toPy : DV → PyData
  | .non => .none
  | .bl b => .bool b
  | .int i => .int i
  | .str s => .str s
  | .lst xs => .list (toPys xs)
  | .tup xs => .tuple (toPys xs)
  | .ty _ => .none
  | .ref _ => .none
  | .ins _ _ _ => .none
  | .wl _ => .none
def toPys : List DV → List PyData
  | [] => []
  | x :: xs => toPy x :: toPys xs
end
/-- nested at most n deep -/
def pl : Nat → DV → Prop
  | _, .non => True
  | _, .bl _ => True
  | _, .int _ => True
  | _, .str s => PyData.strOk s = true
  | n + 1, .lst xs => ∀ x ∈ xs, pl n x
  | n + 1, .tup xs => ∀ x ∈ xs, pl n x
  | _, _ => False
theorem pl_ok {L : Led} : ∀ (n : Nat) (d : DV), pl n d → PyOf L d (toPy d) ∧ (toPy d).canLay0 = true ∧ (toPy d).depth ≤ n := by
  have lists : ∀ n, (∀ d, pl n d → PyOf L d (toPy d) ∧ (toPy d).canLay0 = true ∧ (toPy d).depth ≤ n) → ∀ xs : List DV, (∀ x ∈ xs, pl n x) → PyOfs L xs (toPys xs) ∧ PyData.canLayAll0 (toPys xs) = true ∧ PyData.depthAll (toPys xs) ≤ n := by
    intro n ih xs
    induction xs with
    | nil => intro _; exact ⟨.nil, rfl, Nat.zero_le _⟩
    | cons x xs ihx =>
      intro h
      obtain ⟨a1, a2, a3⟩ := ih x (h x (List.mem_cons_self ..))
      obtain ⟨b1, b2, b3⟩ := ihx fun y hy => h y (List.mem_cons_of_mem _ hy)
      exact ⟨.cons a1 b1, by rw [toPys, PyData.canLayAll0, a2, b2]; rfl, by rw [toPys, PyData.depthAll]; exact Nat.max_le.mpr ⟨a3, b3⟩⟩
  intro n
  induction n with
  | zero =>
    intro d h
    cases d <;> simp [pl] at h
    case non => exact ⟨.non, rfl, Nat.le_refl _⟩
    case bl => exact ⟨.bl _, rfl, Nat.le_refl _⟩
    case int => exact ⟨.int _, rfl, Nat.le_refl _⟩
    case str => exact ⟨.str _, h, Nat.le_refl _⟩
  | succ n ih =>
    intro d h
    cases d <;> try (simp [pl] at h; done)
    case non => exact ⟨.non, rfl, Nat.zero_le _⟩
    case bl => exact ⟨.bl _, rfl, Nat.zero_le _⟩
    case int => exact ⟨.int _, rfl, Nat.zero_le _⟩
    case str => exact ⟨.str _, (by rw [toPy, PyData.canLay0]; simpa [pl] using h), Nat.zero_le _⟩
    case lst xs =>
      obtain ⟨a, b, c⟩ := lists n ih xs h
      exact ⟨.lst a, by rw [toPy, PyData.canLay0]; exact b, by rw [toPy, PyData.depth]; exact Nat.succ_le_succ c⟩
    case tup xs =>
      obtain ⟨a, b, c⟩ := lists n ih xs h
      exact ⟨.tup a, by rw [toPy, PyData.canLay0]; exact b, by rw [toPy, PyData.depth]; exact Nat.succ_le_succ c⟩
theorem pl_shaped {n : Nat} {d : DV} (h : pl n d) (hn : n ≤ 64) : SeqAt.shaped (toPy d) = true := by
  obtain ⟨_, a, b⟩ := pl_ok (L := fun _ => none) n d h
  unfold SeqAt.shaped
  rw [a, decide_eq_true (Nat.le_trans b hn)]; rfl
/-- nothing that a number and a bool share -/
def plS : Nat → DV → Prop
  | _, .non => True
  | _, .int _ => True
  | _, .str s => PyData.strOk s = true
  | n + 1, .lst xs => ∀ x ∈ xs, plS n x
  | n + 1, .tup xs => ∀ x ∈ xs, plS n x
  | _, _ => False
theorem plS_pl : ∀ (n : Nat) (d : DV), plS n d → pl n d := by
  intro n
  induction n with
  | zero => intro d h; cases d <;> simp [plS] at h <;> simp [pl, h]
  | succ n ih =>
    intro d h
    cases d <;> simp [plS] at h <;> simp [pl, h]
    · exact fun x hx => ih x (h x hx)
    · exact fun x hx => ih x (h x hx)
open Classical in
theorem eqv_dec : ∀ (n : Nat) (d e : DV), plS n d → plS n e → PyData.eqv (toPy d) (toPy e) = decide (d = e) := by
  have lists : ∀ n, (∀ d e, plS n d → plS n e → PyData.eqv (toPy d) (toPy e) = decide (d = e)) → ∀ xs ys : List DV, (∀ x ∈ xs, plS n x) → (∀ y ∈ ys, plS n y) → PyData.eqvAll (toPys xs) (toPys ys) = decide (xs = ys) := by
    intro n ih xs
    induction xs with
    | nil => intro ys _ _; cases ys <;> simp [toPys, PyData.eqvAll]
    | cons x xs ihx =>
      intro ys h1 h2
      cases ys with
      | nil => simp [toPys, PyData.eqvAll]
      | cons y ys =>
        rw [toPys, toPys, PyData.eqvAll, ih x y (h1 x (List.mem_cons_self ..)) (h2 y (List.mem_cons_self ..)), ihx ys (fun z hz => h1 z (List.mem_cons_of_mem _ hz)) fun z hz => h2 z (List.mem_cons_of_mem _ hz)]
        simp
  intro n
  induction n with
  | zero =>
    intro d e h1 h2
    cases d <;> simp [plS] at h1 <;> cases e <;> simp [plS] at h2 <;> simp [toPy, PyData.eqv] <;> first | rfl | (rename_i a b; by_cases q : a = b <;> simp [q])
  | succ n ih =>
    intro d e h1 h2
    cases d <;> simp [plS] at h1 <;> cases e <;> simp [plS] at h2 <;> simp [toPy, PyData.eqv] <;> first | rfl | (exact lists n ih _ _ h1 h2) | (rename_i a b; by_cases q : a = b <;> simp [q])
section
variable {n : Nat} {neg : Bool} {x y : DV} {L : Led} {P : PD} {lk : Lk P}
theorem eqA_go {d e : PyData} (h1 : PyOf L x d) (h2 : PyOf L y e) (s1 : SeqAt.shaped d = true) (s2 : SeqAt.shaped e = true) (hx : (∃ a, x = .lst a) ∨ (∃ a, x = .tup a) ∨ (∃ a, x = .ref a) ∨ (∃ a, y = .lst a) ∨ (∃ a, y = .tup a) ∨ ∃ a, y = .ref a) (h : P (.bl (neg ^^ PyData.eqv d e)) L) : eqA neg x y L P lk := by
  have D : oDeep neg x y L P := ⟨d, e, h1, h2, s1, s2, h⟩
  rcases hx with ⟨a, rfl⟩ | ⟨a, rfl⟩ | ⟨a, rfl⟩ | ⟨a, rfl⟩ | ⟨a, rfl⟩ | ⟨a, rfl⟩
  · cases y <;> exact D
  · cases y <;> exact D
  · cases y <;> exact D
  · cases x <;> exact D
  · cases x <;> exact D
  · cases x <;> exact D
def isSeqD (x : DV) : Prop := (∃ a, x = .lst a) ∨ ∃ a, x = .tup a
theorem eqA_same (hp : pl n x) (h : P (.bl (neg ^^ true)) L) (hn : n ≤ 64 := by decide) (hs : isSeqD x := by first | exact .inl ⟨_, rfl⟩ | exact .inr ⟨_, rfl⟩) : eqA neg x x L P lk := by
  obtain ⟨a, b, c⟩ := pl_ok (L := L) n x hp
  refine eqA_go a a (pl_shaped hp hn) (pl_shaped hp hn) (hs.elim .inl fun z => .inr (.inl z)) ?_
  rw [SeqAt.eqv_refl _ b]; exact h
open Classical in
theorem eqA_dec (hp : plS n x) (hq : plS n y) (h : P (.bl (neg ^^ decide (x = y))) L) (hn : n ≤ 64 := by decide) (hs : isSeqD x ∨ isSeqD y := by first | exact .inl (.inl ⟨_, rfl⟩) | exact .inl (.inr ⟨_, rfl⟩) | exact .inr (.inl ⟨_, rfl⟩) | exact .inr (.inr ⟨_, rfl⟩)) : eqA neg x y L P lk := by
  obtain ⟨a, b, c⟩ := pl_ok (L := L) n x (plS_pl _ _ hp)
  obtain ⟨a', b', c'⟩ := pl_ok (L := L) n y (plS_pl _ _ hq)
  refine eqA_go a a' (pl_shaped (plS_pl _ _ hp) hn) (pl_shaped (plS_pl _ _ hq) hn) (hs.elim (fun z => z.elim .inl fun z => .inr (.inl z)) fun z => z.elim (fun z => .inr (.inr (.inr (.inl z)))) fun z => .inr (.inr (.inr (.inr (.inl z))))) ?_
  rw [eqv_dec n x y hp hq]; exact h
/-- a list of the ledger is compared as its items -/
theorem eqA_refl {a : Addr} {xs : List DV} (e : L a = some (.lst xs)) (h : eqA neg (.lst xs) y L P lk) : eqA neg (.ref a) y L P lk := by
  have D : oDeep neg (.lst xs) y L P := by cases y <;> exact h
  obtain ⟨d, f, h1, h2, s1, s2, h⟩ := D
  cases h1 with
  | lst h1 => exact eqA_go (.ref e h1) h2 s1 s2 (.inr (.inr (.inl ⟨_, rfl⟩))) h
theorem eqA_refr {a : Addr} {ys : List DV} (e : L a = some (.lst ys)) (h : eqA neg x (.lst ys) L P lk) : eqA neg x (.ref a) L P lk := by
  have D : oDeep neg x (.lst ys) L P := by cases x <;> exact h
  obtain ⟨d, f, h1, h2, s1, s2, h⟩ := D
  cases h2 with
  | lst h2 => exact eqA_go h1 (.ref e h2) s1 s2 (.inr (.inr (.inr (.inr (.inr ⟨_, rfl⟩))))) h
theorem plS_ints {ns : List Int} : plS 1 (.lst (ns.map .int)) := fun x hx => by obtain ⟨i, _, rfl⟩ := List.mem_map.mp hx; trivial
theorem plS_intT {ns : List Int} : plS 1 (.tup (ns.map .int)) := fun x hx => by obtain ⟨i, _, rfl⟩ := List.mem_map.mp hx; trivial
theorem pl_ints {ns : List Int} : pl 1 (.lst (ns.map .int)) := plS_pl _ _ plS_ints
theorem ints_inj {ns ms : List Int} : ns.map DV.int = ms.map DV.int ↔ ns = ms :=
  ⟨fun h => by
    have := congrArg (List.map fun d => match d with | DV.int i => i | _ => 0) h
    simpa [List.map_map, Function.comp_def] using this, fun h => by rw [h]⟩
end
theorem ne_lr : (("left" : Str) = "right") = False := eq_false (by decide +kernel)
theorem ne_rl : (("right" : Str) = "left") = False := eq_false (by decide +kernel)
section
variable {neg : Bool} {i : Int} {ns : List Int} {L : Led} {P : PD} {lk : Lk P}
theorem inA_l : inA neg (.int i) (.lst (ns.map DV.int)) L P lk = P (.bl (neg ^^ decide (i ∈ ns))) L := by
  show (flatD (.int i) = true ∧ (ns.map DV.int).all flatD = true ∧ P (.bl (neg ^^ inD (.int i) (ns.map DV.int))) L) = _
  rw [flat_ints, inD_int]; simp [flatD]
theorem inA_t : inA neg (.int i) (.tup (ns.map DV.int)) L P lk = P (.bl (neg ^^ decide (i ∈ ns))) L := by
  show (flatD (.int i) = true ∧ (ns.map DV.int).all flatD = true ∧ P (.bl (neg ^^ inD (.int i) (ns.map DV.int))) L) = _
  rw [flat_ints, inD_int]; simp [flatD]
theorem inA_r {a : Addr} (h : L a = some (.lst (ns.map DV.int))) : inA neg (.int i) (.ref a) L P lk = P (.bl (neg ^^ decide (i ∈ ns))) L := by
  show (flatD (.int i) = true ∧ ∃ ds, L a = some (.lst ds) ∧ ds.all flatD = true ∧ P (.bl (neg ^^ inD (.int i) ds)) L) = _
  rw [h]
  refine propext ⟨fun ⟨_, ds, e, _, z⟩ => ?_, fun z => ⟨rfl, _, rfl, flat_ints ns, by rw [inD_int]; exact z⟩⟩
  cases e
  rw [inD_int] at z; exact z
end
end AL
namespace AL
open PySem PySem.Spec PyProof.Rows L2

/-! ### tuple * int, also 0, 1 and below -/
theorem tuple_mul0 (l : Addr) (items : Array Value) (n : Nat) (dd : Option Addr) (sl : Array (Option Value)) (x : Int) (u : Tok) (c0 : (decide (x < -(2 ^ 63)) || decide (x ≥ 2 ^ 63)) = false) (c1 : (items.isEmpty || x == 1) = false) (c2 : (decide (x ≤ 0) || items.isEmpty) = true) :
    Meets (Builtin.«tuple.__mul__» ⟨[.ref l, .int x u], []⟩) (fun _ R s => s.heap.get? l = some { cls := .type "tuple", dict := dd, data := .seq items n, slots := sl } ∧
      R (.ok (.ret (Value.ref s.heap.objs.size))) { s with heap := s.heap.push { cls := Value.type "tuple", data := Data.seq #[] }, toks := s.toks }) :=
  .of_wp fun prog w A R s h => by
    obtain ⟨hp, g, d, tk, os⟩ := s
    obtain ⟨hl, h⟩ := h
    have f1 := AutoSeq1.idx_int
    wp_walk using wpAny_loadPart' hl
    repeat (first
      | (refine wpAny_ite_false (decide_eq_false (by rw [c0]; exact Bool.false_ne_true)) ?_; wp_walk using wpAny_loadPart' hl)
      | (refine wpAny_ite_false (decide_eq_false (by rw [c1]; exact Bool.false_ne_true)) ?_; wp_walk using wpAny_loadPart' hl)
      | (refine wpAny_ite_true (decide_eq_true c2) ?_; wp_walk using wpAny_loadPart' hl))
    exact ⟨_, rfl, h⟩
theorem tuple_mul1 (l : Addr) (items : Array Value) (n : Nat) (dd : Option Addr) (sl : Array (Option Value)) (x : Int) (u : Tok) (c0 : (decide (x < -(2 ^ 63)) || decide (x ≥ 2 ^ 63)) = false) (c1 : (items.isEmpty || x == 1) = true) :
    Meets (Builtin.«tuple.__mul__» ⟨[.ref l, .int x u], []⟩) (fun _ R s => s.heap.get? l = some { cls := .type "tuple", dict := dd, data := .seq items n, slots := sl } ∧
      R (.ok (.ret (Value.ref l))) s) :=
  .of_wp fun prog w A R s h => by
    obtain ⟨hp, g, d, tk, os⟩ := s
    obtain ⟨hl, h⟩ := h
    have f1 := AutoSeq1.idx_int
    wp_walk using wpAny_loadPart' hl
    repeat (first
      | (refine wpAny_ite_false (decide_eq_false (by rw [c0]; exact Bool.false_ne_true)) ?_; wp_walk using wpAny_loadPart' hl)
      | (refine wpAny_ite_true (decide_eq_true c1) ?_; wp_walk using wpAny_loadPart' hl))
    exact ⟨_, rfl, h⟩
/-- tuple * int, whatever the int -/
def rRepA (K : PySem.W.Frag) : R2 := fun x y H Q => ∃ l k xs, x = .ref l ∧ y = .int k ∧ SqT K H l xs ∧ xs ≠ [] ∧ -1000000 ≤ k ∧ k ≤ 1000 ∧ xs.length ≤ 1000 ∧ (k = 1 → Q (.ref l) H) ∧ (k ≠ 1 → ∀ p, H p = none → Q (.ref p) (upd H p (.tup (List.replicate k.toNat xs).flatten)))
theorem op_repA {X : Cx} : OpR X (binaryOp .Mult) (rRepA X.K) := by
  intro pins s σ H x y v u Q I rx ry h
  obtain ⟨l, k, xs, ex, ey, hT, hne, h0, h2, hz, q1, q⟩ := h
  by_cases hk : 2 ≤ k
  · exact op_repT pins s σ H x y v u Q I rx ry ⟨l, k, xs, ex, ey, hT, hne, hk, h2, hz, q (by omega)⟩
  subst ex ey
  cases rx
  obtain ⟨t, rfl⟩ := ry
  obtain ⟨its, r, ⟨⟨cls, dd, data, sl⟩, ho, hc, n, hd⟩, hs⟩ := I.tuple hT
  simp only at hc hd
  subst hc hd
  have hle : its.length = xs.length := r.length.symm
  have hn : its ≠ [] := fun e => hne (by
    rw [e] at hle
    exact List.eq_nil_of_length_eq_zero hle.symm)
  have hi : its.toArray.isEmpty = false := by
    cases its with
    | nil => exact absurd rfl hn
    | cons a b => rfl
  have c0 : (decide (k < -(2 ^ 63)) || decide (k ≥ 2 ^ 63)) = false := by
    rw [decide_eq_false (by omega), decide_eq_false (by omega)] <;> rfl
  by_cases h1 : k = 1
  · have c1 : (its.toArray.isEmpty || k == 1) = true := by
      rw [hi, Bool.false_or]
      exact beq_iff_eq.mpr h1
    refine wpAny_binaryOp_repeat_ref (T := "tuple") (U := "int") (by decide) ⟨_, ho, rfl⟩ (fun s' => typeIs_int s' k t) noFill_tuple_mul F.fills_int_mul F.slot_int_rmul repeat_tuple F.slot_int_index.lookup
      (call_meets F.slot_int_rmul (typeIs_int s k t) F.entry_int_rmul (F.args_int_rmul_2 _ _) (int_rmul_tuple k t l its.toArray n dd sl)
        ⟨ho, rfl, ⟨_, ho, rfl⟩, call_meets F.slot_tuple_mul ⟨_, ho, rfl⟩ F.entry_tuple_mul (F.args_tuple_mul_2 _ _) (tuple_mul1 l its.toArray n dd sl k t c0 c1) ⟨ho, ?_⟩⟩)
    exact ⟨.ref l, _, I, rfl, q1 h1⟩
  · have c1 : (its.toArray.isEmpty || k == 1) = false := by
      rw [hi, Bool.false_or]
      exact beq_eq_false_iff_ne.mpr h1
    have c2 : (decide (k ≤ 0) || its.toArray.isEmpty) = true := by
      rw [hi, Bool.or_false]
      exact decide_eq_true (by omega)
    have e0 : k.toNat = 0 := by omega
    refine wpAny_binaryOp_repeat_ref (T := "tuple") (U := "int") (by decide) ⟨_, ho, rfl⟩ (fun s' => typeIs_int s' k t) noFill_tuple_mul F.fills_int_mul F.slot_int_rmul repeat_tuple F.slot_int_index.lookup
      (call_meets F.slot_int_rmul (typeIs_int s k t) F.entry_int_rmul (F.args_int_rmul_2 _ _) (int_rmul_tuple k t l its.toArray n dd sl)
        ⟨ho, rfl, ⟨_, ho, rfl⟩, call_meets F.slot_tuple_mul ⟨_, ho, rfl⟩ F.entry_tuple_mul (F.args_tuple_mul_2 _ _) (tuple_mul0 l its.toArray n dd sl k t c0 c1 c2) ⟨ho, ?_⟩⟩)
    refine ⟨.ref s.heap.objs.size, _, I.laid (t' := s.toks) (o := .tup []) (fun b ob q => Heap.get?_push_of_some _ q) (Nat.le_refl _) ?_, rfl, ?_⟩
    · exact ⟨Nat.zero_le _, [], .nil, IsTup.new _ _⟩
    · have := q h1 _ (I.hok.fresh (Nat.le_refl _))
      rw [e0] at this
      exact this
def oMulA (nw : NW) : AR2 := fun x y L P => match x, y with
  | .tup xs, .int k => xs ≠ [] ∧ (-1000000 ≤ k ∧ k ≤ 1000) ∧ xs.length ≤ 1000 ∧ P (.tup (List.replicate k.toNat xs).flatten) L
  | x, y => oMulN nw x y L P
theorem oMulA_ok {k : Kx} {nw : NW} (hn : NwOk nw) : AOp k (fun x y H Q => (rI CMul (fun i j => .int (i * j)) x y H Q ∨ rRep x y H Q) ∨ rRepA k.K x y H Q) (oMulA nw) := by
  intro I F H L x y xv yv P Q A rx ry h q
  unfold oMulA at h
  split at h
  · obtain ⟨h1, h2, h3, h⟩ := h
    cases rx with | tup hx r => ?_
    cases ry
    refine .inr ⟨_, _, _, rfl, rfl, A.imm.t hx, fun e => h1 ?_, h2.1, h2.2, by rw [← r.length]; exact h3, fun e => ?_, fun e p hp => newT_ok A (Rps.rep r _) h q p hp⟩
    · subst e; cases r; rfl
    · subst e
      rw [show (1 : Int).toNat = 1 from rfl, List.replicate_one, List.flatten_singleton] at h
      exact here A (.tup hx r) h q
  · exact .inl (oMulL_ok A rx ry (oMulN_imp hn _ _ _ _ h) q)
section
variable {X : Cx} {W : WX} {a b : Expr} {ta tb : AE} {pos : Pos} {nw : NW} (hn : NwOk nw)
include hn
theorem a_mulA (ha : PE X a (cE X.kx W ta)) (hb : PE X b (cE X.kx W tb)) : PE X (.BinOp a .Mult b pos) (cE X.kx W (aBin (oMulA nw) ta tb)) := a_bin (opMulL.or op_repA) (oMulA_ok hn) ha hb
end
section
variable {L : Led} {P : PD} {nw : NW}
theorem oMulA_ti {xs : List DV} {k : Int} : oMulA nw (.tup xs) (.int k) L P = (xs ≠ [] ∧ (-1000000 ≤ k ∧ k ≤ 1000) ∧ xs.length ≤ 1000 ∧ P (.tup (List.replicate k.toNat xs).flatten) L) := (rfl)
theorem oMulA_ii {i j : Int} : oMulA nw (.int i) (.int j) L P = (CMul i j ∧ P (.int (i * j)) L) := (rfl)
theorem oMulA_li {i : List DV} {j : Int} : oMulA nw (.lst i) (.int j) L P = (-(2 ^ 63) ≤ j ∧ j < 2 ^ 63 ∧ i.length * j.toNat ≤ sizeLine ∧ nw (List.replicate j.toNat i).flatten L P) := (rfl)
end
end AL
namespace AL
open PySem PySem.Spec PyProof.Rows L2

/-! ### texts -/
theorem CallR.or {X : Cx} {f : Value} {r r' : List V → Hp → VK → Prop} (h : CallR X f r) (h' : CallR X f r') : CallR X f (fun xs H Q => r xs H Q ∨ r' xs H Q) :=
  fun pins s σ H xs us Q I v q => q.elim (h pins s σ H xs us Q I v) (h' pins s σ H xs us Q I v)
theorem ACl.or {k : Kx} {r r' : List V → Hp → VK → Prop} {ro ro' : AC} (h : ACl k r ro) (h' : ACl k r' ro') : ACl k (fun xs H Q => r xs H Q ∨ r' xs H Q) (fun ds L P => ro ds L P ∨ ro' ds L P) :=
  fun A rx o q => o.elim (fun z => .inl (h A rx z q)) fun z => .inr (h' A rx z q)
/-- list(text) -/
def rListS : List V → Hp → VK → Prop := fun xs H Q => ∃ z : Str, xs = [.str z] ∧ z.length ≤ sizeLine ∧ ∀ p, H p = none → Q (.ref p) (upd H p (.lst (z.cps.toList.map fun c => V.str ⟨#[c]⟩)))
theorem cr_listS {X : Cx} (hc : X.calm = true) : CallR X (.type "list") rListS := by
  intro pins s σ H vs us Q I r h
  obtain ⟨z, rfl, hz, q⟩ := h
  cases r with
  | cons r1 rs =>
    cases rs
    obtain ⟨t, rfl⟩ := r1
    refine call_list_str (I.ok.hd hc) z t (fun h' tk acc' c' hk hS' hacc => ?_) (hn := hz)
    refine ⟨.ref s.heap.objs.size, _, I.laid (o := .lst (z.cps.toList.map fun c => V.str ⟨#[c]⟩)) (t' := tk) (fun b u q => hk b u q) (Nat.le_refl _) ?_, rfl, q _ (I.hok.fresh (Nat.le_refl _))⟩
    have hl : acc'.toList.length = z.cps.toList.length := by simp [hacc.1]
    refine ⟨by rw [List.length_map]; simpa using (show z.cps.size ≤ sizeLine from hz), acc'.toList, c', ?_, by simpa using hS'⟩
    have gen : ∀ (cs : List Nat) (us : List Value), us.length = cs.length → (∀ (j : Nat) (v : Value), us[j]? = some v → ∃ c u, cs[j]? = some c ∧ v = Value.str ⟨#[c]⟩ u) → Vals (cs.map fun c => V.str ⟨#[c]⟩) us := by
      intro cs
      induction cs with
      | nil => intro us h _; cases us with | nil => exact .nil | cons _ _ => simp at h
      | cons c cs ih =>
        intro us h hh
        cases us with
        | nil => simp at h
        | cons u us =>
          obtain ⟨c', t', e, rfl⟩ := hh 0 u rfl
          simp at e; subst e
          exact .cons ⟨t', rfl⟩ (ih us (by simpa using h) fun j v hv => by
            obtain ⟨c2, u2, e2, e3⟩ := hh (j + 1) v (by simpa using hv)
            exact ⟨c2, u2, by simpa using e2, e3⟩)
    refine gen _ _ hl fun j v hv => ?_
    obtain ⟨c, u, hcc, rfl⟩ := hacc.2 j v (by simpa using hv)
    exact ⟨c, u, by simpa using hcc, rfl⟩
theorem signs_rp {K : PySem.W.Frag} {I : Hp} : ∀ cs : List Nat, Rps K I (cs.map fun c => DV.str ⟨#[c]⟩) (cs.map fun c => V.str ⟨#[c]⟩)
  | [] => .nil
  | c :: cs => .cons (.str _) (signs_rp cs)
def bListS (nw : NW) : AC := fun ds L P => match ds with
  | [.str z] => z.length ≤ sizeLine ∧ nw (signs z) L P
  | _ => False
theorem bListS_ok {k : Kx} {nw : NW} (hn : NwOk nw) : ACl k rListS (bListS nw) := by
  intro I F H L ds vs P Q A r h q
  unfold bListS at h
  split at h
  · rename_i z
    obtain ⟨v, rfl, r1⟩ := one_rp r
    cases r1
    exact ⟨z, rfl, h.1, newL_ok A (signs_rp _) (hn _ _ _ h.2) q⟩
  · exact h.elim
/-- list(..) of a text or of a sequence -/
def bListT (nw : NW) : AC := fun ds L P => match ds with
  | [.str z] => z.length ≤ sizeLine ∧ nw (signs z) L P
  | ds => bListN nw ds L P
theorem bListT_ok {k : Kx} {nw : NW} (hn : NwOk nw) : ACl k (fun xs H Q => rListS xs H Q ∨ (∃ p ys, xs = [.ref p] ∧ (SqL k.K H p ys ∨ SqT k.K H p ys) ∧ ∀ l, H l = none → Q (.ref l) (upd H l (.lst ys)))) (bListT nw) := by
  intro I F H L ds vs P Q A r h q
  unfold bListT at h
  split at h
  · exact .inl (bListS_ok hn A r h q)
  · exact .inr (bList_ok A r (bListN_imp hn _ _ _ h) q)
/-- sign in text -/
def oSin (neg : Bool) : AR2 := fun x y L P => match x, y with
  | .str a, .str z => ∃ c, a = ⟨#[c]⟩ ∧ P (.bl (neg ^^ decide (c ∈ z.cps.toList))) L
  | _, _ => False
theorem oSin_ok {k : Kx} : AOp k (fun x y H Q => ∃ (c : Nat) (z : Str), x = .str ⟨#[c]⟩ ∧ y = .str z ∧ Q (.bl (decide (c ∈ z.cps.toList))) H) (oSin false) := by
  intro I F H L x y xv yv P Q A rx ry h q
  unfold oSin at h
  split at h
  · cases rx; cases ry
    obtain ⟨c, rfl, h⟩ := h
    rw [Bool.false_xor] at h
    exact ⟨c, _, rfl, rfl, here A (.bl _) h q⟩
  · exact h.elim
theorem oSnin_ok {k : Kx} : AOp k (fun x y H Q => ∃ (c : Nat) (z : Str), x = .str ⟨#[c]⟩ ∧ y = .str z ∧ Q (.bl (!decide (c ∈ z.cps.toList))) H) (oSin true) := by
  intro I F H L x y xv yv P Q A rx ry h q
  unfold oSin at h
  split at h
  · cases rx; cases ry
    obtain ⟨c, rfl, h⟩ := h
    rw [Bool.true_xor] at h
    exact ⟨c, _, rfl, rfl, here A (.bl _) h q⟩
  · exact h.elim
/-- methods of a text, one argument -/
def isStrA (d : DV) (q : Str → Prop) : Prop := match d with
  | .str a => q a
  | _ => False
abbrev ASm := Str → DV → Led → PD → Prop
def aSm1 (ro : ASm) (to te : AE) : AE := fun ρ L P px => to ρ L (fun x L1 => isStrA x fun a => te ρ L1 (fun y L2 => ro a y L2 P) px) px
def SmOk (k : Kx) (r : V → List V → Hp → VK → Prop) (ro : ASm) : Prop := ∀ {I F H : Hp} {L : Led} {a : Str} {y : DV} {yv : V} {P : PD} {Q : VK}, Ab k I L F H → Rp k.K I y yv → ro a y L P → Q2 k I F P Q → r (.str a) [yv] H Q
theorem a_sm1 {X : Cx} {W : WX} {e : Expr} {r : V → List V → Hp → VK → Prop} {ro : ASm} {to te : AE} (hr : SmOk X.kx r ro) (h : PE X e (tM1 r (cE X.kx W to) (cE X.kx W te))) : PE X e (cE X.kx W (aSm1 ro to te)) :=
  h.imp fun σ H Q ⟨I, L, F, ρ, P, px, S, h, q⟩ => ⟨I, L, F, ρ, _, px, S, h, fun x L1 xv I1 H1 h1 A1 e1 r1 => by
    cases x <;> first | exact h1.elim | skip
    cases r1
    exact ⟨⟨_, rfl⟩, I1, L1, F, ρ, _, px, S.go A1 e1, h1, fun y L2 yv I2 H2 h2 A2 e2 r2 => hr A2 r2 h2 (q.mono (e1.trans e2))⟩⟩
def sJoin : ASm := fun a y L P => withSq L y fun ds => ∃ ys : List Str, ds = ys.map DV.str ∧ (ys.map (·.length)).sum + ys.length * a.length ≤ 16777216 ∧ P (.str (Txt.join a ys)) L
theorem sJoin_ok {k : Kx} : SmOk k (fun x xs H Q => ∃ a p, ∃ ys : List Str, x = .str a ∧ xs = [.ref p] ∧ (SqL k.K H p (ys.map V.str) ∨ SqT k.K H p (ys.map V.str)) ∧ (ys.map (·.length)).sum + ys.length * a.length ≤ 16777216 ∧ Q (.str (Txt.join a ys)) H) sJoin := by
  intro I F H L a y yv P Q A ry h q
  obtain ⟨p, vs, ds, rfl, hs, r, ys, rfl, hz, h⟩ := withSq_ok A ry h
  rw [r.strs] at hs
  exact ⟨a, p, ys, rfl, rfl, hs, hz, here A (.str _) h q⟩
def sSplit (nw : NW) : ASm := fun a y L P => match y with
  | .str b => (b.length == 0) = false ∧ a.length + 2 ≤ sizeLine ∧ nw ((Txt.split a b).map DV.str) L P
  | _ => False
theorem strs_rp {K : PySem.W.Frag} {I : Hp} : ∀ ys : List Str, Rps K I (ys.map DV.str) (ys.map V.str)
  | [] => .nil
  | c :: cs => .cons (.str _) (strs_rp cs)
theorem sSplit_ok {k : Kx} {nw : NW} (hn : NwOk nw) : SmOk k (fun x xs H Q => ∃ a b, x = .str a ∧ xs = [.str b] ∧ (b.length == 0) = false ∧ a.length + 2 ≤ sizeLine ∧ rNewStrs (Txt.split a b) H Q) (sSplit nw) := by
  intro I F H L a y yv P Q A ry h q
  cases y <;> first | exact h.elim | skip
  cases ry
  exact ⟨a, _, rfl, rfl, h.1, h.2.1, newL_ok A (strs_rp _) (hn _ _ _ h.2.2) q⟩
def sRempre : ASm := fun a y L P => match y with
  | .str b => a.length ≤ sizeLine ∧ P (.str (Txt.removeprefix a b)) L
  | _ => False
theorem sRempre_ok {k : Kx} : SmOk k (fun x xs H Q => ∃ a b, x = .str a ∧ xs = [.str b] ∧ a.length ≤ sizeLine ∧ Q (.str (Txt.removeprefix a b)) H) sRempre := by
  intro I F H L a y yv P Q A ry h q
  cases y <;> first | exact h.elim | skip
  cases ry
  exact ⟨a, _, rfl, rfl, h.1, here A (.str _) h.2 q⟩
/-- int(..) of a text too -/
def bIntT : AC := fun ds L P => match ds with
  | [.str a] => ∃ n, PySem.intText? a = some n ∧ a.length ≤ 640 ∧ P (.int n) L
  | ds => bInt ds L P
theorem bIntT_ok {k : Kx} : ACl k (fun xs H Q => (∃ a n, xs = [.str a] ∧ PySem.intText? a = some n ∧ a.length ≤ 640 ∧ Q (.int n) H) ∨ ((∃ i, xs = [.int i] ∧ Q (.int i) H) ∨ ∃ k, xs = [.bl k] ∧ Q (.int (if k then 1 else 0)) H)) bIntT := by
  intro I F H L ds vs P Q A r h q
  unfold bIntT at h
  split at h
  · obtain ⟨v, rfl, r1⟩ := one_rp r
    cases r1
    obtain ⟨n, h1, h2, h⟩ := h
    exact .inl ⟨_, n, rfl, h1, h2, here A (.int _) h q⟩
  · exact .inr (bInt_ok A r h q)
section
variable {X : Cx} {W : WX} {a b o e : Expr} {ta tb to te : AE} {t : AA} {p pos apos : Pos} {nw : NW}
theorem a_sin (ha : PE X a (cE X.kx W ta)) (hb : PE X b (cE X.kx W tb)) (hm : behindInMarks .In b = false := by rfl) : PE X (.Compare a [.In] [b] pos) (cE X.kx W (aBin (oSin false) ta tb)) := a_cmp op_in_sign oSin_ok ha hb hm
theorem t_sin (ha : PE X a (cE X.kx W ta)) (hb : PE X b (cE X.kx W tb)) (hm : behindInMarks .In b = false := by rfl) : PT X (.Compare a [.In] [b] pos) (cT X.kx W (aTest (aBin (oSin false) ta tb))) := t_cmp op_in_sign oSin_ok ha hb hm
theorem a_snin (ha : PE X a (cE X.kx W ta)) (hb : PE X b (cE X.kx W tb)) (hm : behindInMarks .NotIn b = false := by rfl) : PE X (.Compare a [.NotIn] [b] pos) (cE X.kx W (aBin (oSin true) ta tb)) := a_cmp op_notIn_sign oSnin_ok ha hb hm
theorem t_snin (ha : PE X a (cE X.kx W ta)) (hb : PE X b (cE X.kx W tb)) (hm : behindInMarks .NotIn b = false := by rfl) : PT X (.Compare a [.NotIn] [b] pos) (cT X.kx W (aTest (aBin (oSin true) ta tb))) := t_cmp op_notIn_sign oSnin_ok ha hb hm
theorem a_join (ho : PE X o (cE X.kx W to)) (he : PE X e (cE X.kx W te)) (hs : starEach [e] X.env = [(false, eval e X.env)] := by rfl) (hbase : attributeBase o "join" X.env (eval o X.env) = eval o X.env := by rfl) (hline : (apos.endLine == pos.line) = true := by rfl) : PE X (.Call (.Attribute o "join" apos) [e] [] pos) (cE X.kx W (aSm1 sJoin to te)) := a_sm1 sJoin_ok (pe_join ho he hs hbase hline)
theorem a_split (hn : NwOk nw) (ho : PE X o (cE X.kx W to)) (he : PE X e (cE X.kx W te)) (hs : starEach [e] X.env = [(false, eval e X.env)] := by rfl) (hbase : attributeBase o "split" X.env (eval o X.env) = eval o X.env := by rfl) (hline : (apos.endLine == pos.line) = true := by rfl) : PE X (.Call (.Attribute o "split" apos) [e] [] pos) (cE X.kx W (aSm1 (sSplit nw) to te)) := a_sm1 (sSplit_ok hn) (pe_split ho he hs hbase hline)
theorem a_listT (hc : X.calm = true) (hn : NwOk nw) (hg : Gl X "list") (hm : X.mg "list" = none) (ha : PA X [e] (cA X.kx W t)) (he : starEach [e] X.env = (false, eval e X.env) :: starEach [] X.env := by rfl) : PE X (.Call (.Name "list" p) [e] [] pos) (cE X.kx W (aCB (bListT nw) t)) := a_callTy ((cr_listS hc).or call_list_of) (bListT_ok hn) hg hm (by decide +kernel) ha (he := he)
end
section
variable {L : Led} {P : PD} {nw : NW}
theorem bListT_s {z : Str} : bListT nw [.str z] L P = (z.length ≤ sizeLine ∧ nw (signs z) L P) := (rfl)
theorem bListT_l {ds : List DV} : bListT nw [.lst ds] L P = nw ds L P := (rfl)
theorem bListT_t {ds : List DV} : bListT nw [.tup ds] L P = nw ds L P := (rfl)
theorem bListT_r {a : Addr} : bListT nw [.ref a] L P = withL L (.ref a) fun ds => nw ds L P := (rfl)
theorem bIntT_s {a : Str} : bIntT [.str a] L P = ∃ n, PySem.intText? a = some n ∧ a.length ≤ 640 ∧ P (.int n) L := (rfl)
theorem bIntT_i {i : Int} : bIntT [.int i] L P = P (.int i) L := (rfl)
theorem oSin_e {n : Bool} {c : Nat} {z : Str} : oSin n (.str ⟨#[c]⟩) (.str z) L P = P (.bl (n ^^ decide (c ∈ z.cps.toList))) L := by
  show (∃ c', (⟨#[c]⟩ : Str) = ⟨#[c']⟩ ∧ P (.bl (n ^^ decide (c' ∈ z.cps.toList))) L) = _
  refine propext ⟨fun ⟨c', e, h⟩ => ?_, fun h => ⟨c, rfl, h⟩⟩
  simp at e; subst e; exact h
theorem xSm1 {ro : ASm} {to te : AE} {ρ : Sl} {px : PX} : aSm1 ro to te ρ L P px = to ρ L (fun x L1 => isStrA x fun a => te ρ L1 (fun y L2 => ro a y L2 P) px) px := (rfl)
theorem isStrA_s {a : Str} {q : Str → Prop} : isStrA (.str a) q = q a := (rfl)
theorem sSplit_s {a b : Str} : sSplit nw a (.str b) L P = ((b.length == 0) = false ∧ a.length + 2 ≤ sizeLine ∧ nw ((Txt.split a b).map DV.str) L P) := (rfl)
theorem sRempre_s {a b : Str} : sRempre a (.str b) L P = (a.length ≤ sizeLine ∧ P (.str (Txt.removeprefix a b)) L) := (rfl)
def joinA (a : Str) (ds : List DV) (L : Led) (P : PD) (_ : Lk P) : Prop := ∃ ys : List Str, ds = ys.map DV.str ∧ (ys.map (·.length)).sum + ys.length * a.length ≤ 16777216 ∧ P (.str (Txt.join a ys)) L
theorem sJoin_l {a : Str} {ds : List DV} : sJoin a (.lst ds) L P = joinA a ds L P .mk := (rfl)
theorem sJoin_t {a : Str} {ds : List DV} : sJoin a (.tup ds) L P = joinA a ds L P .mk := (rfl)
theorem sJoin_r {a : Str} {b : Addr} : sJoin a (.ref b) L P = withSq L (.ref b) fun ds => joinA a ds L P .mk := (rfl)
end
theorem leLine' {n : Nat} (h : n ≤ 1000000) : n ≤ sizeLine := Nat.le_trans h (by rw [sizeLine_eq]; decide)
/-! ### a text by its signs -/
def tx (cs : List Nat) : Str := ⟨cs.toArray⟩
section
variable {cs ds : List Nat} {L : Led} {P : PD} {i : Int}
theorem tx_of (z : Str) : z = tx z.cps.toList := by cases z; simp [tx]
theorem tx_list : (tx cs).cps.toList = cs := by simp [tx]
theorem tx_length : (tx cs).length = cs.length := by simp [tx, Str.length]
theorem tx_app : tx cs ++ tx ds = tx (cs ++ ds) := by
  show Str.append (tx cs) (tx ds) = _
  simp [Str.append, tx]
theorem tx_one {c : Nat} : (⟨#[c]⟩ : Str) = tx [c] := rfl
theorem tx_inj : tx cs = tx ds ↔ cs = ds := ⟨fun h => by have := congrArg (fun z : Str => z.cps.toList) h; simpa [tx] using this, fun h => by rw [h]⟩
theorem signs_tx : signs (tx cs) = cs.map fun c => DV.str (tx [c]) := by unfold signs; rw [tx_list]; rfl
theorem cutS_tx {lo hi : Option Int} : cutS (tx cs) lo hi = tx (cut cs lo hi) := by
  unfold cutS cut tx
  simp [Str.length]
theorem glued_tx : ∀ (ps : List (List Nat)) (a : List Nat), (ps.map tx).foldl (fun acc p => acc ++ (tx []).cps ++ p.cps) a.toArray = (a ++ ps.flatten).toArray
  | [], a => by simp
  | p :: ps, a => by
    rw [List.map_cons, List.foldl_cons]
    have := glued_tx ps (a ++ p)
    rw [List.flatten_cons, ← List.append_assoc, ← this]
    congr 1
    simp [tx]
theorem join_tx (ps : List (List Nat)) : Txt.join (tx []) (ps.map tx) = tx ps.flatten := by
  show (⟨((ps.map tx).drop 1).foldl (fun acc p => acc ++ (tx []).cps ++ p.cps) ((ps.map tx).headD Str.empty).cps⟩ : Str) = _
  cases ps with
  | nil => rfl
  | cons p ps =>
    have := glued_tx ps p
    simp only [List.map_cons, List.drop_succ_cons, List.drop_zero, List.headD_cons, List.flatten_cons]
    show (⟨(ps.map tx).foldl (fun acc p => acc ++ (tx []).cps ++ p.cps) p.toArray⟩ : Str) = _
    rw [this]; rfl
theorem join_signs (cs : List Nat) : Txt.join (tx []) (cs.map fun c => tx [c]) = tx cs := by
  have := join_tx (cs.map fun c => [c])
  rw [List.map_map] at this
  rw [show ((cs.map fun c => tx [c])) = cs.map (tx ∘ fun c => [c]) from rfl, this]
  congr 1
  induction cs with
  | nil => rfl
  | cons c cs ih => rw [List.map_cons, List.flatten_cons, ih (by
      have := join_tx (cs.map fun c => [c])
      rwa [List.map_map] at this)]; rfl
theorem joinA_signs {lk : Lk P} (h : cs.length ≤ 1000000) : joinA (tx []) (cs.map fun c => DV.str (tx [c])) L P lk = P (.str (tx cs)) L := by
  refine propext ⟨fun ⟨ys, e, _, h⟩ => ?_, fun q => ⟨cs.map fun c => tx [c], by rw [List.map_map]; rfl, ?_, by rw [join_signs]; exact q⟩⟩
  · have : ys = cs.map fun c => tx [c] := by
      have := congrArg (List.map fun d => match d with | DV.str z => z | _ => tx []) e
      simpa [List.map_map, Function.comp_def] using this.symm
    rw [this, join_signs] at h; exact h
  · have e : ∀ cs : List Nat, ((cs.map fun c => tx [c]).map (·.length)).sum = cs.length := fun cs => by
      induction cs with
      | nil => rfl
      | cons c cs ih => rw [List.map_cons, List.map_cons, List.sum_cons, ih, tx_length]; simp; omega
    rw [e, tx_length]; simp; omega
def sxA (cs : List Nat) (i : Int) (L : Led) (P : PD) (_ : Lk P) : Prop := (tx cs).length ≤ sizeLine ∧ ∃ c, atI cs i = some c ∧ P (.str (tx [c])) L
theorem oIx_s : oIx (.str (tx cs)) (.int i) L P = sxA cs i L P .mk := by
  show ((tx cs).length ≤ sizeLine ∧ ∃ c, atI (tx cs).cps.toList i = some c ∧ P (.str ⟨#[c]⟩) L) = _
  rw [tx_list]; rfl
theorem sxA_of {lk : Lk P} {c : Nat} (hl : cs.length ≤ 1000000) (h : atI cs i = some c) : sxA cs i L P lk = P (.str (tx [c])) L := by
  refine propext ⟨fun ⟨_, c', e, q⟩ => ?_, fun q => ⟨by rw [tx_length]; exact leLine' hl, c, h, q⟩⟩
  rw [h] at e; cases e; exact q
theorem oSin_tx {n : Bool} {c : Nat} {z : List Nat} : oSin n (.str (tx [c])) (.str (tx z)) L P = P (.bl (n ^^ decide (c ∈ z))) L := by
  rw [show DV.str (tx [c]) = DV.str ⟨#[c]⟩ from rfl, oSin_e, tx_list]
end
/-! ### dicts of the module -/
/-- the written dict p holds the data d at the text key z -/
def KdV (k : Kx) (p : Addr) (z : Str) (d : DV) : Prop := ∃ v, KDct k.K k.w p z v ∧ ∀ I, Rp k.K I d v
def oKd (k : Kx) : AR2 := fun x y L P => match x, y with
  | .ref p, .str z => ∃ d, KdV k p z d ∧ P d L
  | _, _ => False
theorem oKd_ok {k : Kx} : AOp k (rIxD k.K k.w) (oKd k) := by
  intro I F H L x y xv yv P Q A rx ry h q
  cases x <;> first | exact h.elim | skip
  cases y <;> first | exact h.elim | skip
  cases rx; cases ry
  obtain ⟨d, ⟨v, kd, r⟩, h⟩ := h
  exact ⟨_, _, v, rfl, rfl, kd, here A (r I) h q⟩
theorem a_kd {X : Cx} {W : WX} {a b : Expr} {ta tb : AE} {pos : Pos} (ha : PE X a (cE X.kx W ta)) (hb : PE X b (cE X.kx W tb)) (hs : PlainIx b := by intro _ _; rfl) : PE X (.Subscript a b pos) (cE X.kx W (aBin (oKd X.kx) ta tb)) := a_ix ix_kdict oKd_ok ha hb hs
def kdA (k : Kx) (p : Addr) (z : Str) (L : Led) (P : PD) (_ : Lk P) : Prop := ∃ d, KdV k p z d ∧ P d L
theorem oKd_e {k : Kx} {p : Addr} {z : Str} {L : Led} {P : PD} : oKd k (.ref p) (.str z) L P = kdA k p z L P .mk := (rfl)
theorem kd_ok {k : Kx} {p : Addr} {z : Str} {L : Led} {P : PD} {lk : Lk P} {d : DV} (h : KdV k p z d) (q : P d L) : kdA k p z L P lk := ⟨d, h, q⟩
theorem a_intT {X : Cx} {W : WX} {e : Expr} {t : AA} {p pos : Pos} (hg : Gl X "int") (hm : X.mg "int" = none) (ha : PA X [e] (cA X.kx W t)) (he : starEach [e] X.env = (false, eval e X.env) :: starEach [] X.env := by rfl) : PE X (.Call (.Name "int" p) [e] [] pos) (cE X.kx W (aCB bIntT t)) := a_callTy (call_int_str.or call_int1) bIntT_ok hg hm (by decide +kernel) ha (he := he)
theorem flat_strs (ns : List Str) : (ns.map DV.str).all flatD = true := by rw [List.all_map]; exact List.all_eq_true.mpr fun _ _ => rfl
theorem inD_str (i : Str) : ∀ ns : List Str, inD (.str i) (ns.map DV.str) = decide (i ∈ ns)
  | [] => rfl
  | n :: ns => by
    have ih := inD_str i ns
    have e : inD (.str i) ((n :: ns).map DV.str) = (decide (n = i) || inD (.str i) (ns.map DV.str)) := rfl
    rw [e, ih]
    by_cases h : n = i
    · subst h; simp
    · simp [h, Ne.symm h]
theorem inA_st {neg : Bool} {i : Str} {ns : List Str} {L : Led} {P : PD} {lk : Lk P} {xs : List DV} (e : xs = ns.map DV.str) : inA neg (.str i) (.tup xs) L P lk = P (.bl (neg ^^ decide (i ∈ ns))) L := by
  subst e
  show (flatD (.str i) = true ∧ (ns.map DV.str).all flatD = true ∧ P (.bl (neg ^^ inD (.str i) (ns.map DV.str))) L) = _
  rw [flat_strs, inD_str]; simp [flatD]
/-! ### text * int -/
theorem op_mulS {X : Cx} : OpR X (binaryOp .Mult) (fun x y H Q => ∃ a k, x = .str a ∧ y = .int k ∧ MulOk a k ∧ Q (.str (Txt.mul a k)) H) := by
  intro pins s σ H x y v u Q I rx ry h
  obtain ⟨a, k, rfl, rfl, hk, q⟩ := h
  obtain ⟨t, rfl⟩ := rx
  obtain ⟨t', rfl⟩ := ry
  exact SB.mul hk fun t' k' => ⟨.str _, H, I.tok k', ⟨t', rfl⟩, q⟩
def oMulT (nw : NW) : AR2 := fun x y L P => match x, y with
  | .str a, .int k => MulOk a k ∧ P (.str (Txt.mul a k)) L
  | x, y => oMulA nw x y L P
theorem oMulT_ok {k : Kx} {nw : NW} (hn : NwOk nw) : AOp k (fun x y H Q => ((rI CMul (fun i j => .int (i * j)) x y H Q ∨ rRep x y H Q) ∨ rRepA k.K x y H Q) ∨ ∃ a k, x = .str a ∧ y = .int k ∧ MulOk a k ∧ Q (.str (Txt.mul a k)) H) (oMulT nw) := by
  intro I F H L x y xv yv P Q A rx ry h q
  unfold oMulT at h
  split at h
  · cases rx; cases ry
    exact .inr ⟨_, _, rfl, rfl, h.1, here A (.str _) h.2 q⟩
  · exact .inl (oMulA_ok hn A rx ry h q)
section
variable {X : Cx} {W : WX} {a b : Expr} {ta tb : AE} {pos : Pos} {nw : NW} (hn : NwOk nw)
include hn
theorem a_mulT (ha : PE X a (cE X.kx W ta)) (hb : PE X b (cE X.kx W tb)) : PE X (.BinOp a .Mult b pos) (cE X.kx W (aBin (oMulT nw) ta tb)) := a_bin ((opMulL.or op_repA).or op_mulS) (oMulT_ok hn) ha hb
end
section
variable {L : Led} {P : PD} {nw : NW}
theorem oMulT_ti {xs : List DV} {k : Int} : oMulT nw (.tup xs) (.int k) L P = (xs ≠ [] ∧ (-1000000 ≤ k ∧ k ≤ 1000) ∧ xs.length ≤ 1000 ∧ P (.tup (List.replicate k.toNat xs).flatten) L) := (rfl)
theorem oMulT_ii {i j : Int} : oMulT nw (.int i) (.int j) L P = (CMul i j ∧ P (.int (i * j)) L) := (rfl)
theorem oMulT_li {i : List DV} {j : Int} : oMulT nw (.lst i) (.int j) L P = (-(2 ^ 63) ≤ j ∧ j < 2 ^ 63 ∧ i.length * j.toNat ≤ sizeLine ∧ nw (List.replicate j.toNat i).flatten L P) := (rfl)
theorem oMulT_si {a : Str} {k : Int} : oMulT nw (.str a) (.int k) L P = (MulOk a k ∧ P (.str (Txt.mul a k)) L) := (rfl)
end
theorem mul_tx {cs : List Nat} {k : Nat} (h1 : k ≤ 1000) (h2 : cs.length ≤ 1000) : MulOk (tx cs) (k : Int) ∧ Txt.mul (tx cs) (k : Int) = tx (List.replicate k cs).flatten := by
  have gen : ∀ (n : Nat) (a : List Nat), (List.replicate n (tx cs).cps).foldl (· ++ ·) a.toArray = (a ++ (List.replicate n cs).flatten).toArray := by
    intro n
    induction n with
    | zero => intro a; simp
    | succ n ih =>
      intro a
      rw [List.replicate_succ, List.foldl_cons, List.replicate_succ, List.flatten_cons, ← List.append_assoc, ← ih]
      congr 1
      simp [tx]
  refine ⟨⟨?_, fun h3 h4 => ?_, fun h3 h4 => ?_⟩, ?_⟩
  · rw [decide_eq_false (by omega), decide_eq_false (by omega)]; rfl
  · rw [tx_length]
    have hk : (1 : Int) ≤ k := by omega
    have hk2 : (k : Int) ≤ 1000 := by omega
    have : (1000 : Int) ≤ (2 ^ 63 - 1) / (k : Int) := (Int.le_ediv_iff_mul_le (by omega)).mpr (by omega)
    omega
  · unfold Builtin.Str.tooLong
    rw [tx_length]
    rw [Int.toNat_natCast]
    have : cs.length * k ≤ 1000 * 1000 := Nat.mul_le_mul h2 h1
    exact decide_eq_false (by rw [sizeLine_eq]; omega)
  · unfold Txt.mul
    by_cases h0 : (k : Int) < 1
    · rw [if_pos h0]
      have : k = 0 := by omega
      subst this; rfl
    · rw [if_neg h0]
      by_cases h3 : ((k : Int) == 1 || (tx cs).length == 0) = true
      · rw [if_pos h3]
        rw [tx_length] at h3
        simp at h3
        rcases h3 with h3 | h3
        · have : k = 1 := by omega
          subst this; simp
        · subst h3; simp
      · rw [if_neg h3, Int.toNat_natCast]
        have := gen k []
        simp only [List.nil_append] at this
        show (⟨(List.replicate k (tx cs).cps).foldl (· ++ ·) (#[] : Array Nat)⟩ : Str) = _
        rw [show (#[] : Array Nat) = ([] : List Nat).toArray from rfl, this]; rfl
end AL
namespace AL
open PySem PySem.Spec PyProof.Rows L2

/-! ### nested data in a list -/
def oInD (neg : Bool) : AR2 := fun x y L P => ∃ d ds, PyOf L x d ∧ PyOf L y (.list ds) ∧ SeqAt.shaped d = true ∧ SeqAt.shaped (.list ds) = true ∧ P (.bl (neg ^^ ds.any fun z => PyData.eqv z d)) L
theorem oInD_ok {k : Kx} : AOp k (rInD k.K) (oInD false) := by
  intro I F H L x y xv yv P Q A rx ry h q
  obtain ⟨d, ds, h1, h2, s1, s2, h⟩ := h
  exact ⟨d, ds, h1.dp A rx, h2.dp A ry, s1, s2, here A (.bl _) (by rw [Bool.false_xor] at h; exact h) q⟩
theorem oNinD_ok {k : Kx} : AOp k (rNotInD k.K) (oInD true) := by
  intro I F H L x y xv yv P Q A rx ry h q
  obtain ⟨d, ds, h1, h2, s1, s2, h⟩ := h
  exact ⟨d, ds, h1.dp A rx, h2.dp A ry, s1, s2, here A (.bl _) (by rw [Bool.true_xor] at h; exact h) q⟩
section
variable {X : Cx} {W : WX} {a b : Expr} {ta tb : AE} {pos : Pos} {kk : Nat}
theorem units65 (hr : Room kk X.A) : X.A.units + 65 < cLine := by have := hr.un; omega
theorem a_Din (hr : Room kk X.A) (ha : PE X a (cE X.kx W ta)) (hb : PE X b (cE X.kx W tb)) (hm : behindInMarks .In b = false := by rfl) : PE X (.Compare a [.In] [b] pos) (cE X.kx W (aBin (oInD false) ta tb)) := a_cmp (op_inD (units65 hr)) oInD_ok ha hb hm
theorem t_Din (hr : Room kk X.A) (ha : PE X a (cE X.kx W ta)) (hb : PE X b (cE X.kx W tb)) (hm : behindInMarks .In b = false := by rfl) : PT X (.Compare a [.In] [b] pos) (cT X.kx W (aTest (aBin (oInD false) ta tb))) := t_cmp (op_inD (units65 hr)) oInD_ok ha hb hm
theorem a_Dnin (hr : Room kk X.A) (ha : PE X a (cE X.kx W ta)) (hb : PE X b (cE X.kx W tb)) (hm : behindInMarks .NotIn b = false := by rfl) : PE X (.Compare a [.NotIn] [b] pos) (cE X.kx W (aBin (oInD true) ta tb)) := a_cmp (op_notInD (units65 hr)) oNinD_ok ha hb hm
theorem t_Dnin (hr : Room kk X.A) (ha : PE X a (cE X.kx W ta)) (hb : PE X b (cE X.kx W tb)) (hm : behindInMarks .NotIn b = false := by rfl) : PT X (.Compare a [.NotIn] [b] pos) (cT X.kx W (aTest (aBin (oInD true) ta tb))) := t_cmp (op_notInD (units65 hr)) oNinD_ok ha hb hm
end
section
variable {neg : Bool} {x : DV} {xs : List DV} {L : Led} {P : PD}
def inDA (neg : Bool) (x y : DV) (L : Led) (P : PD) (_ : Lk P) : Prop := oInD neg x y L P
theorem oInD_e {y : DV} : oInD neg x y L P = inDA neg x y L P .mk := (rfl)
theorem toPys_map (xs : List DV) : toPys xs = xs.map toPy := by
  induction xs with
  | nil => rfl
  | cons x xs ih => rw [toPys, ih]; rfl
open Classical in
theorem any_dec {n : Nat} (hx : plS n x) : ∀ xs : List DV, (∀ y ∈ xs, plS n y) → ((toPys xs).any fun z => PyData.eqv z (toPy x)) = decide (x ∈ xs)
  | [], _ => by simp [toPys]
  | y :: ys, h => by
    rw [toPys, List.any_cons, any_dec hx ys fun z hz => h z (List.mem_cons_of_mem _ hz), eqv_dec n y x (h y (List.mem_cons_self ..)) hx]
    by_cases e : y = x
    · subst e; simp
    · simp [e, Ne.symm e]
open Classical in
/-- x in a list of data that hold no bools -/
theorem inDA_l {n : Nat} {lk : Lk P} (hx : plS n x) (hs : ∀ y ∈ xs, plS n y) (hn : n ≤ 60) (h : P (.bl (neg ^^ decide (x ∈ xs))) L) : inDA neg x (.lst xs) L P lk := by
  obtain ⟨a, b, c⟩ := pl_ok (L := L) n x (plS_pl _ _ hx)
  have hp : pl (n + 1) (.lst xs) := plS_pl (n + 1) (.lst xs) hs
  obtain ⟨a', b', c'⟩ := pl_ok (L := L) (n + 1) (.lst xs) hp
  refine ⟨toPy x, toPys xs, a, a', pl_shaped (plS_pl _ _ hx) (by omega), pl_shaped hp (by omega), ?_⟩
  rw [any_dec hx xs hs]; exact h
open Classical in
theorem inDA_r {n : Nat} {a : Addr} {lk : Lk P} (e : L a = some (.lst xs)) (hx : plS n x) (hs : ∀ y ∈ xs, plS n y) (hn : n ≤ 60) (h : P (.bl (neg ^^ decide (x ∈ xs))) L) : inDA neg x (.ref a) L P lk := by
  obtain ⟨d, ds, h1, h2, s1, s2, h⟩ : oInD neg x (.lst xs) L P := inDA_l (lk := .mk) hx hs hn h
  cases h2 with
  | lst h2 => exact ⟨d, ds, h1, .ref e h2, s1, s2, h⟩
end
end AL
/-! ### enumerate of a text -/
namespace PySem
open Sem (wp)
theorem endS {prog : Program} {w : World} {A : Around} {E : Value → Shared → Prop} {s : Shared} {e it : Addr} {z : Str} {t : Tok} {k i : Nat} {old : Value} {Q : Option Value → Shared → Prop} (hh : A.in1.handled = none)
    (he : IsEnum s.heap e it (k : Nat) old) (hit : s.heap.IsStrIter it (strIterType z) z t i) (hx : z.cps.size ≤ i)
    (hQ : ∀ h', Heap.ExtBut it s.heap h' → Q none { s with heap := h' }) : wpAny (model prog w) A (pyNext (.ref e)) Q E s := by
  have hT : s.TypeIs (.ref e) "enumerate" := ⟨_, he, rfl⟩
  unfold pyNext
  refine wpAny_bind (wpAny_attempt (wpAny_callSpecial?_slot (name := Str.ofString "__next__") hT F.slot_enumerate_next
    (wpAny_call_entry F.slot_enumerate_next hT F.entry_enumerate_next ?_ (F.args_enumerate_next_1 _))))
  show wpAny _ _ (field (.ref e) 2 >>= _) _ _ _
  refine wpAny_bind (wpAny_field he rfl (x := .ref it) rfl ?_)
  have hx' : z.cps[i]? = none := Array.getElem?_eq_none hx
  have go : ∀ {Q2 : Value → Shared → Prop} {E2 : Value → Shared → Prop}, (∀ h' e, Heap.ExtBut it s.heap h' → (∃ o, h'.get? e = some o ∧ o.cls = .type "StopIteration") → E2 (.ref e) { s with heap := h' }) → wpAny (model prog w) A.in1 (Builtin.SmallTypes.nextOf (.ref it)) Q2 E2 s := by
    intro Q2 E2 h
    cases ha : z.cps.all (· < 128)
    · have e : strIterType z = "str_iterator" := by simp only [strIterType, ha, Bool.false_eq_true, if_false]
      rw [e] at hit
      exact wpAny_nextOf_wide_end hh hit hx' h
    · have e : strIterType z = "str_ascii_iterator" := by simp only [strIterType, ha, if_true]
      rw [e] at hit
      exact wpAny_nextOf_ascii_end hh hit hx' h
  refine wpAny_bind (go fun h' x he' hx' => ?_)
  obtain ⟨o, ho, hc⟩ := hx'
  refine wpAny_bind (wpAny_isInstance (T := "StopIteration") (b := true) ⟨o, ho, hc⟩ isSubtype_stop ?_)
  exact wpAny_pure (hQ _ he')
end PySem
namespace AL
open PySem PySem.Spec PyProof.Rows L2
def Ites (z : Str) : It :=
  ⟨fun i _ => i < z.cps.size, fun i H v H' => ∃ T c, v = .ref T ∧ H T = none ∧ z.cps[i]? = some c ∧ H' = upd H T (.tup [.int (i : Nat), .str ⟨#[c]⟩]), fun i _ => z.cps.size ≤ i⟩
theorem turn_enumS {P : Program} {w : World} {K : PySem.W.Frag} {elts : List Expr} {kk : Nat} {tpos : Pos} (z : Str) (t : Tok) (e it : Addr) :
    Turn P w K (.Tuple elts kk tpos) (Ites z) [e, it] e (fun i h => (∃ old, IsEnum h e it ((i : Nat) : Int) old) ∧ h.IsStrIter it (strIterType z) z t i ∧ e ≠ it) where
  mem := by simp
  obj := fun i h st b hb => by
    obtain ⟨⟨old, he⟩, ⟨o, ho, hc, hd⟩, _⟩ := st
    have e' : b = e ∨ b = it := by simpa using hb
    rcases e' with z | z
    · rw [z]; exact ⟨_, he, fun v q => nomatch q⟩
    · rw [z]; exact ⟨o, ho, fun v q => by rw [hd] at q; cases q⟩
  keep := fun i h h' st k => let ⟨⟨old, he⟩, ⟨o, ho, r⟩, hne⟩ := st; ⟨⟨old, k e (by simp) _ he⟩, ⟨o, k it (by simp) o ho, r⟩, hne⟩
  item := by
    intro X hP hw hK hc i pins s σ H E I hf st hg
    subst hP hw hK
    obtain ⟨⟨old, he⟩, hit, hne⟩ := st
    have hlt : i < z.cps.size := hg
    have hel : e < s.heap.objs.size := Heap.lt_size he
    have hil : it < s.heap.objs.size := by obtain ⟨_, q, _⟩ := hit; exact Heap.lt_size q
    have hh : X.A.in1.handled = none := I.ok.hd hc
    refine wpAny_pyNext_enum_itemD (Draws.text hh it z t) he hit hlt hne (by simp; exact hne) fun x' h' tk hx' ho hst' hT hsz hk => ?_
    obtain ⟨c, u, hcx, rfl⟩ := hx'
    refine ⟨_, rfl, wpAny_letOwnedTupleGo_enum (s := { s with heap := h', toks := tk + 1 }) ho fun h'' he' sb => ?_⟩
    have hT2 : h''.get? s.heap.objs.size = some { cls := .type "tuple", data := .seq #[.int i tk, .str ⟨#[c]⟩ u] } := (sb.2 _ (Nat.ne_of_gt hel)).trans hT
    have new : ObjOk X.prog X.w (upd H s.heap.objs.size (.tup [.int (i : Nat), .str ⟨#[c]⟩])) h'' s.heap.objs.size (.tup [.int (i : Nat), .str ⟨#[c]⟩]) :=
      ⟨by show 2 ≤ sizeLine; decide, [.int i tk, .str ⟨#[c]⟩ u], .cons ⟨_, rfl⟩ (.cons ⟨_, rfl⟩ .nil), ⟨_, hT2, rfl, _, rfl⟩⟩
    have I1 : Inv X pins σ (upd H s.heap.objs.size (.tup [.int (i : Nat), .str ⟨#[c]⟩])) { s with heap := h'', toks := tk + 1 } :=
      I.turnedNew (ch := [e, it]) (fun b ob hb q => (sb.2 b (fun z => hb (by simp [z]))).trans (hk b ob (fun z => hb (by simp [z])) (fun z => hb (by simp [z])) q)) hf (Nat.le_refl _) new
    refine ⟨.ref s.heap.objs.size, _, I1, rfl, ⟨_, c, rfl, I.hok.fresh (Nat.le_refl _), hcx, rfl⟩, ⟨⟨.str ⟨#[c]⟩ u, ?_⟩, ?_, hne⟩, fun b hb => ?_⟩
    · have e1 : ((i + 1 : Nat) : Int) = (i : Int) + 1 := by omega
      rw [e1]; exact he'
    · obtain ⟨o, ho', r⟩ := hst'
      exact ⟨o, (sb.2 it (Ne.symm hne)).trans ho', r⟩
    · have hb' : b < s.heap.objs.size := by
        have e' : b = e ∨ b = it := by simpa using hb
        rcases e' with z | z
        · rw [z]; exact hel
        · rw [z]; exact hil
      rw [upd_ne (Nat.ne_of_lt hb')]
      exact (hf b hb).1
  done := by
    intro X hP hw hK hc i pins s σ H E I hf st hg
    subst hP hw hK
    obtain ⟨⟨old, he⟩, hit, hne⟩ := st
    have hx : z.cps.size ≤ i := hg
    obtain ⟨f0, f1, f2, f3, f4, f5⟩ := hf it (by simp)
    have hh : X.A.in1.handled = none := I.ok.hd hc
    exact endS hh he hit hx fun h' eb => ⟨rfl, I.turned (t' := s.toks) (fun b o hb q => eb b o hb q) f0 f1 f3 f4 f5⟩
  self := fun A i s Q E st h => let ⟨⟨_, he⟩, _⟩ := st; wpAny_pyIter_enum he h
/-- enumerate(e), e a text -/
theorem pi_enumS {X : Cx} {e : Expr} {ta : TA} {p pos tpos : Pos} {elts : List Expr} {kk : Nat} (hg : Gl X "enumerate") (hm : X.mg "enumerate" = none) (ha : PA X [e] ta) (hs : starEach [e] X.env = [(false, eval e X.env)] := by rfl) :
    PI X (.Tuple elts kk tpos) (.Call (.Name "enumerate" p) [e] [] pos) (fun σ H R => ta σ H fun vs H1 => ∃ z, vs = [.str z] ∧ R (Ites z) H1) := by
  refine ⟨fun pins s σ H R I h => ?_⟩
  refine Call_ (ld_blt I hg hm boot_enumerate (PyProof.Rows.callWith_type1 (thn (ha.run pos pins s σ H _ I h) fun us s1 ⟨vs, H1, I1, r1, q1⟩ => ?_) hs rfl))
  obtain ⟨z, ex, q⟩ := q1
  subst ex
  cases r1 with
  | cons r rr =>
    cases rr
    obtain ⟨t, rfl⟩ := r
    have fresh : ∀ b ∈ [s1.heap.objs.size + 1, s1.heap.objs.size], FpOk X pins H1 b := fun b hb => by
      have e' : b = s1.heap.objs.size + 1 ∨ b = s1.heap.objs.size := by simpa using hb
      have hle : s1.heap.objs.size ≤ b := by
        rcases e' with z | z
        · rw [z]; exact Nat.le_add_right _ _
        · rw [z]; exact Nat.le_refl _
      exact I1.fpOk hle (I1.hok.fresh hle)
    refine call_enumerate_str fun h' he hit hsz hk => wpAny_pyIter_enum he ?_
    have I2 : Inv X pins σ H1 { s1 with heap := h' } := I1.kept (t' := s1.toks) hk
    exact ⟨s1.heap.objs.size + 1, [s1.heap.objs.size + 1, s1.heap.objs.size], _, _, H1, rfl, I2, turn_enumS z t (s1.heap.objs.size + 1) s1.heap.objs.size, ⟨⟨.none, he⟩, hit, Nat.succ_ne_self _⟩, fresh, q⟩
theorem it_enumS {k : Kx} {I0 : Hp} {z : Str} : ItOk k (Ites z) I0 (enumD (signs z)) (fun _ => True) where
  stop i A e s hi := by
    show z.cps.size ≤ i
    simpa [enumD_length, signs] using hi
  go i d A e s hd := by
    obtain ⟨x, hx, _⟩ := enumD_get hd
    have := (List.getElem?_eq_some_iff.mp hx).1
    show i < z.cps.size
    simpa [signs] using this
  yld i d x H' A e s hd y := by
    obtain ⟨T, c, rfl, hT, hc, rfl⟩ := y
    obtain ⟨w, hw, rfl⟩ := enumD_get hd
    unfold signs at hw
    rw [List.getElem?_map, Array.getElem?_toList, hc] at hw
    cases hw
    exact pair_new A hT (.str _)
def iEnS (ta : AA) : AI := fun ρ L P px => ta ρ L (fun ds L1 => match ds with
  | [.str z] => P (enumD (signs z)) (fun _ => True) L1
  | _ => False) px
section
variable {X : Cx} {W : WX} {e : Expr} {ta : AA} {p pos tpos : Pos} {elts : List Expr} {kk : Nat}
theorem i_enS (hg : Gl X "enumerate") (hm : X.mg "enumerate" = none) (ha : PA X [e] (cA X.kx W ta)) (hs : starEach [e] X.env = [(false, eval e X.env)] := by rfl) : PI X (.Tuple elts kk tpos) (.Call (.Name "enumerate" p) [e] [] pos) (cI X.kx W (iEnS ta)) :=
  (pi_enumS hg hm ha hs).imp fun σ H R ⟨I, L, F, ρ, P, px, S, h, q⟩ => ⟨I, L, F, ρ, _, px, S, h, fun ds L1 vs I1 H1 h1 A1 e1 r1 => by
    split at h1
    · obtain ⟨v, rfl, r2⟩ := one_rp (k := X.kx) r1
      cases r2
      exact ⟨_, rfl, q _ _ _ _ _ _ h1 A1 e1 it_enumS⟩
    · exact h1.elim⟩
end
section
variable {ρ : Sl} {L : Led} {P : PD} {px : PX} {nx_ rt_ bk_ ct_ px_} {te2 : AE} {g : AG} {tt : AT} {vs : List Nat} {nw : NW} {tb : AS} {tr : AA}
def enuS (ds : List DV) (L : Led) (P : List DV → (Led → Prop) → Led → Prop) (_ : Lk P) : Prop := match ds with
  | [.str z] => P (enumD (signs z)) (fun _ => True) L
  | _ => False
theorem enuS_str {z : Str} {Pi : List DV → (Led → Prop) → Led → Prop} : enuS [.str z] L Pi .mk = Pi (enumD (signs z)) (fun _ => True) L := (rfl)
theorem xForES : aFor (iEnS tr) g tb ⟨nx_, rt_, bk_, ct_, px_⟩ ρ L = tr ρ L (fun ds L1 => enuS ds L1 (fun items stay => forL items stay g tb ⟨nx_, rt_, bk_, ct_, px_⟩ .mk ρ) .mk) px_ := (rfl)
theorem xLcES : aLcN nw (iEnS tr) g tt te2 vs ρ L P px = tr ρ L (fun ds L1 => enuS ds L1 (fun items stay L2 => lcL nw items stay g tt te2 vs ρ L2 P .mk) .mk) px := (rfl)
end
end AL
namespace AL
open PySem PySem.Spec PyProof.Rows L2
/-! ### dicts whose keys are tuples (nested) -/
section
variable {X : Cx} {pins : List (Addr × Obj)} {σ : L2.St} {H I : Hp} {s : Shared}
mutual
theorem nested_of (Iv : Inv X pins σ H s) (e : Ex I H) : ∀ (d : DV) {v : V} {u : Value} {k : NestedKey}, Rp X.K I d v → nk d = some k → RelV v u → NestedIs s.heap k u
  | .non, _, _, _, r, h, q => by
    cases r; cases h
    obtain rfl : _ = Value.none := q
    exact .none
  | .bl b, _, _, _, _, h, _ => by cases h
  | .int i, _, _, _, r, h, q => by
    cases r; cases h
    obtain ⟨t, rfl⟩ := q
    exact .int i t
  | .str x, _, _, _, r, h, q => by
    cases r; cases h
    obtain ⟨t, rfl⟩ := q
    exact .text x t
  | .ty _, _, _, _, _, h, _ => by cases h
  | .ref _, _, _, _, _, h, _ => by cases h
  | .lst _, _, _, _, _, h, _ => by cases h
  | .wl _, _, _, _, _, h, _ => by cases h
  | .ins _ _ _, _, _, _, _, h, _ => by cases h
  | .tup ds, _, _, k, r, h, q => by
    cases r with
    | tup hs rs =>
    cases ek : nks ds with
    | none => simp [nk, ek] at h
    | some ks =>
    simp [nk, ek] at h
    subst h
    obtain ⟨its, vl, ⟨o, h1, h2, n, h3⟩, _⟩ := Iv.tuple (e.t hs)
    obtain rfl : _ = Value.ref _ := q
    exact .tup h1 h2 h3 (by simpa using nested_all Iv e ds rs ek vl)
theorem nested_all (Iv : Inv X pins σ H s) (e : Ex I H) : ∀ (ds : List DV) {vs : List V} {us : List Value} {ks : List NestedKey}, Rps X.K I ds vs → nks ds = some ks → Vals vs us → NestedAll s.heap ks us
  | [], _, _, _, r, h, q => by
    cases r; cases q; cases h
    exact .nil
  | d :: ds, _, _, ks, r, h, q => by
    cases r with
    | cons r1 r2 =>
    cases q with
    | cons q1 q2 =>
    cases e1 : nk d with
    | none => simp [nks, e1] at h
    | some k1 =>
    cases e2 : nks ds with
    | none => simp [nks, e1, e2] at h
    | some k2 =>
    simp [nks, e1, e2] at h
    subst h
    exact .cons (nested_of Iv e d r1 e1 q1) (nested_all Iv e ds r2 e2 q2)
end
def valT {α : Type} (kvs : List (NestedKey × α)) (k : NestedKey) : Option α := (kvs.find? fun kv => decide (kv.1 = k)).map (·.2)
def putT {α : Type} (kvs : List (NestedKey × α)) (k : NestedKey) (v : α) : List (NestedKey × α) :=
  if (valT kvs k).isSome = true then kvs.map (fun kv => if kv.1 = k then (kv.1, v) else kv) else kvs ++ [(k, v)]
theorem ents_len {K : PySem.W.Frag} : ∀ {kvs xs}, EntsOk K I kvs xs → kvs.length = xs.length
  | _, _, .nil => rfl
  | _, _, .cons _ r => by rw [List.length_cons, List.length_cons, ents_len r]
theorem ents_val {K : PySem.W.Frag} {k : NestedKey} : ∀ {kvs : List (NestedKey × DV)} {xs : List (NestedKey × Addr × Value)}, EntsOk K I kvs xs → (valT kvs k = none ∧ atKey xs k = none) ∨ ∃ d p v, valT kvs k = some d ∧ atKey xs k = some p ∧ RelV v p.2 ∧ Rp K I d v
  | [], [], _ => .inl ⟨rfl, rfl⟩
  | (k1, d) :: kvs, (k2, b, w) :: xs, .cons h r => by
    obtain rfl : k1 = k2 := h.key
    by_cases z : k1 = k
    · obtain ⟨v, q1, q2⟩ := h.val
      exact .inr ⟨d, (b, w), v, by simp [valT, List.find?_cons, z], by simp [atKey, List.find?_cons, z], q1, q2⟩
    · have e1 : valT ((k1, d) :: kvs) k = valT kvs k := by simp [valT, List.find?_cons, z]
      have e2 : atKey ((k1, b, w) :: xs) k = atKey xs k := by simp [atKey, List.find?_cons, z]
      rw [e1, e2]
      exact ents_val r
theorem ents_isSome {K : PySem.W.Frag} {k : NestedKey} {kvs : List (NestedKey × DV)} {xs : List (NestedKey × Addr × Value)} (r : EntsOk K I kvs xs) : (atKey xs k).isSome = (valT kvs k).isSome := by
  rcases ents_val (k := k) r with ⟨a, b⟩ | ⟨d, p, v, a, b, _⟩ <;> rw [a, b] <;> rfl
theorem ents_map {K : PySem.W.Frag} {k : NestedKey} {d : DV} {v : V} {u : Value} (q1 : RelV v u) (q2 : Rp K I d v) : ∀ {kvs : List (NestedKey × DV)} {xs : List (NestedKey × Addr × Value)}, EntsOk K I kvs xs →
    EntsOk K I (kvs.map fun kv => if kv.1 = k then (kv.1, d) else kv) (xs.map (putAt k u))
  | [], [], _ => .nil
  | (k1, d1) :: kvs, (k2, b, w) :: xs, .cons h r => by
    obtain rfl : k1 = k2 := h.key
    rw [List.map_cons, List.map_cons]
    refine .cons ?_ (ents_map q1 q2 r)
    by_cases z : k1 = k
    · simp only [putAt, if_pos z]
      exact ⟨rfl, h.tup, h.deep, v, q1, q2⟩
    · simp only [putAt, if_neg z]
      exact h
theorem ents_app {K : PySem.W.Frag} : ∀ {kvs ys : List (NestedKey × DV)} {xs zs : List (NestedKey × Addr × Value)}, EntsOk K I kvs xs → EntsOk K I ys zs → EntsOk K I (kvs ++ ys) (xs ++ zs)
  | [], _, [], _, _, s => s
  | _ :: _, _, _ :: _, _, .cons h r, s => .cons h (ents_app r s)
theorem ents_put {K : PySem.W.Frag} {k : NestedKey} {d : DV} {v : V} {u : Value} {b : Addr} {ds : List DV} (hb : Rp K I (.tup ds) (.ref b)) (hk : nk (.tup ds) = some k) (hd : k.depth ≤ 8) (q1 : RelV v u) (q2 : Rp K I d v) {kvs : List (NestedKey × DV)} {xs : List (NestedKey × Addr × Value)} (r : EntsOk K I kvs xs) : EntsOk K I (putT kvs k d) (storedH xs k b u) := by
  unfold putT storedH
  rw [ents_isSome r]
  split
  · exact ents_map q1 q2 r
  · exact ents_app r (.cons ⟨rfl, ⟨ds, hb, hk⟩, hd, v, q1, q2⟩ .nil)
theorem putT_len {α : Type} {kvs : List (NestedKey × α)} {k : NestedKey} {v : α} : (putT kvs k v).length ≤ kvs.length + 1 := by
  unfold putT; split <;> simp
/-- the dict of the ledger, met -/
theorem led_dT {L : Led} {F : Hp} {a : Addr} {kvs : List (NestedKey × DV)} (A : Ab X.kx I L F H) (Iv : Inv X pins σ H s) (hl : L a = some (.dT kvs)) :
    ∃ xs, EntsOk X.K I kvs xs ∧ (a == sysModules) = false ∧ xs.length ≤ sizeLine ∧ s.heap.DictOfH (nestedKind X.prog X.w) a xs ∧ Mut (H a) := by
  obtain ⟨_, _, o, eo, ro⟩ := A.led _ _ hl
  cases ro with
  | dT nd na few r =>
  rename_i xs
  obtain ⟨⟨ob, es, ep, h1, h2, h3, h4⟩, _, _⟩ := (show ObjOk X.prog X.w H s.heap a (.ext (RawD X.prog X.w a xs)) from Iv.hok a _ eo)
  refine ⟨xs, r, na, few, ⟨ob, es, ep, h1, h2, h3, h4, fun x hx => ?_, nd⟩, by rw [eo]; exact True.intro⟩
  have key : ∀ {kvs : List (NestedKey × DV)} {xs : List (NestedKey × Addr × Value)}, EntsOk X.K I kvs xs → ∀ x ∈ xs, (∃ ds, Rp X.K I (.tup ds) (.ref x.2.1) ∧ nk (.tup ds) = some x.1) ∧ x.1.depth ≤ 8 := by
    intro kvs xs r
    induction r with
    | nil => intro x hx; cases hx
    | cons h _ ih =>
      intro x hx
      rcases List.mem_cons.mp hx with rfl | hx
      · exact ⟨h.tup, h.deep⟩
      · exact ih x hx
  obtain ⟨⟨ds, q1, q2⟩, q3⟩ := key r x hx
  exact ⟨nested_of Iv A.imm _ q1 q2 rfl, q3⟩
theorem raw_ext {P : Program} {w : World} {H : Hp} {h : Heap} {a : Addr} {xs : List (NestedKey × Addr × Value)} (m : h.DictOfH (nestedKind P w) a xs) : ObjOk P w H h a (.ext (RawD P w a xs)) := by
  obtain ⟨o, es, ep, h1, h2, h3, h4, _, _⟩ := m
  exact ⟨⟨o, es, ep, h1, h2, h3, h4⟩, ⟨o, h1⟩, fun g1 g2 ⟨o, es, ep, h1, h2, h3, h4⟩ hk => ⟨o, es, ep, hk o h1, h2, h3, h4⟩⟩
end
/-- d is a tuple, the key k -/
def TK (d : DV) (k : NestedKey) : Prop := (∃ ds, d = .tup ds) ∧ nk d = some k ∧ k.depth ≤ 8
def rTin (k : Kx) (neg : Bool) : R2 := fun x y H Q => ∃ I L F kvs d key a, Ab k I L F H ∧ L a = some (.dT kvs) ∧ Rp k.K I d x ∧ TK d key ∧ y = .ref a ∧ Q (.bl (neg ^^ (valT kvs key).isSome)) H
def rTget (k : Kx) : R2 := fun x y H Q => ∃ I L F kvs d key a e, Ab k I L F H ∧ L a = some (.dT kvs) ∧ Rp k.K I d y ∧ TK d key ∧ x = .ref a ∧ valT kvs key = some e ∧ ∀ v, Rp k.K I e v → Q v H
def oTin (neg : Bool) : AR2 := fun x y L P => match y with
  | .ref a => ∃ kvs k, L a = some (.dT kvs) ∧ TK x k ∧ P (.bl (neg ^^ (valT kvs k).isSome)) L
  | _ => False
def oTget : AR2 := fun x y L P => match x with
  | .ref a => ∃ kvs k d, L a = some (.dT kvs) ∧ TK y k ∧ valT kvs k = some d ∧ P d L
  | _ => False
def aTput (to ti tv : AE) : AS := fun AD ρ L => tv ρ L (fun d L1 => to ρ L1 (fun x L2 => ti ρ L2 (fun y L3 => match x with
  | .ref a => ∃ kvs k, L3 a = some (.dT kvs) ∧ TK y k ∧ kvs.length < sizeLine ∧ AD.nx ρ (updL L3 a (.dT (putT kvs k d)))
  | _ => False) AD.px) AD.px) AD.px
def aDict0T : AE := fun _ L P _ => ∀ a, L a = none → P (.ref a) (updL L a (.dT []))
section
variable {X : Cx} {W : WX} {e o i value : Expr} {te to ti tv : AE} {pos pos' : Pos} {kk : Nat}
theorem tk_ref {K : PySem.W.Frag} {I : Hp} {d : DV} {v : V} {k : NestedKey} (t : TK d k) (r : Rp K I d v) : ∃ b ds, v = .ref b ∧ d = .tup ds := by
  obtain ⟨⟨ds, rfl⟩, _⟩ := t
  cases r
  exact ⟨_, _, rfl, rfl⟩
theorem roomN (hr : Room kk X.A) : (nestedKind X.prog X.w).room X.A.in1 := by
  have := hr.un
  show X.A.units + 1 + 8 < cLine
  omega
theorem op_tin (hr : Room kk X.A) : OpR X (compareOp .In) (rTin X.kx false) := by
  intro pins s σ H x y v u Q Iv rx ry ⟨I, L, F, kvs, d, key, a, A, hl, r, t, ey, q⟩
  subst ey
  obtain rfl : u = Value.ref a := ry
  obtain ⟨xs, en, na, few, dd, mu⟩ := led_dT A Iv hl
  obtain ⟨b, ds, rfl, rfl⟩ := tk_ref t r
  obtain rfl : v = Value.ref b := rx
  refine PySem.wpAny_in_heap (roomN hr) (k := key) ⟨nested_of Iv A.imm _ r t.2.1 rfl, t.2.2⟩ na dd ?_
  rw [ents_isSome en]
  rw [Bool.false_xor] at q
  exact ⟨.bl (valT kvs key).isSome, H, Iv.tok _, rfl, q⟩
theorem op_tnin (hr : Room kk X.A) : OpR X (compareOp .NotIn) (rTin X.kx true) := by
  intro pins s σ H x y v u Q Iv rx ry ⟨I, L, F, kvs, d, key, a, A, hl, r, t, ey, q⟩
  subst ey
  obtain rfl : u = Value.ref a := ry
  obtain ⟨xs, en, na, few, dd, mu⟩ := led_dT A Iv hl
  obtain ⟨b, ds, rfl, rfl⟩ := tk_ref t r
  obtain rfl : v = Value.ref b := rx
  refine wpAny_notIn_heap (roomN hr) (k := key) ⟨nested_of Iv A.imm _ r t.2.1 rfl, t.2.2⟩ na dd ?_
  rw [ents_isSome en]
  rw [Bool.true_xor] at q
  exact ⟨.bl (!(valT kvs key).isSome), H, Iv.tok _, rfl, q⟩
theorem oTin_ok {k : Kx} {neg : Bool} : AOp k (rTin k neg) (oTin neg) := by
  intro I F H L x y xv yv P Q A rx ry h q
  unfold oTin at h
  split at h
  · cases ry
    obtain ⟨kvs, key, hl, t, h⟩ := h
    exact ⟨I, L, F, kvs, x, key, _, A, hl, rx, t, rfl, here A (.bl _) h q⟩
  · exact h.elim
theorem a_tin (hr : Room kk X.A) (ha : PE X i (cE X.kx W ti)) (hb : PE X o (cE X.kx W to)) (hm : behindInMarks .In o = false := by rfl) : PE X (.Compare i [.In] [o] pos) (cE X.kx W (aBin (oTin false) ti to)) := a_cmp (op_tin hr) oTin_ok ha hb hm
theorem t_tin (hr : Room kk X.A) (ha : PE X i (cE X.kx W ti)) (hb : PE X o (cE X.kx W to)) (hm : behindInMarks .In o = false := by rfl) : PT X (.Compare i [.In] [o] pos) (cT X.kx W (aTest (aBin (oTin false) ti to))) := t_cmp (op_tin hr) oTin_ok ha hb hm
theorem a_tnin (hr : Room kk X.A) (ha : PE X i (cE X.kx W ti)) (hb : PE X o (cE X.kx W to)) (hm : behindInMarks .NotIn o = false := by rfl) : PE X (.Compare i [.NotIn] [o] pos) (cE X.kx W (aBin (oTin true) ti to)) := a_cmp (op_tnin hr) oTin_ok ha hb hm
theorem t_tnin (hr : Room kk X.A) (ha : PE X i (cE X.kx W ti)) (hb : PE X o (cE X.kx W to)) (hm : behindInMarks .NotIn o = false := by rfl) : PT X (.Compare i [.NotIn] [o] pos) (cT X.kx W (aTest (aBin (oTin true) ti to))) := t_cmp (op_tnin hr) oTin_ok ha hb hm
def tTget (k : Kx) (td ty : TE) : TE := fun σ H Q => td σ H fun x H1 => ty σ H1 fun y H2 => rTget k x y H2 Q
theorem pe_tget (hr : Room kk X.A) {td ty : TE} (ho : PE X o td) (hi : PE X i ty) (hs : NoSl i) : PE X (.Subscript o i pos) (tTget X.kx td ty) := by
  refine ⟨fun pins s σ H Q I h => ?_⟩
  refine subD_of PySem.F.slot_dict_getitem.lookup hs (thn (ho.run pins s σ H _ I h) fun u s1 ⟨x, H1, I1, rx, q1⟩ => thn (hi.run pins s1 σ H1 _ I1 q1) fun iv s2 ⟨y, H2, Iv, ry, q⟩ => ?_)
  obtain ⟨J, L, F, kvs, d, key, a, e, A, hl, r, t, ex, hv, q⟩ := q
  subst ex
  obtain rfl : u = Value.ref a := rx
  obtain ⟨xs, en, na, few, dd, mu⟩ := led_dT A Iv hl
  obtain ⟨b, ds, rfl, rfl⟩ := tk_ref t r
  obtain rfl : iv = Value.ref b := ry
  rcases ents_val (k := key) en with ⟨z, _⟩ | ⟨d', p, v, z, hp, rv, rd⟩
  · rw [hv] at z; cases z
  · rw [hv] at z; cases z
    exact ⟨dd.typeIs, wpAny_getItem_heap (roomN hr) (k := key) ⟨nested_of Iv A.imm _ r t.2.1 rfl, t.2.2⟩ dd hp ⟨v, H2, Iv.tok _, rv, q v rd⟩⟩
theorem a_tget (hr : Room kk X.A) (ho : PE X o (cE X.kx W to)) (hi : PE X i (cE X.kx W ti)) (hs : NoSl i := by intro _ _; rfl) : PE X (.Subscript o i pos) (cE X.kx W (aBin oTget to ti)) :=
  (pe_tget hr ho hi hs).imp fun σ H Q ⟨I, L, F, ρ, P, px, S, h, q⟩ => ⟨I, L, F, ρ, _, px, S, h, fun x L1 xv I1 H1 h1 A1 e1 r1 => ⟨I1, L1, F, ρ, _, px, S.go A1 e1, h1, fun y L2 yv I2 H2 h2 A2 e2 r2 => by
    unfold oTget at h2
    split at h2
    · cases r1
      obtain ⟨kvs, k, d, hl, hk, hd, h2⟩ := h2
      exact ⟨I2, L2, F, kvs, y, k, _, d, A2, hl, r2, hk, rfl, hd, fun v rv => here A2 rv h2 (q.mono (e1.trans e2))⟩
    · exact h2.elim⟩⟩
def sTput (k : Kx) (td ty tv : TE) : TS := fun D σ H => tv σ H fun v H1 => td σ H1 fun x H2 => ty σ H2 fun y H3 => ∃ I L F kvs d key a e, Ab k I L F H3 ∧ L a = some (.dT kvs) ∧ Rp k.K I d y ∧ TK d key ∧ x = .ref a ∧ Rp k.K I e v ∧ kvs.length < sizeLine ∧ ∀ H4, Ab k I (updL L a (.dT (putT kvs key e))) F H4 → D.nx σ H4
theorem ps_tput (hr : Room kk X.A) {td ty tv : TE} (ho : PE X o td) (hi : PE X i ty) (hv : PE X value tv) (hs : swapsWith value (some (.Subscript o i pos')) pos.line X.env = pure false) :
    PS X (.Assign [.Subscript o i pos'] value pos) (sTput X.kx td ty tv) := by
  refine ⟨fun pins s σ H D I h => ?_⟩
  refine wpAny_Assign_Subscript (thn (hv.run pins s σ H _ I h) fun r s1 ⟨v, H1, I1, rv, q1⟩ => thn (ho.run pins s1 σ H1 _ I1 q1) fun u s2 ⟨x, H2, I2, rx, q2⟩ => thn (hi.run pins s2 σ H2 _ I2 q2) fun iv s3 ⟨y, H3, Iv, ry, q3⟩ => ?_) hs
  obtain ⟨J, L, F, kvs, d, key, a, e, A, hl, rd, t, ex, re, hz, q⟩ := q3
  subst ex
  obtain rfl : u = Value.ref a := rx
  obtain ⟨xs, en, na, few, dd, mu⟩ := led_dT A Iv hl
  obtain ⟨b, ds, rfl, rfl⟩ := tk_ref t rd
  obtain rfl : iv = Value.ref b := ry
  have el := ents_len en
  refine wpAny_setItem_heap (hsz := by omega) (roomN hr) (k := key) ⟨nested_of Iv A.imm _ rd t.2.1 rfl, t.2.2⟩ dd fun h' dd' hs => ?_
  have en' := ents_put rd t.2.1 t.2.2 rv re en
  have hw : ObjOk X.prog X.w (upd H3 a (.ext (RawD X.prog X.w a (storedH xs key b r)))) h' a (.ext (RawD X.prog X.w a (storedH xs key b r))) := raw_ext dd'
  obtain ⟨ob, es, ep, g1, _, _, _, _, nd⟩ := id dd'
  refine ⟨σ, _, d_write Iv mu hs ⟨ob, g1⟩ hw, q _ (A.write hl (.dT nd na ?_ en'))⟩
  have := putT_len (kvs := kvs) (k := key) (v := e)
  have := ents_len en'
  omega
theorem s_tput (hr : Room kk X.A) (ho : PE X o (cE X.kx W to)) (hi : PE X i (cE X.kx W ti)) (hv : PE X value (cE X.kx W tv)) (hs : swapsWith value (some (.Subscript o i pos')) pos.line X.env = pure false := by rfl) : PS X (.Assign [.Subscript o i pos'] value pos) (cS X.kx W (aTput to ti tv)) :=
  (ps_tput hr ho hi hv hs).imp fun D σ H ⟨I, L, F, ρ, AD, S, h, q⟩ => ⟨I, L, F, ρ, _, AD.px, S, h, fun d L1 v I1 H1 h1 A1 e1 r1 => ⟨I1, L1, F, ρ, _, AD.px, S.go A1 e1, h1, fun x L2 xv I2 H2 h2 A2 e2 r2 => ⟨I2, L2, F, ρ, _, AD.px, S.go A2 (e1.trans e2), h2, fun y L3 yv I3 H3 h3 A3 e3 r3 => by
    split at h3
    · cases r2
      obtain ⟨kvs, k, hl, hk, hz, h3⟩ := h3
      exact ⟨I3, L3, F, kvs, y, k, _, d, A3, hl, r3, hk, rfl, r1.mono (e2.trans e3), hz, fun H4 A4 => q.nx _ _ _ _ _ h3 A4 ((e1.trans e2).trans e3) (S.rs.mono ((e1.trans e2).trans e3))⟩
    · exact h3.elim⟩⟩⟩
theorem pe_dnewX {k : Kx} (hk : k = X.kx) : PE X (.Dict [] [] pos) (fun _ H Q => ∀ p, H p = none → (p == sysModules) = false → Q (.ref p) (upd H p (.ext (RawD k.P k.w p [])))) := by
  subst hk
  exact ⟨fun pins s σ H Q I h =>
    wpAny_Dict_empty ⟨.ref s.heap.objs.size, _, I.laid (a := s.heap.objs.size) (o := .ext (RawD X.prog X.w s.heap.objs.size [])) (t' := s.toks) (fun _ _ q => Heap.get?_push_of_some _ q) (Nat.le_refl _) (raw_ext (Heap.DictOfH.new (knd := nestedKind X.prog X.w) s.heap)), rfl,
      h _ (I.hok.fresh (Nat.le_refl _)) (beq_eq_false_iff_ne.mpr (Ne.symm (Nat.ne_of_lt I.big)))⟩⟩
theorem a_dict0T : PE X (.Dict [] [] pos) (cE X.kx W aDict0T) := (pe_dnewX rfl).imp fun σ H Q ⟨I, L, F, ρ, P, px, S, h, q⟩ p hp na =>
  q _ _ _ _ _ (h p (S.ab.freeL hp)) (S.ab.newL hp (.dT (List.nodup_nil) na (Nat.zero_le _) .nil)) (Ex.refl I) (.ref p)
end
end AL
/-! ### set(list of ints) -/
namespace AL
open PySem PySem.Spec PyProof.Rows L2
section
variable {P : Program} {w : World} {A : Around} {E : Value → Shared → Prop} {s : Shared}
abbrev bareSet (w : World) : Obj := { cls := .type "set", dict := none, data := .set #[] 0 (.fresh 0 0 (!w.params.followText "set-order")) }
set_option maxRecDepth 100000 in
set_option maxHeartbeats 3200000 in
theorem set_of_ints {l : Addr} {xs : Array Value} (ns : List Int) {Q : Value → Shared → Prop} (h0 : A.handled = none) (pl : s.heap.IsList l xs) (allI : IntsAre xs.toList ns) (small : ns.length + 1 < scanBound)
    (fin : ∀ (g : Heap) (tk c : Nat), SetR w g s.heap.objs.size (fun j => decide (j ∈ ns)) c → c ≤ ns.length → (∀ b o, s.heap.get? b = some o → g.get? b = some o) → Q (.ref s.heap.objs.size) { s with heap := g, toks := tk }) :
    wpAny (model P w) A (call (.type "set") [.ref l]) Q E s := by
  have size : xs.size = ns.length := by have := IntsAre.length allI; rwa [Array.length_toList] at this
  obtain ⟨c, tl, hmro⟩ := F.called_set.mro
  have a1 := F.called_set.made; have a2 := F.called_set.sub
  refine wpAny_call (codeAny_of_tree ?_); show wpAny _ _ (callAny (.type "set") _) _ _ _
  refine wpAny_pure ⟨Code.quiet_builtin _ (by decide +kernel), codeAny_builtin F.entry_type_call ?_⟩; rw [Around.under_plain (weight_type_call_type "set" [.ref l] []) rfl]
  have a3 := F.called_set.notType; have a4 := F.called_set.canCreate; have a5 := F.typeCall_set_1 (.ref l)
  repeat (any_goals (first | assumption | wp_step))
  refine codeAny_mono (code_set_led1 (.ref l) (E := E) (Q₁ := fun ob t => ob = .ref s.heap.objs.size ∧ t = { s with heap := s.heap.push (bareSet w) }) ⟨rfl, rfl⟩) fun r t hr => ?_
  cases r with
  | error e => exact hr
  | ok fl =>
    cases fl with
    | ret ob =>
      obtain ⟨rfl, rfl⟩ := hr
      have hS : (s.heap.push (bareSet w)).get? s.heap.objs.size = some (bareSet w) := Heap.get?_push_size _ rfl
      have hT : Shared.TypeIs { s with heap := s.heap.push (bareSet w) } (.ref s.heap.objs.size) "set" := ⟨_, hS, rfl⟩
      have b1 := F.called_set.init.lookup; have b2 := F.called_set.init.bind (.ref s.heap.objs.size)
      repeat (any_goals (first | assumption | wp_step))
      refine codeAny_mono (codeAny_call_builtin (R := wants (fun r t => r = .none ∧ ∃ g tk c, t = { s with heap := g, toks := tk } ∧ SetR w g s.heap.objs.size (fun j => decide (j ∈ ns)) c ∧ c ≤ ns.length ∧ (∀ b o, s.heap.get? b = some o → g.get? b = some o)) E)
        F.called_set.init.plain F.entry_set_init (check_set_init_1 hT ?_)) fun r2 t2 hr2 => ?_
      · obtain ⟨ol, hol, hcl, nl, hdl⟩ := id pl
        obtain ⟨ocls, odict, odata, oslots⟩ := ol
        simp only at hcl hdl
        subst hcl; subst hdl
        have hol' : (s.heap.push (bareSet w)).get? l = some { cls := .type "list", dict := odict, data := .seq xs nl, slots := oslots } := Heap.get?_push_of_some _ hol
        have c1 := F.sub_list_set; have c2 := F.sub_list_frozenset
        have c3 : (Value.type "list" == Value.type "dict") = false := by decide
        have pl1 : (s.heap.push (bareSet w)).IsList l xs := ⟨_, hol', rfl, nl, rfl⟩
        unfold Builtin.«set.__init__» noKeywords Builtin.Frozenset.updateFrom
        generalize eqI : pyIter = PI
        wp_walk
        subst eqI
        refine wpAny_pyIter_list pl1 ?_
        refine wpAny_bind (wpAny_runValue ?_)
        have below : l < s.heap.objs.size := Heap.lt_size hol
        have h3 : A.in1.in1.in1.handled = none := by simp [h0]
        have neI : l ≠ (s.heap.push (bareSet w)).objs.size := by rw [Heap.size_push]; exact Nat.ne_of_lt (Nat.lt_succ_of_lt below)
        have apart : s.heap.objs.size ∉ [(s.heap.push (bareSet w)).objs.size, l] := by
          rw [Heap.size_push]; simp only [List.mem_cons, List.mem_singleton, List.not_mem_nil, or_false, not_or]; exact ⟨Nat.ne_of_lt (Nat.lt_succ_self _), Nat.ne_of_gt below⟩
        have vals : ∀ (i : Nat) (v : Value), xs[i]? = some v → ∃ k t, ns[i]? = some k ∧ v = .int k t := fun i v hv => by
          have hi : i < ns.length := by rw [← size]; exact (Array.getElem?_eq_some_iff.mp hv).1
          obtain ⟨t, e⟩ := PyProof.Rows.IntsAre.int_at allI i v (by rw [Array.getElem?_toList]; exact hv)
          refine ⟨ns[i], t, List.getElem?_eq_getElem hi, ?_⟩; rw [e, List.getD_eq_getElem?_getD, List.getElem?_eq_getElem hi] <;> rfl
        refine set_update_ints ((Walks.list h3 _ l neI xs).toS) s.heap.objs.size apart ns size small vals (xs.size - 0) 0 _ (by omega) (Nat.zero_le _) ⟨⟨_, Heap.get?_push_size _ rfl, rfl, rfl⟩, (pl1.push _)⟩ ?g0 ?g1
        case g0 => exact ⟨0, Nat.le_refl 0, setR_new_at (Heap.get?_push_of_some _ hS)⟩
        case g1 =>
          intro t' c' hm hc' hS'
          obtain ⟨g, g2, d', tk', os'⟩ := t'
          have eg : g2 = s.gens := hm.gens; have ed : d' = s.drawn := hm.drawn; have eo : os' = s.os := hm.os
          subst eg; subst ed; subst eo
          show wpAny _ _ _ _ _ _
          refine wpAny_pure ?_
          show wpAny _ _ (ret Value.none) _ _ _
          rw [size] at hc'
          refine wpAny_pure ⟨rfl, g, tk', c', rfl, hS', hc', fun b o e => ?_⟩
          have lb : b < s.heap.objs.size := Heap.lt_size e
          have n2 : b ≠ (s.heap.push (bareSet w)).objs.size := by rw [Heap.size_push]; exact Nat.ne_of_lt (Nat.lt_succ_of_lt lb)
          exact hm.heap b o (by simp only [List.mem_cons, List.mem_singleton, List.not_mem_nil, or_false, not_or]; exact ⟨Nat.ne_of_lt lb, n2⟩) (Heap.get?_push_of_some _ (Heap.get?_push_of_some _ e))
      · cases r2 with
        | error e => exact hr2
        | ok fl2 =>
          cases fl2 with
          | ret r =>
            obtain ⟨rfl, g, tk, c', rfl, hS', hc', hk'⟩ := hr2
            repeat (any_goals (first | assumption | wp_step))
            exact fin _ _ _ hS' hc' hk'
          | _ => exact hr2.elim
    | _ => exact hr.elim
end
def rSetI (K : PySem.W.Frag) (w : World) : List V → Hp → VK → Prop := fun xs H Q => ∃ (l : Addr) (ns : List Int), xs = [.ref l] ∧ SqL K H l (ns.map V.int) ∧ ns.length < 64 ∧ ∀ p c, H p = none → c ≤ ns.length → Q (.ref p) (upd H p (SetO w p (fun j => decide (j ∈ ns)) c))
theorem cr_setI {X : Cx} (hc : X.calm = true) : CallR X (.type "set") (rSetI X.K X.w) := by
  intro pins s σ H xs us Q I r h
  obtain ⟨l, ns, rfl, hq, h64, q⟩ := h
  obtain rfl := Vals.ref1 r
  obtain ⟨its, rv, pl, hz⟩ := I.list hq
  refine set_of_ints ns (I.ok.hd hc) pl.isList (by simpa using rv.ints) (by unfold scanBound; omega) fun g tk c R hc' hk => ?_
  exact ⟨.ref s.heap.objs.size, _, I.laid (t' := tk) (o := SetO X.w s.heap.objs.size (fun j => decide (j ∈ ns)) c) hk (Nat.le_refl _) (setO_new R), rfl, q _ c (I.hok.fresh (Nat.le_refl _)) hc'⟩
/-! ### sorted(set(list of ints)) -/
def bSortSet (nw : NW) : AC := fun ds L P => match ds with
  | [x] => withL L x fun ds => ∃ ns : List Int, ds = ns.map DV.int ∧ ns.length < 64 ∧ ∀ ms : List Int, ms.Pairwise (· < ·) → (∀ k, k ∈ ms ↔ k ∈ ns) → nw (ms.map DV.int) L P
  | _ => False
section
variable {X : Cx} {W : WX} {e : Expr} {t : AA} {p p2 pos pos2 : Pos} {nw : NW}
theorem a_sortset (hc : X.calm = true) (hn : NwOk nw) (hg : Gl X "sorted") (hm : X.mg "sorted" = none) (hg2 : Gl X "set") (hm2 : X.mg "set" = none) (ha : PA X [e] (cA X.kx W t)) (he : starEach [e] X.env = (false, eval e X.env) :: starEach [] X.env := by rfl)
    (he2 : starEach [.Call (.Name "set" p2) [e] [] pos2] X.env = (false, eval (.Call (.Name "set" p2) [e] [] pos2) X.env) :: starEach [] X.env := by rfl) : PE X (.Call (.Name "sorted" p) [.Call (.Name "set" p2) [e] [] pos2] [] pos) (cE X.kx W (aCB (bSortSet nw) t)) :=
  (pe_callB (cr_sortedSet hc) hg hm (by decide +kernel) (pa_cons (pe_callTy (cr_setI hc) hg2 hm2 (by decide +kernel) ha (by decide) (by decide) he rfl) pa_nil he2) (by decide) (by decide) he2 rfl).imp fun σ H Q ⟨I, L, F, ρ, P, px, S, h, q⟩ => ⟨I, L, F, ρ, _, px, S, h, fun ds L1 vs I1 H1 h1 A1 e1 r1 => by
    unfold bSortSet at h1
    split at h1
    · obtain ⟨v, rfl, r2⟩ := one_rp (k := X.kx) r1
      obtain ⟨a, us, xs, rfl, ha, rr, ns, rfl, h64, h1⟩ := withL_ok A1 r2 h1
      rw [rr.ints] at ha
      refine ⟨a, ns, rfl, SqL.of ha, h64, fun p c hp hl => ⟨p, _, c, rfl, upd_same, by omega, fun ms p2 hs hi _ hp2 => ?_⟩⟩
      have hk : ∀ k, k ∈ ms ↔ k ∈ ns := fun k => by rw [hi k]; simp
      exact newL_ok (A1.lost hp) (Rps.of_ints ms) (hn _ _ _ (h1 ms hs hk)) (q.mono e1) p2 hp2
    · exact h1.elim⟩
end
/-- ascending, each once -/
def ssort (ns : List Int) : List Int := (ns.eraseDups).mergeSort (fun a b => decide (a ≤ b))
theorem asc_unique : ∀ {xs ys : List Int}, xs.Pairwise (· < ·) → ys.Pairwise (· < ·) → (∀ k, k ∈ xs ↔ k ∈ ys) → xs = ys
  | [], [], _, _, _ => rfl
  | [], y :: ys, _, _, h => by have := (h y).mpr (List.mem_cons_self ..); cases this
  | x :: xs, [], _, _, h => by have := (h x).mp (List.mem_cons_self ..); cases this
  | x :: xs, y :: ys, hx, hy, h => by
    rw [List.pairwise_cons] at hx hy
    have e : x = y := by
      rcases List.mem_cons.mp ((h x).mp (List.mem_cons_self ..)) with e | e
      · exact e
      · rcases List.mem_cons.mp ((h y).mpr (List.mem_cons_self ..)) with e' | e'
        · exact e'.symm
        · have := hx.1 y e'; have := hy.1 x e; omega
    subst e
    congr 1
    refine asc_unique hx.2 hy.2 fun k => ⟨fun hk => ?_, fun hk => ?_⟩
    · rcases List.mem_cons.mp ((h k).mp (List.mem_cons_of_mem _ hk)) with e | e
      · subst e; have := hx.1 k hk; omega
      · exact e
    · rcases List.mem_cons.mp ((h k).mpr (List.mem_cons_of_mem _ hk)) with e | e
      · subst e; have := hy.1 k hk; omega
      · exact e
theorem nodup_dups : ∀ (n : Nat) (ns : List Int), ns.length ≤ n → ns.eraseDups.Nodup
  | _, [], _ => by simp
  | 0, _ :: _, h => by simp at h
  | n + 1, a :: ns, h => by
    rw [List.eraseDups_cons, List.nodup_cons]
    refine ⟨fun z => ?_, nodup_dups n _ (Nat.le_trans (List.length_filter_le ..) (by simpa using h))⟩
    have := List.mem_eraseDups.mp z
    simp at this
theorem ssort_mem {ns : List Int} {k : Int} : k ∈ ssort ns ↔ k ∈ ns := by unfold ssort; rw [List.mem_mergeSort, List.mem_eraseDups]
theorem ssort_asc {ns : List Int} : (ssort ns).Pairwise (· < ·) := by
  have h1 : (ssort ns).Pairwise (fun a b => decide (a ≤ b) = true) := List.pairwise_mergeSort (fun a b c => by simp; omega) (fun a b => by simp; omega) _
  have h2 : (ssort ns).Nodup := (List.mergeSort_perm _ _).nodup_iff.mpr (nodup_dups _ _ (Nat.le_refl _))
  rw [List.Nodup] at h2
  exact (h1.and h2).imp fun h => by simp at h; omega
theorem ssort_of {ns ms : List Int} (h1 : ms.Pairwise (· < ·)) (h2 : ∀ k, k ∈ ms ↔ k ∈ ns) : ms = ssort ns := asc_unique h1 ssort_asc fun k => by rw [h2, ssort_mem]
theorem ssort_self {ns : List Int} (h : ns.Pairwise (· < ·)) : ssort ns = ns := (ssort_of h fun _ => Iff.rfl).symm
theorem ssort_len (ns : List Int) : (ssort ns).length ≤ ns.length := by
  unfold ssort
  rw [List.length_mergeSort]
  have : ∀ (n : Nat) (ns : List Int), ns.length ≤ n → ns.eraseDups.length ≤ ns.length := by
    intro n
    induction n with
    | zero => intro ns h; cases ns with
      | nil => simp
      | cons a r => simp at h
    | succ n ih => intro ns h; cases ns with
      | nil => simp
      | cons a r =>
        rw [List.eraseDups_cons, List.length_cons, List.length_cons]
        have h1 := List.length_filter_le (fun b => !b == a) r
        have h2 := ih (r.filter fun b => !b == a) (by simp at h; omega)
        omega
  exact this _ _ (Nat.le_refl _)
/-- the locked form; its rule -/
def sorsA (nw : NW) (ds : List DV) (L : Led) (P : PD) (_ : Lk P) : Prop := bSortSet nw [.lst ds] L P
section
variable {L : Led} {P : PD} {nw : NW} {lk : Lk P}
theorem bSortSet_l {ds : List DV} : bSortSet nw [.lst ds] L P = sorsA nw ds L P .mk := (rfl)
theorem bSortSet_r {a : Addr} : bSortSet nw [.ref a] L P = withL L (.ref a) fun ds => sorsA nw ds L P .mk := (rfl)
theorem sorsA_of {ns : List Int} (h64 : ns.length < 64) (h : nw ((ssort ns).map DV.int) L P) : sorsA nw (ns.map DV.int) L P lk := ⟨ns, rfl, h64, fun ms h1 h2 => by rw [ssort_of h1 h2]; exact h⟩
end
/-! ### list(dict) -/
def keyV : Key → DV
  | .inl i => .int i
  | .inr s => .str s
mutual
def unk : NestedKey → DV
  | .none => .non
  | .num i => .int i
  | .text s => .str s
  | .tup ks => .tup (unks ks)
def unks : List NestedKey → List DV
  | [] => []
  | k :: ks => unk k :: unks ks
end
mutual
theorem unk_nk : ∀ (d : DV) {k : NestedKey}, nk d = some k → d = unk k
  | .non, _, h => by cases h; rfl
  | .bl _, _, h => by cases h
  | .int _, _, h => by cases h; rfl
  | .str _, _, h => by cases h; rfl
  | .ty _, _, h => by cases h
  | .ref _, _, h => by cases h
  | .lst _, _, h => by cases h
  | .wl _, _, h => by cases h
  | .ins _ _ _, _, h => by cases h
  | .tup ds, k, h => by
    cases e : nks ds with
    | none => simp [nk, e] at h
    | some ks =>
      simp [nk, e] at h
      subst h
      rw [unks_nks ds e]; rfl
theorem unks_nks : ∀ (ds : List DV) {ks : List NestedKey}, nks ds = some ks → ds = unks ks
  | [], _, h => by cases h; rfl
  | d :: ds, ks, h => by
    cases e1 : nk d with
    | none => simp [nks, e1] at h
    | some k1 =>
      cases e2 : nks ds with
      | none => simp [nks, e1, e2] at h
      | some k2 =>
        simp [nks, e1, e2] at h
        subst h
        rw [unk_nk d e1, unks_nks ds e2]; rfl
end
def bListD (nw : NW) : AC := fun ds L P => match ds with
  | [.ref a] => (∃ kvs, L a = some (.dK kvs) ∧ nw (kvs.map fun kv => keyV kv.1) L P) ∨ ∃ kvs, L a = some (.dT kvs) ∧ nw (kvs.map fun kv => unk kv.1) L P
  | _ => False
def rListX (k : Kx) : List V → Hp → VK → Prop := fun xs H Q => ∃ I L F kvs a, Ab k I L F H ∧ L a = some (.dT kvs) ∧ xs = [.ref a] ∧ ∀ p us, H p = none → Rps k.K I (kvs.map fun kv => unk kv.1) us → Q (.ref p) (upd H p (.lst us))
theorem ents_keys {K : PySem.W.Frag} {I : Hp} : ∀ {kvs : List (NestedKey × DV)} {xs : List (NestedKey × Addr × Value)}, EntsOk K I kvs xs → Rps K I (kvs.map fun kv => unk kv.1) (xs.map fun x => V.ref x.2.1)
  | [], [], _ => .nil
  | (k1, d) :: kvs, (k2, b, w) :: xs, .cons h r => by
    obtain ⟨ds, q1, q2⟩ := h.tup
    have e := unk_nk _ q2
    rw [e] at q1
    have e2 : k1 = k2 := h.key
    exact .cons (by rw [e2]; exact q1) (ents_keys r)
theorem cr_listX {X : Cx} (hc : X.calm = true) : CallR X (.type "list") (rListX X.kx) := by
  intro pins s σ H xs us Q Iv r h
  obtain ⟨I, L, F, kvs, a, A, hl, rfl, q⟩ := h
  obtain rfl := Vals.ref1 r
  obtain ⟨ks, en, na, few, ⟨o, es, ep, ho, hx, hdt, he, _, hn⟩, mu⟩ := led_dT A Iv hl
  have l1 : es.size = ks.length := size_of_entries he
  refine PySem.W.kdl_call (kdl_raw na hx hdt) (Iv.ok.hd hc) ho (by omega) fun h' tk acc c' kp e it => ?_
  have ea : acc.toList = ks.map fun x => Value.ref x.2.1 := by
    apply List.ext_getElem?
    intro j
    have hl : acc.toList.length = ks.length := by rw [Array.length_toList, it.1]; exact l1
    rw [List.getElem?_map]
    by_cases hj : j < ks.length
    · have hv := List.getElem?_eq_getElem (l := acc.toList) (i := j) (by omega)
      obtain ⟨en2, hen, hv2⟩ := it.2 j _ (by rw [← Array.getElem?_toList]; exact hv)
      have qe := entry_at he j
      rw [hen, List.getElem?_eq_getElem hj] at qe
      rw [hv, List.getElem?_eq_getElem hj, hv2]
      cases qe
      rfl
    · rw [List.getElem?_eq_none (by omega), List.getElem?_eq_none (by omega)]; rfl
  have rv : Vals (ks.map fun x => V.ref x.2.1) acc.toList := by
    have := vals_refs (ks.map fun x => x.2.1)
    rw [List.map_map, List.map_map] at this
    rw [ea]; exact this
  refine ⟨.ref s.heap.objs.size, _, Iv.laid (t' := tk) (o := .lst (ks.map fun x => V.ref x.2.1)) kp (Nat.le_refl _) ⟨by rw [List.length_map]; exact few, acc.toList, c', rv, by rw [Array.toArray_toList]; exact e⟩, rfl, q _ _ (Iv.hok.fresh (Nat.le_refl _)) (ents_keys en)⟩
theorem keyV_rp {K : PySem.W.Frag} {I : Hp} : ∀ {kvs : List (Key × DV)} {xs : List (Key × V)}, kvs.map (·.1) = xs.map (·.1) → Rps K I (kvs.map fun kv => keyV kv.1) (xs.map fun kv => kV kv.1)
  | [], [], _ => .nil
  | [], _ :: _, e => by cases e
  | _ :: _, [], e => by cases e
  | (k1, d) :: kvs, (k2, v) :: xs, e => by
    simp only [List.map_cons, List.cons.injEq] at e
    obtain ⟨rfl, e⟩ := e
    refine .cons ?_ (keyV_rp e)
    cases k1
    · exact .int _
    · exact .str _
theorem bListD_ok {k : Kx} {nw : NW} (hn : NwOk nw) : ACl k (fun xs H Q => rListD xs H Q ∨ rListX k xs H Q) (bListD nw) := by
  intro I F H L ds vs P Q A r h q
  unfold bListD at h
  split at h
  · obtain ⟨v, rfl, r1⟩ := one_rp r
    cases r1
    rcases h with ⟨kvs, hl, h⟩ | ⟨kvs, hl, h⟩
    · obtain ⟨_, _, o, eo, ro⟩ := A.led _ _ hl
      cases ro with
      | dK ek rk => exact .inl ⟨_, _, rfl, eo, fun p hp => newL_ok A (keyV_rp ek) (hn _ _ _ h) q p hp⟩
    · exact .inr ⟨I, L, F, kvs, _, A, hl, rfl, fun p us hp r => newL_ok A r (hn _ _ _ h) q p hp⟩
  · exact h.elim
section
variable {X : Cx} {W : WX} {e : Expr} {t : AA} {p pos : Pos} {nw : NW}
theorem a_listD (hc : X.calm = true) (hn : NwOk nw) (hg : Gl X "list") (hm : X.mg "list" = none) (ha : PA X [e] (cA X.kx W t)) (he : starEach [e] X.env = (false, eval e X.env) :: starEach [] X.env := by rfl) : PE X (.Call (.Name "list" p) [e] [] pos) (cE X.kx W (aCB (bListD nw) t)) :=
  a_callTy ((call_list_dK hc).or (cr_listX hc)) (bListD_ok hn) hg hm (by decide +kernel) ha (he := he)
end
/-! ### displays of one entry -/
theorem Ab.unhideW {k : Kx} {I F H : Hp} {L : Led} {p : Addr} {o o' : HO} {m : MO} (A : Ab k I L (upd F p o) H) (hF : F p = none) (r : RpO k I p m o') : Ab k I (updL L p m) F (upd H p o') := by
  have hp : (upd F p o) p = some o := upd_same
  have hI := A.sep _ _ hp
  refine ⟨fun a u e => ?_, fun a u e => ?_, fun a n e => ?_, fun a u e => ?_⟩
  · rw [upd_ne (ne_of_none e hI)]; exact A.imm a u e
  · have : a ≠ p := ne_of_none e hF
    rw [upd_ne this]
    exact A.frm a u (by rw [upd_ne this]; exact e)
  · by_cases z : a = p
    · subst z; rw [updL_same] at e; cases e
      exact ⟨hI, hF, o', upd_same, r⟩
    · rw [updL_ne z] at e
      obtain ⟨h1, h2, u, h3, h4⟩ := A.led a n e
      rw [upd_ne z] at h2
      exact ⟨h1, h2, u, by rw [upd_ne z]; exact h3, h4⟩
  · have : a ≠ p := ne_of_none e hF
    exact A.sep a u (by rw [upd_ne this]; exact e)
theorem Ab.hidL {k : Kx} {I F H : Hp} {L : Led} {p : Addr} {o : HO} (A : Ab k I L (upd F p o) H) : L p = none := by
  cases q : L p with
  | none => rfl
  | some m =>
    obtain ⟨_, h2, _⟩ := A.led p m q
    rw [upd_same] at h2; cases h2
def aDict1 (tk tv : AE) : AE := fun ρ L P _ => tk ρ L (fun x L1 => tv ρ L1 (fun y L2 => ∃ key, keyD x = some key ∧ ∀ a, L2 a = none → P (.ref a) (updL L2 a (.dK [(key, y)]))) noPX) noPX
def aDict1T (tk tv : AE) : AE := fun ρ L P _ => tk ρ L (fun x L1 => tv ρ L1 (fun y L2 => ∃ key, TK x key ∧ ∀ a, L2 a = none → P (.ref a) (updL L2 a (.dT [(key, y)]))) noPX) noPX
section
variable {X : Cx} {W : WX} {ke ve : Expr} {tk tv : AE} {pos : Pos} {kk : Nat}
theorem a_dict1 (hk : PE X ke (cE X.kx W0 tk)) (hv : PE X ve (cE X.kx W0 tv)) : PE X (.Dict [some ke] [ve] pos) (cE X.kx W (aDict1 tk tv)) :=
  (pe_disp (pps_cons hk hv pps_nil) rfl rfl (by simp) (by simp)).imp fun σ H Q ⟨I, L, F, ρ, P, px, S, h, q⟩ p hp => by
    have hF := S.ab.freeF hp
    refine ⟨I, L, upd F p (.dK []), ρ, _, noPX, ⟨S.ab.newF hp, S.rs, fun _ _ _ _ _ _ z => z.elim⟩, h, fun x L1 xv I1 H1 h1 A1 e1 r1 => ⟨I1, L1, upd F p (.dK []), ρ, _, noPX, ⟨A1, S.rs.mono e1, fun _ _ _ _ _ _ z => z.elim⟩, h1, fun y L2 yv I2 H2 h2 A2 e2 r2 => ?_⟩⟩
    obtain ⟨key, hk, h2⟩ := h2
    rw [keyD_rp r1 hk]
    refine ⟨A2.frm _ _ upd_same, [(key, yv)], rfl, by simp, ?_⟩
    exact q _ _ _ _ _ (h2 p A2.hidL) (A2.unhideW hF (.dK (kvs := [(key, y)]) (xs := [(key, yv)]) rfl (.cons r2 .nil))) (e1.trans e2) (.ref p)
theorem a_dict1T (hr : Room kk X.A) (hk : PE X ke (cE X.kx W0 tk)) (hv : PE X ve (cE X.kx W0 tv)) : PE X (.Dict [some ke] [ve] pos) (cE X.kx W (aDict1T tk tv)) := by
  refine ⟨fun pins s σ H Q Iv ⟨I, L, F, ρ, P, px, S, h, q⟩ => ?_⟩
  have hp := Iv.hok.fresh (Nat.le_refl s.heap.objs.size)
  have hF := S.ab.freeF hp
  have sys : (s.heap.objs.size == sysModules) = false := beq_eq_false_iff_ne.mpr (Ne.symm (Nat.ne_of_lt Iv.big))
  have J := Iv.laid (a := s.heap.objs.size) (o := .ext (RawD X.prog X.w s.heap.objs.size [])) (t' := s.toks) (fun _ _ q => Heap.get?_push_of_some _ q) (Nat.le_refl _) (raw_ext (Heap.DictOfH.new (knd := nestedKind X.prog X.w) s.heap))
  have room : (nestedKind X.prog X.w).room X.A := by
    have := hr.un
    show X.A.units + 8 < cLine
    omega
  have hz := pairTrees_length [some ke] [ve] X.env pos rfl rfl
  rw [arm_eval_Dict, zip_pairTrees [some ke] [ve] X.env pos rfl rfl, dictDisplay_pairs (pairTrees [some ke] [ve] X.env pos) (by intro z; rw [z] at hz; cases hz) (by rw [hz]; simp)]
  refine wpAny_bind (wpAny_standAt (wpAny_bind (wpAny_subDictH (knd := nestedKind X.prog X.w) room (by rw [hz]; simp) ?_)))
  refine thn ((pps_cons hk hv pps_nil).run pins _ σ _ (fun ps H2 => ∃ I2 L2 x y xv yv, (∃ key, TK x key ∧ ∀ a, L2 a = none → P (.ref a) (updL L2 a (.dT [(key, y)]))) ∧ Ab X.kx I2 L2 (upd F s.heap.objs.size (.ext (RawD X.prog X.w s.heap.objs.size []))) H2 ∧ Ex I I2 ∧ Rp X.K I2 x xv ∧ Rp X.K I2 y yv ∧ ps = [(xv, yv)]) J
    ⟨I, L, upd F s.heap.objs.size (.ext (RawD X.prog X.w s.heap.objs.size [])), ρ, _, noPX, ⟨S.ab.newF hp, S.rs, fun _ _ _ _ _ _ z => z.elim⟩, h, fun x L1 xv I1 H1 h1 A1 e1 r1 =>
      ⟨I1, L1, upd F s.heap.objs.size (.ext (RawD X.prog X.w s.heap.objs.size [])), ρ, _, noPX, ⟨A1, S.rs.mono e1, fun _ _ _ _ _ _ z => z.elim⟩, h1, fun y L2 yv I2 H2 h2 A2 e2 r2 => ⟨I2, L2, x, y, xv, yv, h2, A2, e1.trans e2, r1.mono e2, r2, rfl⟩⟩⟩) fun us s1 ⟨ps, H2, J2, rv, I2, L2, x, y, xv, yv, ⟨key, tk, h2⟩, A2, e2, r1, r2, eps⟩ => ?_
  subst eps
  cases rv with
  | @cons _ b _ _ hb t =>
  cases t
  obtain ⟨ku, vu⟩ := b
  obtain ⟨hb1, hb2⟩ := hb
  obtain ⟨kb, ds, rfl, rfl⟩ := tk_ref tk r1
  obtain rfl : ku = Value.ref kb := hb1
  have raw := J2.hok _ _ (A2.frm _ _ upd_same)
  obtain ⟨⟨ob, es, ep, g1, g2, g3, g4⟩, _, _⟩ := (show ObjOk X.prog X.w H2 s1.heap s.heap.objs.size (.ext (RawD X.prog X.w s.heap.objs.size [])) from raw)
  refine ⟨[(key, kb, vu)], ⟨rfl, rfl, ⟨nested_of J2 A2.imm _ r1 tk.2.1 rfl, tk.2.2⟩, trivial⟩, ⟨ob, es, ep, g1, g2, g3, g4, fun _ z => (nomatch z), List.nodup_nil⟩, fun h' tk' m' hs => ?_⟩
  have e1 : storedAllH [] [(key, kb, vu)] = [(key, kb, vu)] := rfl
  rw [e1] at m'
  have mu : Mut (H2 s.heap.objs.size) := by rw [A2.frm _ _ upd_same]; exact True.intro
  obtain ⟨o2, _, _, k1, _⟩ := id m'
  refine wpAny_pure ⟨.ref s.heap.objs.size, _, d_write J2 mu hs ⟨o2, k1⟩ (raw_ext m'), rfl, ?_⟩
  exact q _ _ _ _ _ (h2 _ A2.hidL) (A2.unhideW hF (.dT (List.pairwise_singleton ..) sys (by simp [sizeLine_eq]) (.cons ⟨rfl, ⟨ds, r1, tk.2.1⟩, tk.2.2, yv, hb2, r2⟩ .nil))) e2 (.ref _)
end
end AL
namespace AL
open PySem PySem.Spec PyProof.Rows L2
/-! ### dicts: stepping rules -/
section
variable {ρ : Sl} {L : Led} {P : PD} {px : PX} {nx_ bk_ ct_ : Sl → Led → Prop} {rt_ : PD} {px_ : PX} {to ti tv : AE} {neg : Bool} {nw : NW}
def dinA (neg : Bool) (x : DV) (a : Addr) (L : Led) (P : PD) (_ : Lk P) : Prop := oDin neg x (.ref a) L P
def dgetA (a : Addr) (y : DV) (L : Led) (P : PD) (_ : Lk P) : Prop := oDget (.ref a) y L P
def dputA (a : Addr) (y d : DV) (L : Led) (q : Led → Prop) (_ : Lk q) : Prop := ∃ kvs k, L a = some (.dK kvs) ∧ keyD y = some k ∧ kvs.length < sizeLine ∧ q (updL L a (.dK (putG kvs k d)))
def tinA (neg : Bool) (x : DV) (a : Addr) (L : Led) (P : PD) (_ : Lk P) : Prop := oTin neg x (.ref a) L P
def tgetA (a : Addr) (y : DV) (L : Led) (P : PD) (_ : Lk P) : Prop := oTget (.ref a) y L P
def tputA (a : Addr) (y d : DV) (L : Led) (q : Led → Prop) (_ : Lk q) : Prop := ∃ kvs k, L a = some (.dT kvs) ∧ TK y k ∧ kvs.length < sizeLine ∧ q (updL L a (.dT (putT kvs k d)))
def dputD (x y d : DV) (L : Led) (q : Led → Prop) (_ : Lk q) : Prop := match x with
  | .ref a => dputA a y d L q .mk
  | _ => False
def tputD (x y d : DV) (L : Led) (q : Led → Prop) (_ : Lk q) : Prop := match x with
  | .ref a => tputA a y d L q .mk
  | _ => False
theorem xDict0 : aDict0 ρ L P px = ∀ a, L a = none → P (.ref a) (updL L a (.dK [])) := (rfl)
theorem xDict0T : aDict0T ρ L P px = ∀ a, L a = none → P (.ref a) (updL L a (.dT [])) := (rfl)
theorem oDin_e {x : DV} {a : Addr} : oDin neg x (.ref a) L P = dinA neg x a L P .mk := (rfl)
theorem oDget_e {y : DV} {a : Addr} : oDget (.ref a) y L P = dgetA a y L P .mk := (rfl)
theorem oTin_e {x : DV} {a : Addr} : oTin neg x (.ref a) L P = tinA neg x a L P .mk := (rfl)
theorem oTget_e {y : DV} {a : Addr} : oTget (.ref a) y L P = tgetA a y L P .mk := (rfl)
theorem xDput : aDput to ti tv ⟨nx_, rt_, bk_, ct_, px_⟩ ρ L = tv ρ L (fun d L1 => to ρ L1 (fun x L2 => ti ρ L2 (fun y L3 => dputD x y d L3 (nx_ ρ) .mk) px_) px_) px_ := (rfl)
theorem xTput : aTput to ti tv ⟨nx_, rt_, bk_, ct_, px_⟩ ρ L = tv ρ L (fun d L1 => to ρ L1 (fun x L2 => ti ρ L2 (fun y L3 => tputD x y d L3 (nx_ ρ) .mk) px_) px_) px_ := (rfl)
theorem dputD_r {a : Addr} {y d : DV} {q : Led → Prop} {lk : Lk q} : dputD (.ref a) y d L q lk = dputA a y d L q .mk := (rfl)
theorem tputD_r {a : Addr} {y d : DV} {q : Led → Prop} {lk : Lk q} : tputD (.ref a) y d L q lk = tputA a y d L q .mk := (rfl)
theorem din_of {x : DV} {a : Addr} {kvs : List (Key × DV)} {k : Key} {lk : Lk P} (h : L a = some (.dK kvs)) (hk : keyD x = some k) : dinA neg x a L P lk = P (.bl (neg ^^ (valG kvs k).isSome)) L :=
  propext ⟨fun ⟨kvs', k', e1, e2, q⟩ => by rw [h] at e1; cases e1; rw [hk] at e2; cases e2; exact q, fun q => ⟨_, _, h, hk, q⟩⟩
theorem dget_of {y : DV} {a : Addr} {kvs : List (Key × DV)} {k : Key} {d : DV} {lk : Lk P} (h : L a = some (.dK kvs)) (hk : keyD y = some k) (hv : valG kvs k = some d) : dgetA a y L P lk = P d L :=
  propext ⟨fun ⟨kvs', k', d', e1, e2, e3, q⟩ => by rw [h] at e1; cases e1; rw [hk] at e2; cases e2; rw [hv] at e3; cases e3; exact q, fun q => ⟨_, _, _, h, hk, hv, q⟩⟩
theorem dput_of {y d : DV} {a : Addr} {kvs : List (Key × DV)} {k : Key} {q : Led → Prop} {lk : Lk q} (h : L a = some (.dK kvs)) (hk : keyD y = some k) (hz : kvs.length < sizeLine) : dputA a y d L q lk = q (updL L a (.dK (putG kvs k d))) :=
  propext ⟨fun ⟨kvs', k', e1, e2, _, q⟩ => by rw [h] at e1; cases e1; rw [hk] at e2; cases e2; exact q, fun q => ⟨_, _, h, hk, hz, q⟩⟩
theorem tin_of {x : DV} {a : Addr} {kvs : List (NestedKey × DV)} {k : NestedKey} {lk : Lk P} (h : L a = some (.dT kvs)) (hk : TK x k) : tinA neg x a L P lk = P (.bl (neg ^^ (valT kvs k).isSome)) L :=
  propext ⟨fun ⟨kvs', k', e1, e2, q⟩ => by rw [h] at e1; cases e1; have := e2.2.1; rw [hk.2.1] at this; cases this; exact q, fun q => ⟨_, _, h, hk, q⟩⟩
theorem tget_of {y : DV} {a : Addr} {kvs : List (NestedKey × DV)} {k : NestedKey} {d : DV} {lk : Lk P} (h : L a = some (.dT kvs)) (hk : TK y k) (hv : valT kvs k = some d) : tgetA a y L P lk = P d L :=
  propext ⟨fun ⟨kvs', k', d', e1, e2, e3, q⟩ => by rw [h] at e1; cases e1; have := e2.2.1; rw [hk.2.1] at this; cases this; rw [hv] at e3; cases e3; exact q, fun q => ⟨_, _, _, h, hk, hv, q⟩⟩
theorem tput_of {y d : DV} {a : Addr} {kvs : List (NestedKey × DV)} {k : NestedKey} {q : Led → Prop} {lk : Lk q} (h : L a = some (.dT kvs)) (hk : TK y k) (hz : kvs.length < sizeLine) : tputA a y d L q lk = q (updL L a (.dT (putT kvs k d))) :=
  propext ⟨fun ⟨kvs', k', e1, e2, _, q⟩ => by rw [h] at e1; cases e1; have := e2.2.1; rw [hk.2.1] at this; cases this; exact q, fun q => ⟨_, _, h, hk, hz, q⟩⟩
def dict1A (x y : DV) (L : Led) (P : PD) (_ : Lk P) : Prop := ∃ key, keyD x = some key ∧ ∀ a, L a = none → P (.ref a) (updL L a (.dK [(key, y)]))
def dict1TA (x y : DV) (L : Led) (P : PD) (_ : Lk P) : Prop := ∃ key, TK x key ∧ ∀ a, L a = none → P (.ref a) (updL L a (.dT [(key, y)]))
theorem xDict1 : aDict1 ti tv ρ L P px = ti ρ L (fun x L1 => tv ρ L1 (fun y L2 => dict1A x y L2 P .mk) noPX) noPX := (rfl)
theorem xDict1T : aDict1T ti tv ρ L P px = ti ρ L (fun x L1 => tv ρ L1 (fun y L2 => dict1TA x y L2 P .mk) noPX) noPX := (rfl)
theorem dict1_i {i : Int} {y : DV} {lk : Lk P} : dict1A (.int i) y L P lk = ∀ a, L a = none → P (.ref a) (updL L a (.dK [(.inl i, y)])) :=
  propext ⟨fun ⟨k, e, h⟩ => by cases e; exact h, fun h => ⟨_, rfl, h⟩⟩
theorem dict1_s {i : Str} {y : DV} {lk : Lk P} : dict1A (.str i) y L P lk = ∀ a, L a = none → P (.ref a) (updL L a (.dK [(.inr i, y)])) :=
  propext ⟨fun ⟨k, e, h⟩ => by cases e; exact h, fun h => ⟨_, rfl, h⟩⟩
theorem dict1T_of {x y : DV} {k : NestedKey} {lk : Lk P} (hk : TK x k) (h : ∀ a, L a = none → P (.ref a) (updL L a (.dT [(k, y)]))) : dict1TA x y L P lk := ⟨k, hk, h⟩
/-! ### list(dict), max of a list -/
def lstDA (nw : NW) (a : Addr) (L : Led) (P : PD) (_ : Lk P) : Prop := bListD nw [.ref a] L P
theorem bListD_e {a : Addr} : bListD nw [.ref a] L P = lstDA nw a L P .mk := (rfl)
theorem lstDA_k {a : Addr} {kvs : List (Key × DV)} {lk : Lk P} (e : L a = some (.dK kvs)) (h : nw (kvs.map fun kv => keyV kv.1) L P) : lstDA nw a L P lk := .inl ⟨kvs, e, h⟩
theorem lstDA_t {a : Addr} {kvs : List (NestedKey × DV)} {lk : Lk P} (e : L a = some (.dT kvs)) (h : nw (kvs.map fun kv => unk kv.1) L P) : lstDA nw a L P lk := .inr ⟨kvs, e, h⟩
def maxA (ds : List DV) (L : Led) (P : PD) (_ : Lk P) : Prop := bMaxL [.lst ds] L P
theorem bMaxL_l {ds : List DV} : bMaxL [.lst ds] L P = maxA ds L P .mk := (rfl)
theorem maxA_of {ns : List Int} {m : Int} {lk : Lk P} (hm : m ∈ ns) (hle : ∀ y ∈ ns, y ≤ m) (h : P (.int m) L) : maxA (ns.map DV.int) L P lk :=
  ⟨ns, rfl, List.length_pos_of_mem hm, fun m' h1 h2 => by
    have e : m' = m := Int.le_antisymm (hle _ h1) (h2 _ hm)
    rw [e]; exact h⟩
def minA (ds : List DV) (L : Led) (P : PD) (_ : Lk P) : Prop := bMinL [.lst ds] L P
theorem bMinL_l {ds : List DV} : bMinL [.lst ds] L P = minA ds L P .mk := (rfl)
theorem minA_of {ns : List Int} {m : Int} {lk : Lk P} (hm : m ∈ ns) (hle : ∀ y ∈ ns, m ≤ y) (h : P (.int m) L) : minA (ns.map DV.int) L P lk :=
  ⟨ns, rfl, List.length_pos_of_mem hm, fun m' h1 h2 => by
    have e : m' = m := Int.le_antisymm (h2 _ hm) (hle _ h1)
    rw [e]; exact h⟩
theorem oEqN_bs {n : Bool} {i : Bool} {s : Str} : oEqN n (.bl i) (.str s) L P = P (.bl (n ^^ false)) L := (rfl)
theorem oEqN_sb {n : Bool} {i : Bool} {s : Str} : oEqN n (.str s) (.bl i) L P = P (.bl (n ^^ false)) L := (rfl)
theorem oEqN_bn {n : Bool} {i : Bool} : oEqN n (.bl i) .non L P = P (.bl (n ^^ false)) L := (rfl)
theorem oEqN_nb {n : Bool} {i : Bool} : oEqN n .non (.bl i) L P = P (.bl (n ^^ false)) L := (rfl)
theorem oEqN_ns {n : Bool} {s : Str} : oEqN n .non (.str s) L P = P (.bl (n ^^ false)) L := (rfl)
theorem oEqN_sn {n : Bool} {s : Str} : oEqN n (.str s) .non L P = P (.bl (n ^^ false)) L := (rfl)
end
end AL
namespace AL
open PySem PySem.Spec PyProof.Rows L2
/-! ### methods of an object of one of some classes -/
def aMethD (tab : List (Addr × ASp)) (te : AE) (t : AA) : AE := fun ρ L P px => te ρ L (fun x L1 => ∃ C asp, (C, asp) ∈ tab ∧ isC L1 x C (t ρ L1 (fun ds L2 => asp (x :: ds) L2 P fun c L' => px c ρ L') px)) px
/-- each of the classes has the method -/
def DD (X : Cx) (m : Str) (tab : List (Addr × ASp)) : Prop := ∀ C asp, (C, asp) ∈ tab → ∃ (k : Nat) (f : Addr) (fd : FuncData) (ps : List Str), Cls X.K C ∧ Meth X.K C m f ∧ FnOk X.prog X.w X.K X.mg X.base (L2.CX X.prog X.w) k f fd ps (liftSp X.kx asp) ∧ Room k X.A ∧ Binds X.K fd ps []
section
variable {X : Cx} {W : WX} {o : Expr} {es : List Expr} {te : AE} {t : AA} {m : Str} {pos apos : Pos} {tab : List (Addr × ASp)}
theorem dd_nil : DD X m [] := fun _ _ h => nomatch h
theorem dd_cons {C f : Addr} {fd : FuncData} {ps : List Str} {asp : ASp} {k : Nat} (c : Cls X.K C) (hm : Meth X.K C m f) (F : FnOk X.prog X.w X.K X.mg X.base (L2.CX X.prog X.w) k f fd ps (liftSp X.kx asp)) (hr : Room k X.A) (hb : Binds X.K fd ps []) (r : DD X m tab) : DD X m ((C, asp) :: tab) := fun C' asp' h => by
  rcases List.mem_cons.mp h with h | h
  · cases h; exact ⟨k, f, fd, ps, c, hm, F, hr, hb⟩
  · exact r _ _ h
theorem a_methD {pl : Sem Bool} (he : PE X o (cE X.kx W te)) (dd : DD X m tab) (tk : Takes X W) (ga : GoArgs X es (cA X.kx W t))
    (ht : eval (.Call (.Attribute o m apos) es [] pos) X.env = (do
      let ov ← eval o X.env
      standAt apos.atName
      let (f, first) ← holding [ov] (getMethod ov m pl)
      callWith pos f first (backTo pos (starEach es X.env)) (backToKw pos (keywordEach [] X.env))) := by rfl) : PE X (.Call (.Attribute o m apos) es [] pos) (cE X.kx W (aMethD tab te t)) := by
  refine ⟨fun pins s σ H Q I h => ?_⟩
  obtain ⟨I0, L, F0, ρ, P, px, S, h, q⟩ := h
  refine methcall_of he I ⟨I0, L, F0, ρ, _, px, S, h, fun xd L1 xv I1 H1 h1 A1 e1 r1 => ?_⟩ ht
  obtain ⟨C, asp, hC, h1⟩ := h1
  obtain ⟨k, f, fd, ps, c, hm, F, hr, hb⟩ := dd C asp hC
  obtain ⟨a, dx, fs, rfl, ha, cc, h1⟩ := isC_ok A1 r1 h1
  refine ⟨a, C, dx, fs, f, rfl, ha, c, hm, meth_no cc hm, fun s1 J => ?_⟩
  refine ga pos f [.ref a] pins s1 σ H1 _ hm.kp J ⟨I1, L1, F0, ρ, _, px, S.go A1 e1, h1, fun ds L2 vs I2 H2 h2 A2 e2 r2 s2 us J2 r => ?_⟩
  exact goes (us := .ref a :: us) (vs := .ref a :: vs) (dvs := []) (ds0 := []) F hr hb .nil (passAt tk σ) J2 (.cons rfl r) (lift_at (S.go A2 (e1.trans e2)) (by rw [List.append_nil]; exact .cons (r1.mono e2) r2) h2 (q.mono (e1.trans e2)))
end
def dispA (tab : List (Addr × ASp)) (x : DV) (L : Led) (q : ASp → Prop) (_ : Lk q) : Prop := ∃ C asp, (C, asp) ∈ tab ∧ isC L x C (q asp)
section
variable {ρ : Sl} {L : Led} {P : PD} {px : PX} {tab : List (Addr × ASp)} {te : AE} {t : AA}
theorem xMethD : aMethD tab te t ρ L P px = te ρ L (fun x L1 => dispA tab x L1 (fun asp => t ρ L1 (fun ds L2 => callA asp (x :: ds) L2 P (pxA px ρ) .mk .mk) px) .mk) px := (rfl)
theorem disp_ins {C : Addr} {ks : List Str} {ds : List DV} {asp : ASp} {q : ASp → Prop} {lk : Lk q} (h : (C, asp) ∈ tab) (hq : q asp) : dispA tab (.ins C ks ds) L q lk := ⟨C, asp, h, rfl, hq⟩
end
end AL
namespace AL
open PySem PySem.Spec PyProof.Rows L2
/-! ### is True, is False -/
theorem op_isB {X : Cx} : OpR X (compareOp .Is) (fun x y H Q => ∃ a b, x = .bl a ∧ y = .bl b ∧ Q (.bl (a == b)) H) := by
  intro pins s σ H x y v u Q I rx ry h
  obtain ⟨a, b, rfl, rfl, q⟩ := h
  cases rx
  cases ry
  exact wpAny_pure (fin_bl I q (by cases a <;> cases b <;> rfl))
def oIsB : AR2 := fun x y L P => match x, y with
  | .bl a, .bl b => P (.bl (a == b)) L
  | _, _ => False
theorem oIsB_ok {k : Kx} : AOp k (fun x y H Q => ∃ a b, x = .bl a ∧ y = .bl b ∧ Q (.bl (a == b)) H) oIsB := by
  intro I F H L x y xv yv P Q A rx ry h q
  unfold oIsB at h
  split at h
  · cases rx
    cases ry
    exact ⟨_, _, rfl, rfl, here A (.bl _) h q⟩
  · exact h.elim
section
variable {X : Cx} {W : WX} {a b : Expr} {ta tb : AE} {pos : Pos}
theorem a_isB (ha : PE X a (cE X.kx W ta)) (hb : PE X b (cE X.kx W tb)) : PE X (.Compare a [.Is] [b] pos) (cE X.kx W (aBin oIsB ta tb)) := a_cmp op_isB oIsB_ok ha hb
theorem t_isB (ha : PE X a (cE X.kx W ta)) (hb : PE X b (cE X.kx W tb)) : PT X (.Compare a [.Is] [b] pos) (cT X.kx W (aTest (aBin oIsB ta tb))) := t_cmp op_isB oIsB_ok ha hb
end
theorem op_isNB {X : Cx} : OpR X (compareOp .IsNot) (fun x y H Q => ∃ a b, x = .bl a ∧ y = .bl b ∧ Q (.bl (!(a == b))) H) := by
  intro pins s σ H x y v u Q I rx ry h
  obtain ⟨a, b, rfl, rfl, q⟩ := h
  cases rx
  cases ry
  exact wpAny_pure (fin_bl I q (by cases a <;> cases b <;> rfl))
def oIsNB : AR2 := fun x y L P => match x, y with
  | .bl a, .bl b => P (.bl (!(a == b))) L
  | _, _ => False
theorem oIsNB_ok {k : Kx} : AOp k (fun x y H Q => ∃ a b, x = .bl a ∧ y = .bl b ∧ Q (.bl (!(a == b))) H) oIsNB := by
  intro I F H L x y xv yv P Q A rx ry h q
  unfold oIsNB at h
  split at h
  · cases rx
    cases ry
    exact ⟨_, _, rfl, rfl, here A (.bl _) h q⟩
  · exact h.elim
section
variable {X : Cx} {W : WX} {a b : Expr} {ta tb : AE} {pos : Pos}
theorem a_isNB (ha : PE X a (cE X.kx W ta)) (hb : PE X b (cE X.kx W tb)) : PE X (.Compare a [.IsNot] [b] pos) (cE X.kx W (aBin oIsNB ta tb)) := a_cmp op_isNB oIsNB_ok ha hb
theorem t_isNB (ha : PE X a (cE X.kx W ta)) (hb : PE X b (cE X.kx W tb)) : PT X (.Compare a [.IsNot] [b] pos) (cT X.kx W (aTest (aBin oIsNB ta tb))) := t_cmp op_isNB oIsNB_ok ha hb
end
theorem oIsNB_bb {a b : Bool} {L : Led} {P : PD} : oIsNB (.bl a) (.bl b) L P = P (.bl (!(a == b))) L := (rfl)
theorem oIsB_bb {a b : Bool} {L : Led} {P : PD} : oIsB (.bl a) (.bl b) L P = P (.bl (a == b)) L := (rfl)
end AL
namespace AL
open PySem PySem.Spec PyProof.Rows L2
/-! ### displays of dicts whose keys are texts -/
def aPairs : List (Str × AE) → Sl → Led → (List DV → Led → Prop) → Prop
  | [], _, L, K => K [] L
  | p :: r, ρ, L, K => p.2 ρ L (fun y L1 => aPairs r ρ L1 fun ys L2 => K (y :: ys) L2) noPX
def aDictS (ps : List (Str × AE)) : AE := fun ρ L P _ => aPairs ps ρ L fun ys L2 => ∀ a, L2 a = none → P (.ref a) (updL L2 a (.dK ((ps.map fun p => (Sum.inr p.1 : Key)).zip ys)))
inductive DPs (X : Cx) : List (Option Expr) → List Expr → List (Str × AE) → Prop
  | nil : DPs X [] [] []
  | cons {k v : Expr} {s : Str} {tv : AE} {ks : List (Option Expr)} {vs : List Expr} {ps : List (Str × AE)} (hk : PE X k (cE X.kx W0 (aC (.str s)))) (hv : PE X v (cE X.kx W0 tv)) (r : DPs X ks vs ps) : DPs X (some k :: ks) (v :: vs) ((s, tv) :: ps)
theorem DPs.pps {X : Cx} {pos : Pos} {ks : List (Option Expr)} {vs : List Expr} {ps : List (Str × AE)} (h : DPs X ks vs ps) : PPs X pos ks vs (ps.map fun p => (cE X.kx W0 (aC (.str p.1)), cE X.kx W0 p.2)) := by
  induction h with
  | nil => exact pps_nil
  | cons hk hv _ ih => exact pps_cons hk hv ih
theorem DPs.len {X : Cx} {ks : List (Option Expr)} {vs : List Expr} {ps : List (Str × AE)} (h : DPs X ks vs ps) : ks.length = vs.length ∧ ks.length = ps.length ∧ ks.all (·.isSome) = true := by
  induction h with
  | nil => exact ⟨rfl, rfl, rfl⟩
  | cons hk hv _ ih => exact ⟨congrArg Nat.succ ih.1, congrArg Nat.succ ih.2.1, ih.2.2⟩
theorem pairs_lift {k : Kx} : ∀ (ps : List (Str × AE)) {I F H : Hp} {L : Led} {ρ : Sl} {σ : L2.St}, Ab k I L F H → RpS k.K I ρ σ → ∀ (K : List DV → Led → Prop), aPairs ps ρ L K → ∀ (Q : List (V × V) → Hp → Prop), (∀ ys L2 vs I2 H2, K ys L2 → Ab k I2 L2 F H2 → Ex I I2 → Rps k.K I2 ys vs → ys.length = ps.length → Q ((ps.map fun p => V.str p.1).zip vs) H2) → tPairs (ps.map fun p => (cE k W0 (aC (.str p.1)), cE k W0 p.2)) σ H Q
  | [], I, F, H, L, ρ, σ, A, rs, K, h, Q, q => q [] L [] I H h A (Ex.refl I) .nil rfl
  | (s, tv) :: r, I, F, H, L, ρ, σ, A, rs, K, h, Q, q => by
    refine ⟨I, L, F, ρ, fun d L1 => d = .str s ∧ L1 = L, noPX, ⟨A, rs, fun _ _ _ _ _ _ z => z.elim⟩, ⟨rfl, rfl⟩, fun d L1 v I1 H1 hd A1 e1 r1 => ?_⟩
    obtain ⟨rfl, rfl⟩ := hd
    cases r1
    refine ⟨I1, L1, F, ρ, _, noPX, ⟨A1, rs.mono e1, fun _ _ _ _ _ _ z => z.elim⟩, h, fun y L2 yv I2 H2 h2 A2 e2 r2 => ?_⟩
    refine pairs_lift r A2 (rs.mono (e1.trans e2)) _ h2 _ fun ys L3 vs I3 H3 h3 A3 e3 r3 l3 => ?_
    exact q (y :: ys) L3 (yv :: vs) I3 H3 h3 A3 ((e1.trans e2).trans e3) (.cons (r2.mono e3) r3) (congrArg Nat.succ l3)
theorem mergeK_nd : ∀ (more acc : List (Key × V)), ((acc ++ more).map (·.1)).Nodup → mergeK acc more = acc ++ more
  | [], acc, _ => by rw [List.append_nil]; rfl
  | p :: r, acc, h => by
    have hn : ∀ kv ∈ acc, kv.1 ≠ p.1 := fun kv hkv e => by
      rw [List.map_append, List.nodup_append] at h
      exact h.2.2 kv.1 (List.mem_map.mpr ⟨kv, hkv, rfl⟩) p.1 (by simp) e
    have e : putK acc p.1 p.2 = acc ++ [p] := by
      unfold putK
      rw [if_neg fun z => ?_]
      obtain ⟨kv, hkv, e⟩ := List.any_eq_true.mp z
      exact hn kv hkv (of_decide_eq_true e)
    show mergeK (putK acc p.1 p.2) r = _
    rw [e, mergeK_nd r (acc ++ [p]) (by rw [List.append_assoc]; exact h), List.append_assoc]; rfl
section
variable {X : Cx} {W : WX} {pos : Pos} {ks : List (Option Expr)} {vs : List Expr} {ps : List (Str × AE)}
theorem a_dictS (h : DPs X ks vs ps) (nd : (ps.map (·.1)).Nodup) (h0 : 0 < ps.length) (h15 : ps.length ≤ 15) : PE X (.Dict ks vs pos) (cE X.kx W (aDictS ps)) :=
  (pe_disp h.pps h.len.2.2 h.len.1 (fun z => by have := h.len.2.1; rw [z] at this; rw [← this] at h0; exact absurd h0 (Nat.lt_irrefl 0)) (by rw [h.len.2.1]; exact h15)).imp fun σ H Q ⟨I, L, F, ρ, P, px, S, h, q⟩ p hp => by
    have hF := S.ab.freeF hp
    refine pairs_lift ps (S.ab.newF (o := .dK []) hp) S.rs _ h _ fun ys L2 zs I2 H2 h2 A2 e2 r2 l2 => ?_
    have lz : zs.length = ps.length := by rw [← r2.length]; exact l2
    have lk : ((ps.map fun p => (Sum.inr p.1 : Key)).zip zs).map (·.1) = ps.map fun p => (Sum.inr p.1 : Key) := by
      rw [List.map_fst_zip]; rw [List.length_map, lz]; exact Nat.le_refl _
    refine ⟨A2.frm _ _ upd_same, (ps.map fun p => (Sum.inr p.1 : Key)).zip zs, ?_, ?_, ?_⟩
    · rw [List.zip_map_left, List.zip_map_left, List.map_map]; rfl
    · rw [List.length_zip, List.length_map]; omega
    rw [mergeK_nd _ [] ?_, List.nil_append]
    · refine q _ _ _ _ _ (h2 p A2.hidL) (A2.unhideW hF (.dK (kvs := (ps.map fun p => (Sum.inr p.1 : Key)).zip ys) (xs := (ps.map fun p => (Sum.inr p.1 : Key)).zip zs) ?_ ?_)) e2 (.ref p)
      · rw [lk, List.map_fst_zip]; rw [List.length_map, l2]; exact Nat.le_refl _
      · rw [List.map_snd_zip, List.map_snd_zip]
        · exact r2
        · rw [List.length_map, lz]; exact Nat.le_refl _
        · rw [List.length_map, l2]; exact Nat.le_refl _
    · rw [List.nil_append, lk]
      have : ps.map (fun p => (Sum.inr p.1 : Key)) = (ps.map (·.1)).map Sum.inr := by rw [List.map_map]; rfl
      rw [this]
      exact List.pairwise_map.mpr (nd.imp fun h e => h (Sum.inr.inj e))
end
section
variable {ρ : Sl} {L : Led} {P : PD} {px : PX} {K : List DV → Led → Prop} {s : Str} {tv : AE} {ps : List (Str × AE)}
theorem xDictS : aDictS ps ρ L P px = aPairs ps ρ L (fun ys L2 => ∀ a, L2 a = none → P (.ref a) (updL L2 a (.dK ((ps.map fun p => (Sum.inr p.1 : Key)).zip ys)))) := (rfl)
theorem xPairs_nil : aPairs [] ρ L K = K [] L := (rfl)
theorem xPairs_cons : aPairs ((s, tv) :: ps) ρ L K = tv ρ L (fun y L1 => aPairs ps ρ L1 fun ys => K (y :: ys)) noPX := (rfl)
end
end AL
namespace AL
open PySem PySem.Spec PyProof.Rows L2
/-! ### small helps for readings -/
theorem map_at {α β : Type} {f : α → β} {ns : List α} {i : Nat} {d : β} (h : (ns.map f)[i]? = some d) : ∃ n, ns[i]? = some n ∧ d = f n := by
  rw [List.getElem?_map] at h
  cases e : ns[i]? with
  | none => rw [e] at h; cases h
  | some n => rw [e] at h; exact ⟨n, rfl, (Option.some.inj h).symm⟩
theorem take_more {α : Type} {ns : List α} {i : Nat} {n : α} (h : ns[i]? = some n) : ns.take (i + 1) = ns.take i ++ [n] := by
  rw [List.take_add_one, h]; rfl
theorem fold_more {α β : Type} {g : β → α → β} {z : β} {ns : List α} {i : Nat} {n : α} (h : ns[i]? = some n) : (ns.take (i + 1)).foldl g z = g ((ns.take i).foldl g z) n := by
  rw [take_more h, List.foldl_append]; rfl
theorem range_more {β : Type} {g : β → Nat → β} {z : β} (i : Nat) : (List.range (i + 1)).foldl g z = g ((List.range i).foldl g z) i := by
  rw [List.range_succ, List.foldl_append]; rfl
theorem at_nat {α : Type} {xs : List α} {j : Nat} {v : α} (h : xs[j]? = some v) : atI xs (j : Int) = some v := atI_nat h
theorem at_int {α : Type} {xs : List α} {j : Int} {v : α} (h0 : 0 ≤ j) (h : xs[j.toNat]? = some v) : atI xs j = some v := by
  have := atI_nat h
  rwa [Int.toNat_of_nonneg h0] at this
theorem dt {p : Prop} [Decidable p] (h : decide p = true) : p := of_decide_eq_true h
theorem df {p : Prop} [Decidable p] (h : decide p = false) : ¬ p := of_decide_eq_false h
theorem et {p : Prop} [Decidable p] (h : (false ^^ decide p) = true) : p := by simpa using h
theorem ef {p : Prop} [Decidable p] (h : (false ^^ decide p) = false) : ¬ p := by simpa using h
theorem nt {p : Prop} [Decidable p] (h : (true ^^ decide p) = true) : ¬ p := by simpa using h
theorem nf {p : Prop} [Decidable p] (h : (true ^^ decide p) = false) : p := by simpa using h
theorem mulR {i j : Int} (h : -(2 ^ 64) < j ∧ j < 2 ^ 64) : CMul i j := .inr h
theorem mulL {i j : Int} (h : -(2 ^ 64) < i ∧ i < 2 ^ 64) : CMul i j := .inl h
theorem smallLine {n : Nat} (h : n ≤ 1000000) : n < sizeLine := Nat.lt_of_le_of_lt h (by rw [sizeLine_eq]; decide)
theorem leLine {n : Nat} (h : n ≤ 1000000) : n ≤ sizeLine := Nat.le_of_lt (smallLine h)
theorem replicate_len {α : Type} (n : Nat) (a : α) : (List.replicate n a).length = n := List.length_replicate
/-- by the answer of a test -/
theorem bl2 {q : Bool → Prop} {b : Bool} (h1 : b = true → q true) (h2 : b = false → q false) : q b := by
  cases b
  · exact h2 rfl
  · exact h1 rfl
/-- an exception leaves; what was made may be forgotten -/
def RS (R : Addr → Led → Prop) (c : Addr) (L : Led) : Prop := ∃ L2, Sub L2 L ∧ R c L2
theorem RS.of {R : Addr → Led → Prop} {c : Addr} {L : Led} (h : R c L) : RS R c L := ⟨L, Sub.refl L, h⟩
theorem RS.up {R : Addr → Led → Prop} {c : Addr} {L L' : Led} (s : Sub L L') (h : RS R c L) : RS R c L' := let ⟨L2, s2, h⟩ := h; ⟨L2, s2.trans s, h⟩
/-- data whose kind isinstance tells; a list of the ledger too -/
def told (d : DV) (L : Led) (q : Prop) : Prop := match d with
  | .non => q
  | .bl _ => q
  | .int _ => q
  | .str _ => q
  | .lst _ => q
  | .tup _ => q
  | .ref a => (∃ ds, L a = some (.lst ds)) ∧ q
  | _ => False
theorem told.imp {d : DV} {L L' : Led} {p q : Prop} (s : Sub L L') (i : p → q) (h : told d L p) : told d L' q := by
  cases d <;> first | exact i h | exact h.elim | skip
  obtain ⟨⟨ds, e⟩, h⟩ := h
  exact ⟨⟨ds, s _ _ e⟩, i h⟩
/-- a list made here is handed back, as the caller wants it -/
theorem ret_new {k : Kx} {ds : List DV} {L : Led} {P : PD} {a : Addr} (h : newL ds L P) (ha : L a = none) : FrzP k (.ref a) (updL L a (.lst ds)) P := by
  rcases h with h | h
  · exact ⟨_, _, FrzD.refl _ _ _, h a ha⟩
  · exact ⟨_, _, FrzD.lst updL_same, by rw [delL_updL ha]; exact h⟩
theorem ret_newE {k : Kx} {ds : List DV} {L L1 : Led} {P : PD} {a : Addr} (h : newL ds L P) (ha : L a = none) (e : L1 = updL L a (.lst ds)) : FrzP k (.ref a) L1 P := by
  subst e; exact ret_new h ha
theorem kit_self {K : PySem.W.Frag} {v : Value} : PySem.W.kitOne K v v = some true := by unfold PySem.W.kitOne; rw [if_pos (by simp)]
theorem rel_ref {a : Addr} : RelV (.ref a) (.ref a) := rfl
theorem rel_int {i : Int} {t : Tok} : RelV (.int i) (.int i t) := ⟨t, rfl⟩
theorem rel_str {i : Str} {t : Tok} : RelV (.str i) (.str i t) := ⟨t, rfl⟩
theorem pair_eqv {a b c d : Int} : PyData.eqv (.tuple [.int a, .int b]) (.tuple [.int c, .int d]) = decide (a = c ∧ b = d) := by
  unfold PyData.eqv PyData.eqvAll PyData.eqvAll PyData.eqvAll
  by_cases h1 : a = c <;> by_cases h2 : b = d <;> simp [h1, h2, PyData.eqv]
theorem pair_deep {neg : Bool} {a b c d : Int} {L : Led} {P : PD} (h : P (.bl (neg ^^ decide (a = c ∧ b = d))) L) : oEqN neg (.tup [.int a, .int b]) (.tup [.int c, .int d]) L P :=
  ⟨.tuple [.int a, .int b], .tuple [.int c, .int d], .tup (.cons (.int _) (.cons (.int _) .nil)), .tup (.cons (.int _) (.cons (.int _) .nil)), rfl, rfl, by rw [pair_eqv]; exact h⟩
theorem eqA_pair {neg : Bool} {a b c d : Int} {L : Led} {P : PD} {lk : Lk P} (h : P (.bl (neg ^^ decide (a = c ∧ b = d))) L) : eqA neg (.tup [.int a, .int b]) (.tup [.int c, .int d]) L P lk := pair_deep h
/-- a def of which nothing is asked -/
theorem fun_bot {P : Program} {w : World} {K : PySem.W.Frag} {mg : Str → Option Value} {base : Heap} {x qual : Str} {st : Stmt} {f : Addr} {fd : FuncData} {N ps : List Str} {k : Nat} {kx : Kx} {asp : ASp} (F : Fun K x qual st f fd) (S : FnScope N ps (defScope st)) (no : ∀ ds L P R, asp ds L P R → False) : FnOk P w K mg base (L2.CX P w) (k + 1) f fd ps (liftSp kx asp) := by
  refine okXF F S (fun vs H Q E ⟨ds, I, L, F, P, R, A, r, h, _, _⟩ => (no _ _ _ _ h).elim) (fun cdv A outer s H vs Q E hr h => ?_)
  obtain ⟨ds, I, L, F0, P0, R, Ab0, r, h, q, qx⟩ := h
  exact (no _ _ _ _ h).elim
/-! ### the program's own errors -/
section
variable {K : PySem.W.Frag} {D O : Addr}
theorem kit_refT (hd : PySem.W.hasDictIn K O = true) (ht : PySem.W.typeIn K (.ref O) = some (.type "type")) (h : PySem.W.subIn K (.ref D) (.ref O) = some true) : PySem.W.kitOne K (.ref D) (.ref O) = some true := by
  unfold PySem.W.kitOne
  split
  · rfl
  · obtain ⟨cd, hc, _⟩ := PySem.W.any_some hd
    show (if ((PySem.W.clsIn K O).isSome && PySem.W.typeIn K (.ref O) == some (.type "type")) = true then PySem.W.subIn K (.ref D) (.ref O) else none) = _
    rw [if_pos (by rw [hc, ht]; rfl)]
    exact h
theorem kit_refF (hd : PySem.W.hasDictIn K O = true) (ht : PySem.W.typeIn K (.ref O) = some (.type "type")) (h : PySem.W.subIn K (.ref D) (.ref O) = some false) (ho : PySem.W.subIn K (.ref O) (.ref O) = some true) : PySem.W.kitOne K (.ref D) (.ref O) = some false := by
  unfold PySem.W.kitOne
  split
  · rename_i e
    rw [beq_iff_eq.mp e, ho] at h
    cases h
  · obtain ⟨cd, hc, _⟩ := PySem.W.any_some hd
    show (if ((PySem.W.clsIn K O).isSome && PySem.W.typeIn K (.ref O) == some (.type "type")) = true then PySem.W.subIn K (.ref D) (.ref O) else none) = _
    rw [if_pos (by rw [hc, ht]; rfl)]
    exact h
theorem kit_tyT {T : String} (hm : PySem.W.kitMeta T = true) (h : PySem.W.subIn K (.ref D) (.type T) = some true) : PySem.W.kitOne K (.ref D) (.type T) = some true := by
  unfold PySem.W.kitOne
  split
  · rfl
  · show (if PySem.W.kitMeta T = true then PySem.W.subIn K (.ref D) (.type T) else none) = _
    rw [if_pos hm]
    exact h
end
theorem kit_xF {K : PySem.W.Frag} {O : Addr} {T : String} (hd : PySem.W.hasDictIn K O = true) (ht : PySem.W.typeIn K (.ref O) = some (.type "type")) (h : PySem.W.subIn K (.type T) (.ref O) = some false) : PySem.W.kitOne K (.type T) (.ref O) = some false := by
  unfold PySem.W.kitOne
  split
  · rename_i e
    cases beq_iff_eq.mp e
  · obtain ⟨cd, hc, _⟩ := PySem.W.any_some hd
    show (if ((PySem.W.clsIn K O).isSome && PySem.W.typeIn K (.ref O) == some (.type "type")) = true then PySem.W.subIn K (.type T) (.ref O) else none) = _
    rw [if_pos (by rw [hc, ht]; rfl)]
    exact h
theorem kit_tyF {K : PySem.W.Frag} {D : Addr} {T : String} (hm : PySem.W.kitMeta T = true) (h : PySem.W.subIn K (.ref D) (.type T) = some false) : PySem.W.kitOne K (.ref D) (.type T) = some false := by
  unfold PySem.W.kitOne
  split
  · rename_i e
    cases beq_iff_eq.mp e
  · show (if PySem.W.kitMeta T = true then PySem.W.subIn K (.ref D) (.type T) else none) = _
    rw [if_pos hm]
    exact h
/-- the error D among the program's four: a, b, c are the others -/
structure ErrK (G : Gx) (D a b c : Addr) : Prop where
  ex : ExcC G.k.K D
  ca : PySem.W.exmOne G.k.K (.ref D) (.ref G.PlayError) = some true
  cd : PySem.W.exmOne G.k.K (.ref D) (.ref D) = some true
  pe : PySem.W.kitOne G.k.K (.ref D) (.ref G.PlayError) = some true
  na : PySem.W.kitOne G.k.K (.ref D) (.ref a) = some false
  nb : PySem.W.kitOne G.k.K (.ref D) (.ref b) = some false
  nc : PySem.W.kitOne G.k.K (.ref D) (.ref c) = some false
  ve : PySem.W.kitOne G.k.K (.ref D) (.type "ValueError") = some true
theorem ErrK.cP {G : Gx} {D a b c : Addr} (h : ErrK G D a b c) : Caught G.k.K D (.ref G.PlayError) true := ⟨h.ex, h.ca⟩
theorem ErrK.cD {G : Gx} {D a b c : Addr} (h : ErrK G D a b c) : Caught G.k.K D (.ref D) true := ⟨h.ex, h.cd⟩
/-- every law's promise: a list of ints comes, True goes out -/
def spLawT : ASp := fun ds L P _ => match ds with
  | [.wl xs] => (∃ ns : List Int, ns.length ≤ 63 ∧ xs = ns.map DV.int) ∧ P (.bl true) L
  | _ => False
theorem ints_rp {K : PySem.W.Frag} {I : Hp} : ∀ ns : List Int, Rps K I (ns.map DV.int) (ns.map V.int)
  | [] => .nil
  | n :: ns => .cons (.int n) (ints_rp ns)
theorem law_start {k : Kx} {H : Hp} {a : Addr} {ns : List Int} (hl : ns.length ≤ 63) (hS : SqL k.K H a (ns.map V.int)) : liftSp k spLawT [.ref a] H (fun v _ => v = .bl true) fun _ _ _ => False :=
  ⟨[.wl (ns.map DV.int)], H, fun _ => none, fun _ => none, fun d _ => d = .bl true, fun _ _ => False, ⟨fun _ _ e => e, fun _ _ e => (by cases e), fun _ _ e => (by cases e), fun _ _ e => (by cases e)⟩, .cons (.wl hS (ints_rp ns)) .nil,
    ⟨⟨ns, hl, rfl⟩, rfl⟩, fun d L' v I' H' e A x r => by subst e; cases r; rfl, fun _ _ _ _ z => z.elim⟩
theorem spLawT_len {ds : List DV} {L : Led} {P : PD} {R : Addr → Led → Prop} (h : spLawT ds L P R) : ds.length = 1 := by
  unfold spLawT at h
  split at h
  · rfl
  · exact h.elim
end AL
namespace AL
open PySem PySem.Spec PyProof.Rows L2
local macro_rules | `(tactic| simp! [$xs,*]) => `(tactic| simp -dsimp only [↓xDictS, ↓xPairs_nil, ↓xPairs_cons, oIsB_bb, ↓av_0, ↓sl_0, ↓av_1, ↓sl_1, ↓av_2, ↓sl_2, ↓av_3, ↓sl_3, ↓av_4, ↓sl_4, ↓av_5, ↓sl_5, ↓av_6, ↓sl_6, ↓av_7, ↓sl_7, ↓av_8, ↓sl_8, ↓av_9, ↓sl_9, ↓av_10, ↓sl_10, ↓av_11, ↓sl_11, ↓av_12, ↓sl_12, ↓av_13, ↓sl_13, ↓av_14, ↓sl_14, ↓av_15, ↓sl_15, ↓st_1_0, ↓st_1_1, ↓st_2_0, ↓st_2_1, ↓st_2_2, ↓st_3_0, ↓st_3_1, ↓st_3_2, ↓st_3_3, ↓st_4_0, ↓st_4_1, ↓st_4_2, ↓st_4_3, ↓st_4_4, ↓st_5_0, ↓st_5_1, ↓st_5_2, ↓st_5_3, ↓st_5_4, ↓st_5_5, ↓st_6_0, ↓st_6_1, ↓st_6_2, ↓st_6_3, ↓st_6_4, ↓st_6_5, ↓st_6_6, ↓st_7_0, ↓st_7_1, ↓st_7_2, ↓st_7_3, ↓st_7_4, ↓st_7_5, ↓st_7_6, ↓st_8_0, ↓st_8_1, ↓st_8_2, ↓st_8_3, ↓st_8_4, ↓st_8_5, ↓st_8_6, ↓st_9_0, ↓st_9_1, ↓st_9_2, ↓st_9_3, ↓st_9_4, ↓st_9_5, ↓st_9_6, ↓st_10_0, ↓st_10_1, ↓st_10_2, ↓st_10_3, ↓st_10_4, ↓st_10_5, ↓st_10_6, ↓st_11_0, ↓st_11_1, ↓st_11_2, ↓st_11_3, ↓st_11_4, ↓st_11_5, ↓st_11_6, ↓st_12_0, ↓st_12_1, ↓st_12_2, ↓st_12_3, ↓st_12_4, ↓st_12_5, ↓st_12_6, ↓st_13_0, ↓st_13_1, ↓st_13_2, ↓st_13_3, ↓st_13_4, ↓st_13_5, ↓st_13_6, ↓st_14_0, ↓st_14_1, ↓st_14_2, ↓st_14_3, ↓st_14_4, ↓st_14_5, ↓st_14_6, ↓st_15_0, ↓st_15_1, ↓st_15_2, ↓st_15_3, ↓st_15_4, ↓st_15_5, ↓st_15_6, ↓st_16_0, ↓st_16_1, ↓st_16_2, ↓st_16_3, ↓st_16_4, ↓st_16_5, ↓st_16_6, ↓xSeq, ↓xNext, ↓yNx, ↓yBk, ↓yCt, ↓yRt, ↓yPx, ↓xBrk, ↓xCnt, ↓xDrop, ↓xRet, ↓xRetN, ↓xIf, ↓xSet, ↓xRaise, ↓xGh, ↓xFrz, ↓xC, ↓xBin, ↓tstA_bl, ↓xTest, ↓xChain, ↓xAnd, ↓xOr, ↓xNot, ↓xIfE, ↓xAndV, ↓xOrV, ↓xNotB, ↓xNotV, ↓negA_int, ↓xNeg, ↓xNil, ↓xCons, ↓xTup, ↓xLst, ↓xLstN, ↓few_nil, ↓xCB, ↓xTru, ↓xSl, ↓xSlN, ↓xNoPart, ↓partA_int, ↓xPart, ↓xRev, ↓xRevN, ↓xFld, ↓xCall, ↓xMeth, ↓xProp, ↓xMake, ↓xOpM, ↓xUnM, ↓xForS, ↓xForR, ↓sigA_str, ↓xForG, ↓enuA_lst, ↓enuA_tup, ↓xForE, ↓xLcS, ↓xLcR, ↓xLcG, ↓xLcE, ↓xWhile, ↓xTryO, ↓xAsgT, ↓xSetIx, ↓xgN, ↓xgT2, ↓xgT3, ↓wipe0, ↓wipe1, ↓wipe2, ↓wipe3, ↓xYes, ↓oI0_ii, ↓oI_ii, ↓oAdd_ii, ↓oAddN_ii, ↓oAddN_tt, ↓oAddN_ss, ↓oAddN_ll, ↓oAddN_rl, ↓oAddN_lr, ↓oAddN_rr, ↓oMulN_ii, ↓oMulN_li, ↓oMulL_ii, ↓newD_eq, ↓oSlN_tup, ↓oSlN_lst, ↓oSlN_ref, ↓oSlN_str, ↓oIx_tup, ↓oIx_lst, ↓oIx_wl, ↓oIx_ref, ↓ixA_0, ↓ixA_1, ↓ixA_2, ↓oEqN_ii, ↓oEqN_ss, ↓oEqN_bb, ↓oEqN_nn, ↓oEqN_ni, ↓oEqN_in, ↓oEqN_si, ↓oEqN_is, ↓oIsN_x, ↓isN_non, ↓isN_int, ↓isN_tup, ↓isN_lst, ↓isN_str, ↓isN_ins, ↓isN_ref, ↓isN_bl, ↓bInt_i, ↓bInt_b, ↓bAbs_i, ↓bMax2_i, ↓bMin2_i, ↓bLen_s, ↓bLen_l, ↓bLen_t, ↓bLen_w, ↓bLen_r, ↓bListN_l, ↓bListN_t, ↓bListN_w, ↓bListN_r, ↓bTuple_t, ↓bTuple_l, ↓bTuple_r, ↓bStr_i, ↓truD_b, ↓truD_n, ↓truD_i, ↓truD_l, ↓truD_t, ↓truD_r, ↓seqI_l, ↓seqI_t, ↓seqI_w, ↓rng1_i, ↓rng2_i, ↓rng3_i, ↓withL_lst, ↓withSq_lst, ↓withSq_tup, ↓withSq_wl, ↓withL_ref, ↓withSq_ref, ↓seqI_ref, ↓isC_ref, ↓newR_eq, ↓newS_e, ↓newL_e, ↓oIn_e, ↓oEqN_tx, ↓oEqN_lx, ↓oEqN_rx, ↓oEqN_xt, ↓oEqN_xl, ↓withL_upd, ↓withSq_upd, ↓seqI_upd, ↓xLm, ↓lmR_upd, ↓lmB_upd, ↓mAppend_e, ↓mReverse_e, ↓mClear_e, ↓mExtend_l, ↓updupd, ↓updsame, ↓isC_self, ↓fldI_0, ↓fldI_1, ↓fldI_2, ↓fldI_3, ↓fldI_4, ↓fldI_5, ↓few_200, ↓few_199, ↓few_198, ↓few_197, ↓few_196, ↓few_195, ↓few_194, ↓few_193, ↓few_192, ↓few_191, ↓few_190, ↓few_189, ↓few_188, ↓few_187, ↓few_186, ↓few_185, ↓few_184, ↓few_183, ↓few_182, ↓few_181, ↓isi_non_int, ↓isi_non_bool, ↓isi_non_str, ↓isi_non_list, ↓isi_non_tuple, ↓isi_bl_int, ↓isi_bl_bool, ↓isi_bl_str, ↓isi_bl_list, ↓isi_bl_tuple, ↓isi_int_int, ↓isi_int_bool, ↓isi_int_str, ↓isi_int_list, ↓isi_int_tuple, ↓isi_str_int, ↓isi_str_bool, ↓isi_str_str, ↓isi_str_list, ↓isi_str_tuple, ↓isi_lst_int, ↓isi_lst_bool, ↓isi_lst_str, ↓isi_lst_list, ↓isi_lst_tuple, ↓isi_tup_int, ↓isi_tup_bool, ↓isi_tup_str, ↓isi_tup_list, ↓isi_tup_tuple, ↓isi_refx, ↓isi_insx, ↓isi_intx, ↓isi_nonx, ↓isi_lstx, ↓isi_tupx, ↓isi_own, ↓xMethD, ↓oEqN_bs, ↓oEqN_sb, ↓oEqN_bn, ↓oEqN_nb, ↓oEqN_ns, ↓oEqN_sn, ↓xDict0, ↓xDict0T, ↓oDin_e, ↓oDget_e, ↓oTin_e, ↓oTget_e, ↓xDput, ↓xTput, ↓dputD_r, ↓tputD_r, ↓xDict1, ↓xDict1T, ↓dict1_i, ↓dict1_s, ↓bListD_e, ↓bMaxL_l, ↓bMinL_l, ↓bSortSet_l, ↓bSortSet_r, ↓enuS_str, ↓xForES, ↓xLcES, ↓oInD_e, ↓oMulT_ti, ↓oMulT_ii, ↓oMulT_li, ↓oMulT_si, ↓oKd_e, ↓bListT_s, ↓bListT_l, ↓bListT_t, ↓bListT_r, ↓bIntT_i, ↓oSin_tx, ↓oSin_e, ↓xSm1, ↓isStrA_s, ↓sSplit_s, ↓sRempre_s, ↓sJoin_l, ↓sJoin_t, ↓sJoin_r, ↓oIx_s, ↓joinA_signs, ↓inA_l, ↓inA_t, ↓oMulA_ti, ↓oMulA_ii, ↓oMulA_li, ↓oSetL_e, ↓xTryA, ↓xFNew, ↓fnewA_upd, ↓ixA_ints, ↓ixA_map, ↓run_nil, ↓run_cons, ↓bAll_map, ↓bAny_map, ↓bSum_map, ne_lr, ne_rl, tx_length, tx_app, tx_one, signs_tx, cutS_tx, List.map_nil, Int.toNat_natCast, rangeD_0, downD_e, enumD_map, cut_map, List.flatten_replicate_singleton, List.length_replicate, Int.reduceLE, Int.reduceLT, Int.reduceToNat, Nat.reduceAdd, Nat.reduceSub, Nat.reduceMul, Nat.reduceLT, Nat.reduceLeDiff, Int.reduceAdd, Int.reduceSub, Int.reduceMul, Int.reduceEq, Nat.reduceEqDiff, cut_take, cut_drop, cut_takeN, cut_dropN, cut_dropS, List.length_map, List.length_append, List.length_cons, List.length_nil, true_implies, forall_const, false_implies, eq_self, Bool.true_eq_false, Bool.false_eq_true, and_true, true_and, implies_true, decide_eq_true_eq, decide_eq_false_iff_not, Bool.false_xor, Bool.true_xor, Bool.not_eq_true', Bool.not_eq_false', Bool.not_true, Bool.not_false, Bool.not_eq_eq_eq_not, not_true_eq_false, not_false_eq_true, decide_true, decide_false, List.append_nil, List.nil_append, List.cons_append, Bool.and_eq_true, reduceIte, if_true, if_false, $xs,*])
local macro_rules | `(tactic| dsimp! [$xs,*]) => `(tactic| ((try simp only [List.length_append, List.length_map, List.length_take, List.length_drop, List.length_range, List.length_cons, List.length_nil, List.length_replicate, List.length_zipIdx, List.length_reverse, List.length_singleton, List.length_set, sizeLine_eq, $xs,*]); omega))
/-- is it an int and no bool -/
def isIntD : DV → Bool
  | .int _ => true
  | _ => false
theorem isIntD_of {d : DV} (h : isIntD d = true) : ∃ i, d = .int i := by
  cases d <;> first | exact ⟨_, rfl⟩ | cases h
theorem told.get {d : DV} {L : Led} {q : Prop} (h : told d L q) : q := by
  cases d <;> first | exact h | exact h.2 | exact h.elim
/-- the plain form -/
def red : Nat → Int → Int × Nat
  | 0, t => (t, 0)
  | p + 1, t => if t % 2 = 0 then red p (t / 2) else (t, p + 1)
theorem red_stop {t : Int} : ∀ {p : Nat}, p = 0 ∨ t % 2 ≠ 0 → red p t = (t, p)
  | 0, _ => rfl
  | p + 1, h => by
    rcases h with h | h
    · cases h
    · show (if t % 2 = 0 then red p (t / 2) else (t, p + 1)) = _
      rw [if_neg h]
theorem red_go {t : Int} {p : Nat} (h0 : 0 < p) (h : t % 2 = 0) : red p t = red (p - 1) (t / 2) := by
  obtain ⟨n, rfl⟩ : ∃ n, p = n + 1 := ⟨p - 1, by omega⟩
  show (if t % 2 = 0 then red n (t / 2) else (t, n + 1)) = _
  rw [if_pos h]; rfl
/-- what red leaves is plain -/
theorem red_plain : ∀ (p : Nat) (t : Int), (red p t).2 = 0 ∨ (red p t).1 % 2 ≠ 0
  | 0, t => .inl rfl
  | p + 1, t => by
    show (if t % 2 = 0 then red p (t / 2) else (t, p + 1)).2 = 0 ∨ (if t % 2 = 0 then red p (t / 2) else (t, p + 1)).1 % 2 ≠ 0
    by_cases h : t % 2 = 0
    · rw [if_pos h]; exact red_plain p (t / 2)
    · rw [if_neg h]; exact .inr h
/-- .. of the same worth, no higher -/
theorem red_val : ∀ (p : Nat) (t : Int), (red p t).2 ≤ p ∧ (red p t).1 * 2 ^ (p - (red p t).2) = t
  | 0, t => ⟨Nat.le_refl _, by show t * 2 ^ (0 - 0) = t; simp⟩
  | p + 1, t => by
    show (if t % 2 = 0 then red p (t / 2) else (t, p + 1)).2 ≤ p + 1 ∧ (if t % 2 = 0 then red p (t / 2) else (t, p + 1)).1 * 2 ^ (p + 1 - (if t % 2 = 0 then red p (t / 2) else (t, p + 1)).2) = t
    by_cases h : t % 2 = 0
    · rw [if_pos h]
      obtain ⟨h1, h2⟩ := red_val p (t / 2)
      refine ⟨Nat.le_succ_of_le h1, ?_⟩
      rw [show p + 1 - (red p (t / 2)).2 = (p - (red p (t / 2)).2) + 1 by omega, Int.pow_succ, ← Int.mul_assoc, h2]
      omega
    · rw [if_neg h]
      exact ⟨Nat.le_refl _, by simp⟩
theorem red_idem (p : Nat) (t : Int) : red (red p t).2 (red p t).1 = red p t := red_stop (red_plain p t)
theorem iabs (i : Int) : (if i < 0 then -i else i) = (i.natAbs : Int) := by split <;> omega
abbrev ksDy : List Str := ["_top", "_power"]
/-- a dyadic as data -/
def dy (G : Gx) (t : Int) (p : Nat) : DV := .ins G.Dyadic ksDy [.int t, .int p]
/-- the age of a plain form -/
def ageF (t : Int) (p : Nat) : Int := if p = 0 then (t.natAbs : Int) else (t.natAbs : Int) / 2 ^ p + p + 1
theorem natAbs_half (t : Int) : (t / 2).natAbs ≤ t.natAbs := by omega
theorem red_abs : ∀ (p : Nat) (t : Int), (red p t).1.natAbs ≤ t.natAbs
  | 0, t => Nat.le_refl _
  | p + 1, t => by
    show (if t % 2 = 0 then red p (t / 2) else (t, p + 1)).1.natAbs ≤ _
    by_cases h : t % 2 = 0
    · rw [if_pos h]; exact Nat.le_trans (red_abs p (t / 2)) (natAbs_half t)
    · rw [if_neg h]; exact Nat.le_refl _
theorem pow2_pos (n : Nat) : (0 : Int) < 2 ^ n := Int.pow_pos (by decide)
theorem one_pow2 (n : Nat) : (1 : Int) * 2 ^ n = 2 ^ n := Int.one_mul _
theorem cpow1 {n : Nat} (h : n ≤ 1000000) : CPow 1 (n : Int) := ⟨Int.natCast_nonneg n, by omega, by decide⟩
theorem cdiv_small {i j : Int} (h : 0 < j) (hj : j.natAbs < 2 ^ 64) : CDivW i j := ⟨h, Nat.lt_of_lt_of_le ((Nat.log2_lt (by omega)).mpr hj) (by decide)⟩
theorem cdiv_pow2 {i : Int} {n : Nat} (h : n < 9000) : CDivW i (2 ^ n) := ⟨pow2_pos n, by rw [Int.natAbs_pow]; show (2 ^ n).log2 < 9000; rw [Nat.log2_two_pow]; exact h⟩
/-- two numbers over one denominator, as written and in plain form -/
theorem red_cross (p p2 : Nat) (t t2 : Int) : ∃ S : Int, 0 < S ∧ t * 2 ^ p2 = (red p t).1 * 2 ^ (red p2 t2).2 * S ∧ t2 * 2 ^ p = (red p2 t2).1 * 2 ^ (red p t).2 * S := by
  obtain ⟨h1, h2⟩ := red_val p t
  obtain ⟨h3, h4⟩ := red_val p2 t2
  refine ⟨2 ^ (p - (red p t).2) * 2 ^ (p2 - (red p2 t2).2), Int.mul_pos (pow2_pos _) (pow2_pos _), ?_, ?_⟩
  · have e : (2 : Int) ^ p2 = 2 ^ (red p2 t2).2 * 2 ^ (p2 - (red p2 t2).2) := by rw [← Int.pow_add]; congr 1; omega
    conv => lhs; rw [← h2, e]
    ac_rfl
  · have e : (2 : Int) ^ p = 2 ^ (red p t).2 * 2 ^ (p - (red p t).2) := by rw [← Int.pow_add]; congr 1; omega
    conv => lhs; rw [← h4, e]
    ac_rfl
theorem red_lt (p p2 : Nat) (t t2 : Int) : (red p t).1 * 2 ^ (red p2 t2).2 < (red p2 t2).1 * 2 ^ (red p t).2 ↔ t * 2 ^ p2 < t2 * 2 ^ p := by
  obtain ⟨S, h0, h1, h2⟩ := red_cross p p2 t t2
  rw [h1, h2]
  exact ⟨fun h => Int.mul_lt_mul_of_pos_right h h0, fun h => Int.lt_of_mul_lt_mul_right h (Int.le_of_lt h0)⟩
theorem plain_eq {a a2 : Int} : ∀ {b b2 : Nat}, (b = 0 ∨ a % 2 ≠ 0) → (b2 = 0 ∨ a2 % 2 ≠ 0) → a * 2 ^ b2 = a2 * 2 ^ b → a = a2 ∧ b = b2
  | 0, 0, _, _, e => by simpa using e
  | 0, n + 1, _, h2, e => by
    rw [Int.pow_succ, Int.pow_zero, Int.mul_one, ← Int.mul_assoc] at e
    omega
  | n + 1, 0, h1, _, e => by
    rw [Int.pow_succ, Int.pow_zero, Int.mul_one, ← Int.mul_assoc] at e
    omega
  | n + 1, m + 1, h1, h2, e => by
    rw [Int.pow_succ, Int.pow_succ, ← Int.mul_assoc, ← Int.mul_assoc] at e
    have := plain_eq (b := n) (b2 := m) (.inr (by omega)) (.inr (by omega)) (Int.eq_of_mul_eq_mul_right (by decide) e)
    exact ⟨this.1, congrArg Nat.succ this.2⟩
theorem red_eq (p p2 : Nat) (t t2 : Int) : ((red p t).1 = (red p2 t2).1 ∧ (red p t).2 = (red p2 t2).2) ↔ t * 2 ^ p2 = t2 * 2 ^ p := by
  obtain ⟨S, h0, h1, h2⟩ := red_cross p p2 t t2
  rw [h1, h2]
  constructor
  · rintro ⟨e1, e2⟩
    rw [e1, e2]
  · intro h
    exact plain_eq (red_plain p t) (red_plain p2 t2) (Int.eq_of_mul_eq_mul_right (Int.ne_of_gt h0) h)
/-- what isinstance(d, list) tells, and the items -/
def kindL (d : DV) (L : Led) (q : Option (List DV) → Prop) : Prop := match d with
  | .non => q none
  | .bl _ => q none
  | .int _ => q none
  | .str _ => q none
  | .tup _ => q none
  | .lst xs => q (some xs)
  | .ref a => (∃ xs, L a = some (.lst xs) ∧ q (some xs)) ∨ ∃ kvs, L a = some (.dK kvs) ∧ q none
  | _ => False
theorem kindL.imp {d : DV} {L L' : Led} {p q : Option (List DV) → Prop} (s : Sub L L') (i : ∀ o, p o → q o) (h : kindL d L p) : kindL d L' q := by
  cases d <;> first | exact i _ h | exact h.elim | skip
  rcases h with ⟨xs, e, h⟩ | ⟨kvs, e, h⟩
  · exact .inl ⟨xs, s _ _ e, i _ h⟩
  · exact .inr ⟨kvs, s _ _ e, i _ h⟩
def withinD (d : DV) (lo hi : Int) : Bool := match d with
  | .int i => decide (lo ≤ i ∧ i ≤ hi)
  | _ => false
/-- the ints of a list that holds nothing but ints between lo and hi -/
def intsIn (lo hi : Int) : List DV → Option (List Int)
  | [] => some []
  | .int i :: r => if lo ≤ i ∧ i ≤ hi then (intsIn lo hi r).map (i :: ·) else none
  | _ :: _ => none
theorem intsIn_all {lo hi : Int} : ∀ {xs : List DV} {ns : List Int}, intsIn lo hi xs = some ns → xs = ns.map DV.int ∧ ∀ n ∈ ns, lo ≤ n ∧ n ≤ hi
  | [], ns, h => by cases h; exact ⟨rfl, fun n h => by cases h⟩
  | .int i :: r, ns, h => by
    unfold intsIn at h
    split at h
    · rename_i hi'
      cases e : intsIn lo hi r with
      | none => rw [e] at h; cases h
      | some ms =>
        rw [e] at h
        cases h
        obtain ⟨e1, e2⟩ := intsIn_all e
        refine ⟨by rw [e1]; rfl, fun n hn => ?_⟩
        rcases List.mem_cons.mp hn with rfl | hn
        · exact hi'
        · exact e2 n hn
    · cases h
  | .non :: _, _, h => by cases h
  | .bl _ :: _, _, h => by cases h
  | .str _ :: _, _, h => by cases h
  | .ty _ :: _, _, h => by cases h
  | .ref _ :: _, _, h => by cases h
  | .lst _ :: _, _, h => by cases h
  | .tup _ :: _, _, h => by cases h
  | .ins _ _ _ :: _, _, h => by cases h
  | .wl _ :: _, _, h => by cases h
theorem intsIn_some {lo hi : Int} {xs : List DV} : (intsIn lo hi xs).isSome = xs.all fun d => withinD d lo hi := by
  induction xs with
  | nil => rfl
  | cons d r ih =>
    rw [List.all_cons]
    cases d <;> try rfl
    rename_i i
    show (if lo ≤ i ∧ i ≤ hi then (intsIn lo hi r).map (i :: ·) else none).isSome = (decide (lo ≤ i ∧ i ≤ hi) && _)
    by_cases h : lo ≤ i ∧ i ≤ hi
    · rw [if_pos h, decide_eq_true h, Option.isSome_map, ih, Bool.true_and]
    · rw [if_neg h, decide_eq_false h]; rfl
theorem intsIn_ints {lo hi : Int} : ∀ {ns : List Int}, (∀ n ∈ ns, lo ≤ n ∧ n ≤ hi) → intsIn lo hi (ns.map DV.int) = some ns
  | [], _ => rfl
  | n :: r, h => by
    show (if lo ≤ n ∧ n ≤ hi then (intsIn lo hi (r.map DV.int)).map (n :: ·) else none) = _
    rw [if_pos (h n (List.mem_cons_self ..)), intsIn_ints fun m hm => h m (List.mem_cons_of_mem _ hm)]
    rfl
/-- d is a list with these items, as data or on the ledger -/
structure IsL (K : PySem.W.Frag) (d : DV) (xs : List DV) (L : Led) : Prop where
  len : ∀ P : PD, bLen [d] L P = P (.int (xs.length : Nat)) L
  tup : ∀ P : PD, bTuple [d] L P = P (.tup xs) L
  isi : ∀ P : PD, bIsi K [d, .ty "list"] L P = P (.bl true) L
  enu : ∃ stay : Led → Prop, stay L ∧ ∀ (P : List DV → (Led → Prop) → Led → Prop) (lk : Lk P), enuA [d] L P lk = P (enumD xs) stay L
  seq : ∃ stay : Led → Prop, stay L ∧ ∀ P : List DV → (Led → Prop) → Led → Prop, seqI d L P = P xs stay L
  ix : ∀ (i : Int) (P : PD), oIx d (.int i) L P = ixA xs i L P .mk
theorem IsL.lst {K : PySem.W.Frag} {xs : List DV} {L : Led} : IsL K (.lst xs) xs L :=
  ⟨fun _ => rfl, fun _ => rfl, fun _ => isi_lst_list, ⟨_, trivial, fun _ _ => rfl⟩, ⟨_, trivial, fun _ => rfl⟩, fun _ _ => rfl⟩
theorem IsL.ref {K : PySem.W.Frag} {a : Addr} {xs : List DV} {L : Led} (h : L a = some (.lst xs)) : IsL K (.ref a) xs L :=
  ⟨fun P => by rw [bLen_r, withL_ref, withL_of h], fun P => by rw [bTuple_r, withL_ref, withL_of h], fun P => by rw [isi_refx, isi_r_list h], ⟨_, h, fun P lk => enuA_of h⟩, ⟨_, h, fun P => by rw [seqI_ref, seqI_of h]⟩, fun i P => by rw [oIx_ref, withL_ref, withL_of h]⟩
theorem kindL.cases {K : PySem.W.Frag} {d : DV} {L : Led} {q : Option (List DV) → Prop} (h : kindL d L q) : (∃ xs, IsL K d xs L ∧ q (some xs)) ∨ ((∀ P : PD, bIsi K [d, .ty "list"] L P = P (.bl false) L) ∧ q none) := by
  cases d <;> try exact h.elim
  case lst xs => exact .inl ⟨xs, .lst, h⟩
  case ref a =>
    rcases h with ⟨xs, e, h⟩ | ⟨kvs, e, h⟩
    · exact .inl ⟨xs, .ref e, h⟩
    · exact .inr ⟨fun P => by rw [isi_refx, isi_d_list e], h⟩
  case non => exact .inr ⟨fun P => isi_non_list, h⟩
  case bl => exact .inr ⟨fun P => isi_bl_list, h⟩
  case int => exact .inr ⟨fun P => isi_int_list, h⟩
  case str => exact .inr ⟨fun P => isi_str_list, h⟩
  case tup => exact .inr ⟨fun P => isi_tup_list, h⟩
/-- a new list is answered -/
theorem newL_fin {k : Kx} {ds : List DV} {L L0 : Led} {a : Addr} {P : PD} {lk : Lk P} (h : newL ds L P) (ha : L a = none) (hs : Sub L L0) (h0 : L0 a = none) : frzA k (.ref a) (updL L0 a (.lst ds)) P lk := by
  rcases h with h | h
  · exact ⟨_, _, FrzD.sub (L2 := updL L a (.lst ds)) (fun x m e => by
      by_cases q : x = a
      · subst q; rw [updL_same] at e ⊢; exact e
      · rw [updL_ne q] at e ⊢; exact hs _ _ e), h a ha⟩
  · exact ⟨_, _, (FrzD.lst updL_same).trans (FrzD.sub (L2 := L) (by rw [delL_updL h0]; exact hs)), h⟩
/-- all items are of a kind: what they are -/
def optAll {α : Type} (f : DV → Option α) : List DV → Option (List α)
  | [] => some []
  | d :: r => match f d, optAll f r with
    | some x, some xs => some (x :: xs)
    | _, _ => none
theorem optAll_isSome {α : Type} {f : DV → Option α} : ∀ xs : List DV, (optAll f xs).isSome = xs.all fun d => (f d).isSome
  | [] => rfl
  | d :: r => by
    rw [List.all_cons, ← optAll_isSome r]
    show (match f d, optAll f r with | some x, some xs => some (x :: xs) | _, _ => none).isSome = _
    cases f d <;> cases optAll f r <;> rfl
theorem optAll_map {α : Type} {f : DV → Option α} {e : α → DV} : ∀ (xs : List α), (∀ x ∈ xs, f (e x) = some x) → optAll f (xs.map e) = some xs
  | [], _ => rfl
  | x :: xs, h => by
    show (match f (e x), optAll f (xs.map e) with | some x, some xs => some (x :: xs) | _, _ => none) = _
    rw [h x (List.mem_cons_self ..), optAll_map xs fun y hy => h y (List.mem_cons_of_mem _ hy)]
theorem optAll_some {α : Type} {f : DV → Option α} {e : α → DV} (he : ∀ d x, f d = some x → d = e x) : ∀ {ds : List DV} {xs : List α}, optAll f ds = some xs → ds = xs.map e ∧ ∀ x ∈ xs, f (e x) = some x
  | [], xs, h => by cases h; exact ⟨rfl, fun x hx => by cases hx⟩
  | d :: r, xs, h => by
    have h : (match f d, optAll f r with | some x, some xs => some (x :: xs) | _, _ => none) = some xs := h
    cases e1 : f d with
    | none => rw [e1] at h; cases h
    | some x =>
      cases e2 : optAll f r with
      | none => rw [e1, e2] at h; cases h
      | some ys =>
        rw [e1, e2] at h
        cases h
        obtain ⟨a, b⟩ := optAll_some he e2
        refine ⟨by rw [a, he d x e1]; rfl, fun y hy => ?_⟩
        rcases List.mem_cons.mp hy with rfl | hy
        · rw [← he d y e1]; exact e1
        · exact b y hy
theorem optAll_bad {α : Type} {f : DV → Option α} {ds : List DV} {d : DV} (hd : d ∈ ds) (h : f d = none) : optAll f ds = none := by
  have := optAll_isSome (f := f) ds
  have z : (ds.all fun d => (f d).isSome) = false := by
    rw [List.all_eq_false]
    exact ⟨d, hd, by simp [h]⟩
  rw [z] at this
  simpa using this
/-- told, and the items of a tuple too, n deep -/
def toldN : Nat → DV → Led → Prop
  | 0, d, L => told d L True
  | n + 1, d, L => told d L True ∧ ∀ xs, d = .tup xs → ∀ x ∈ xs, toldN n x L
theorem toldN.top {n : Nat} {d : DV} {L : Led} (h : toldN n d L) : told d L True := by cases n <;> first | exact h | exact h.1
theorem toldN.imp {L L' : Led} (s : Sub L L') : ∀ {n : Nat} {d : DV}, toldN n d L → toldN n d L'
  | 0, d, h => told.imp s id h
  | n + 1, d, h => ⟨h.1.imp s id, fun xs e x hx => (h.2 xs e x hx).imp s⟩
theorem toldN_flat {n : Nat} {d : DV} {L : Led} (h : told d L True) (ht : ∀ xs, d ≠ .tup xs) : toldN n d L := by
  cases n with
  | zero => exact h
  | succ n => exact ⟨h, fun xs e => absurd e (ht xs)⟩
abbrev Row := List Int × List Int
def rowD (r : Row) : DV := .tup [.tup (r.1.map .int), .tup (r.2.map .int)]
def okG (n : Int) : Int → List Int → Prop
  | _, [] => True
  | last, g :: r => last < g ∧ g < n ∧ okG n g r
def goalsB (n : Int) : Int → List DV → Bool
  | _, [] => true
  | last, .int g :: r => decide (last < g) && decide (g < n) && goalsB n g r
  | _, _ => false
theorem goalsB_ok {n : Int} : ∀ {gs : List Int} {last : Int}, goalsB n last (gs.map .int) = true ↔ okG n last gs
  | [], _ => by simp [goalsB, okG]
  | g :: r, last => by
    have := goalsB_ok (n := n) (gs := r) (last := g)
    simp only [List.map_cons, goalsB, okG, Bool.and_eq_true, decide_eq_true_eq, this]
    exact and_assoc
theorem goalsB_ints {n : Int} : ∀ {xs : List DV} {last : Int}, goalsB n last xs = true → ∃ gs : List Int, xs = gs.map .int
  | [], _, _ => ⟨[], rfl⟩
  | .int g :: r, last, h => by
    simp only [goalsB, Bool.and_eq_true] at h
    obtain ⟨gs, rfl⟩ := goalsB_ints h.2
    exact ⟨g :: gs, rfl⟩
  | .non :: _, _, h => by simp [goalsB] at h
  | .bl _ :: _, _, h => by simp [goalsB] at h
  | .str _ :: _, _, h => by simp [goalsB] at h
  | .ty _ :: _, _, h => by simp [goalsB] at h
  | .ref _ :: _, _, h => by simp [goalsB] at h
  | .lst _ :: _, _, h => by simp [goalsB] at h
  | .tup _ :: _, _, h => by simp [goalsB] at h
  | .ins _ _ _ :: _, _, h => by simp [goalsB] at h
  | .wl _ :: _, _, h => by simp [goalsB] at h
theorem okG.lt {n : Int} : ∀ {gs : List Int} {last : Int}, okG n last gs → ∀ g ∈ gs, last < g ∧ g < n
  | [], _, _, g, hg => by cases hg
  | x :: r, last, h, g, hg => by
    rcases List.mem_cons.mp hg with rfl | hg
    · exact ⟨h.1, h.2.1⟩
    · have := h.2.2.lt g hg
      exact ⟨by have := h.1; omega, this.2⟩
theorem okG.len {n : Int} : ∀ {gs : List Int} {last : Int}, okG n last gs → last < n → (gs.length : Int) ≤ n - 1 - last
  | [], _, _, h => by simp; omega
  | x :: r, last, h, hl => by
    have := h.2.2.len h.2.1
    have := h.1
    rw [List.length_cons]; omega
def goalsOk (n last : Int) (d : DV) : Bool := match d with
  | .tup xs => goalsB n last xs
  | _ => false
def rowOk (n i : Int) (d : DV) : Bool := match d with
  | .tup [a, b] => goalsOk n i a && goalsOk n i b
  | _ => false
def okRow (n i : Int) (r : Row) : Prop := okG n i r.1 ∧ okG n i r.2
def okRows (rs : List Row) : Prop := (1 ≤ rs.length ∧ rs.length ≤ 40) ∧ ∀ i r, rs[i]? = some r → okRow rs.length (i : Nat) r
def okTable (rs : List Row) (p : Int) : Prop := okRows rs ∧ 0 ≤ p ∧ p < rs.length
/-- what is handed in is a table's rows -/
def rowsOk (xs : List DV) : Prop := (1 ≤ xs.length ∧ xs.length ≤ 40) ∧ ∀ i d, xs[i]? = some d → rowOk xs.length (i : Nat) d = true
theorem rowOk_row {n i : Int} {d : DV} (h : rowOk n i d = true) : ∃ r : Row, d = rowD r ∧ okRow n i r := by
  unfold rowOk at h
  split at h
  · rename_i a b
    rw [Bool.and_eq_true] at h
    obtain ⟨ha, hb⟩ := h
    unfold goalsOk at ha hb
    split at ha
    · split at hb
      · obtain ⟨g1, rfl⟩ := goalsB_ints ha
        obtain ⟨g2, rfl⟩ := goalsB_ints hb
        exact ⟨(g1, g2), rfl, goalsB_ok.mp ha, goalsB_ok.mp hb⟩
      · cases hb
    · cases ha
  · cases h
theorem rowOk_iff {n i : Int} {r : Row} : rowOk n i (rowD r) = true ↔ okRow n i r := by
  show (goalsB n i (r.1.map .int) && goalsB n i (r.2.map .int)) = true ↔ _
  rw [Bool.and_eq_true, goalsB_ok, goalsB_ok]; exact Iff.rfl
theorem rows_of : ∀ (xs : List DV), (∀ (i : Nat) (d : DV), xs[i]? = some d → ∃ r : Row, d = rowD r) → ∃ rs : List Row, xs = rs.map rowD
  | [], _ => ⟨[], rfl⟩
  | x :: xs, h => by
    obtain ⟨r, rfl⟩ := h 0 x rfl
    obtain ⟨rs, rfl⟩ := rows_of xs fun i d hd => h (i + 1) d (by simpa using hd)
    exact ⟨r :: rs, rfl⟩
theorem rowsOk_rows {xs : List DV} (h : rowsOk xs) : ∃ rs : List Row, xs = rs.map rowD ∧ okRows rs := by
  obtain ⟨rs, rfl⟩ := rows_of xs fun i d hd => let ⟨r, e, _⟩ := rowOk_row (h.2 i d hd); ⟨r, e⟩
  rw [rowsOk, List.length_map] at h
  exact ⟨rs, rfl, h.1, fun i r hr => rowOk_iff.mp (h.2 i (rowD r) (by rw [List.getElem?_map, hr]; rfl))⟩
theorem okRows.ok {rs : List Row} (h : okRows rs) : rowsOk (rs.map rowD) := by
  rw [rowsOk, List.length_map]
  refine ⟨h.1, fun i d hd => ?_⟩
  obtain ⟨r, hr, rfl⟩ := map_at hd
  exact rowOk_iff.mpr (h.2 i r hr)
abbrev tableD (G : Gx) (rs : List Row) (p : Int) : DV := .ins G.Table ["_rows", "_place"] [.tup (rs.map rowD), .int p]
def tableV (rs : List Row) (p : Int) : DV := .tup [.str "table", .tup (rs.map rowD), .int p]
def goalsAt (rs : List Row) (p : Int) (left : Bool) : List Int := if left then (rs.getD p.toNat ([], [])).1 else (rs.getD p.toNat ([], [])).2
theorem goalsAt_ok {rs : List Row} {p : Int} (h : okTable rs p) (left : Bool) : okG rs.length p (goalsAt rs p left) := by
  obtain ⟨⟨_, h2⟩, h0, h1⟩ := h
  have hp : p.toNat < rs.length := by omega
  have := h2 p.toNat rs[p.toNat] (List.getElem?_eq_getElem hp)
  rw [Int.toNat_of_nonneg h0] at this
  unfold goalsAt
  have e : rs.getD p.toNat ([], []) = rs[p.toNat] := by simp [hp]
  rw [e]
  split
  · exact this.1
  · exact this.2
theorem okTable.goal {rs : List Row} {p : Int} (h : okTable rs p) {left : Bool} {g : Int} (hg : g ∈ goalsAt rs p left) : okTable rs g := by
  have := (goalsAt_ok h left).lt g hg
  exact ⟨h.1, by have := h.2.1; omega, this.2⟩
theorem goalsAt_len {rs : List Row} {p : Int} (h : okTable rs p) (left : Bool) : (goalsAt rs p left).length ≤ 40 := by
  have := (goalsAt_ok h left).len h.2.2
  have := h.1.1.2
  have := h.2.1
  omega
def intOf : DV → Int
  | .int i => i
  | _ => 0
theorem goalsB_cons {n last : Int} {x : DV} {r : List DV} : goalsB n last (x :: r) = (withinD x (last + 1) (n - 1) && goalsB n (intOf x) r) := by
  cases x <;> try (simp [goalsB, withinD]; done)
  rename_i g
  simp only [goalsB, withinD, intOf]
  congr 1
  by_cases h1 : last < g <;> by_cases h2 : g < n <;> simp [h1, h2] <;> omega
def sideS (left : Bool) : Str := if left then "left" else "right"
/-- d is a list with these items, as data or on the ledger -/
def LsD (d : DV) (xs : List DV) (L : Led) : Prop := d = .lst xs ∨ ∃ a, d = .ref a ∧ L a = some (.lst xs)
theorem LsD.sub {d : DV} {xs : List DV} {L L' : Led} (s : Sub L L') (h : LsD d xs L) : LsD d xs L' := by
  rcases h with rfl | ⟨a, rfl, h⟩
  · exact .inl rfl
  · exact .inr ⟨a, rfl, s _ _ h⟩
/-- .. walked while other things change -/
theorem LsD.walk {d : DV} {xs : List DV} {L : Led} (h : LsD d xs L) : ∃ stay : Led → Prop, (∀ L', LsD d xs L' → stay L') ∧ ∀ P : List DV → (Led → Prop) → Led → Prop, seqI d L P = P xs stay L := by
  rcases h with rfl | ⟨a, rfl, h⟩
  · exact ⟨fun _ => True, fun _ _ => trivial, fun P => rfl⟩
  · refine ⟨fun L' => L' a = some (.lst xs), fun L' s => ?_, fun P => by rw [seqI_ref, seqI_of h]⟩
    rcases s with s | ⟨b, e, s⟩
    · cases s
    · cases e; exact s
theorem LsD.list {nw : NW} {d : DV} {xs : List DV} {L : Led} {P : PD} (h : LsD d xs L) : bListN nw [d] L P = nw xs L P := by
  rcases h with rfl | ⟨a, rfl, h⟩
  · rfl
  · rw [bListN_r, withL_ref, withL_of h]
theorem LsD.walkX {d : DV} {xs : List DV} {L : Led} (h : LsD d xs L) : ∃ stay : Led → Prop, (∀ L', LsD d xs L' → stay L') ∧ stay L ∧ ∀ P : List DV → (Led → Prop) → Led → Prop, seqI d L P = P xs stay L := by
  obtain ⟨s, h1, h2⟩ := h.walk
  exact ⟨s, h1, h1 _ h, h2⟩
theorem LsD.add {d1 d2 : DV} {xs ys : List DV} {nw : NW} {L : Led} {P : PD} (h1 : LsD d1 xs L) (h2 : LsD d2 ys L) : oAddN nw d1 d2 L P = (xs.length + ys.length ≤ sizeLine ∧ nw (xs ++ ys) L P) := by
  rcases h1 with rfl | ⟨a, rfl, h1⟩ <;> rcases h2 with rfl | ⟨b, rfl, h2⟩
  · rfl
  · rw [oAddN_lr, withL_ref, withL_of h2]
  · rw [oAddN_rl, withL_ref, withL_of h1]
  · rw [oAddN_rr, withL_ref, withL_of h1, withL_ref, withL_of h2]
theorem LsD.sors {d : DV} {xs : List DV} {nw : NW} {L : Led} {P : PD} (h : LsD d xs L) : bSortSet nw [d] L P = sorsA nw xs L P .mk := by
  rcases h with rfl | ⟨a, rfl, h⟩
  · rfl
  · rw [bSortSet_r, withL_ref, withL_of h]
theorem LsD.len {d : DV} {xs : List DV} {L : Led} {P : PD} (h : LsD d xs L) : bLen [d] L P = P (.int (xs.length : Nat)) L := by
  rcases h with rfl | ⟨a, rfl, h⟩
  · rfl
  · rw [bLen_r, withL_ref, withL_of h]
theorem LsD.isi {K : PySem.W.Frag} {d : DV} {xs : List DV} {L : Led} (h : LsD d xs L) (P : PD) : bIsi K [d, .ty "list"] L P = P (.bl true) L := by
  rcases h with rfl | ⟨a, rfl, h⟩
  · exact isi_lst_list
  · rw [isi_refx, isi_r_list h]
theorem newL_under {k : Kx} {ds : List DV} {L L2 : Led} {P : PD} (s : Sub L L2) (h : newL ds L P) : newL ds L2 (fun d L' => FrzP k d L' P) := by
  rcases h with h | h
  · exact .inl fun b hb => ⟨_, _, FrzD.sub (fun x m e => by
      by_cases q : x = b
      · subst q; rw [updL_same] at e ⊢; exact e
      · rw [updL_ne q] at e ⊢; exact s _ _ e), h b (s.none hb)⟩
  · exact .inr ⟨_, _, FrzD.sub s, h⟩
/-- a place: 84 a toad, 70 a frog, 46 free -/
def okSign (c : Nat) : Prop := c = 84 ∨ c = 70 ∨ c = 46
instance (c : Nat) : Decidable (okSign c) := inferInstanceAs (Decidable (_ ∨ _))
def okLine (cs : List Nat) : Prop := cs.length ≤ 12 ∧ ∀ c ∈ cs, okSign c
abbrev frogsD (G : Gx) (cs : List Nat) : DV := .ins G.Frogs ["_line"] [.str (tx cs)]
def frogsV (cs : List Nat) : DV := .tup [.str "frogs", .str (tx cs)]
def own (left : Bool) : Nat := if left then 84 else 70
/-- where the sign at i can move to -/
def goalF (cs : List Nat) (i : Nat) (left : Bool) : Option Nat :=
  if cs[i]? = some (own left) then
    (if left then
      (if cs[i + 1]? = some 46 then some (i + 1) else if cs[i + 1]? = some 70 ∧ cs[i + 2]? = some 46 then some (i + 2) else none)
     else
      (if 1 ≤ i ∧ cs[i - 1]? = some 46 then some (i - 1) else if 2 ≤ i ∧ cs[i - 1]? = some 84 ∧ cs[i - 2]? = some 46 then some (i - 2) else none))
  else none
def moveF (cs : List Nat) (i j : Nat) (left : Bool) : List Nat := (cs.set j (own left)).set i 46
def frogTo (left : Bool) (cs : List Nat) (n : Nat) : List (List Nat) := (List.range n).filterMap fun i => (goalF cs i left).map fun j => moveF cs i j left
def frogMoves (left : Bool) (cs : List Nat) : List (List Nat) := frogTo left cs cs.length
theorem frogTo_succ {left : Bool} {cs : List Nat} {n : Nat} : frogTo left cs (n + 1) = frogTo left cs n ++ (match goalF cs n left with | some j => [moveF cs n j left] | none => []) := by
  unfold frogTo
  rw [List.range_succ, List.filterMap_append]
  cases e : goalF cs n left <;> simp [e]
theorem frogTo_len {left : Bool} {cs : List Nat} : ∀ n, (frogTo left cs n).length ≤ n
  | 0 => by simp [frogTo]
  | n + 1 => by
    have := frogTo_len (left := left) (cs := cs) n
    rw [frogTo_succ, List.length_append]
    split
    · simp; try omega
    · simp; try omega
theorem okLine.move {cs : List Nat} (h : okLine cs) {i j : Nat} {left : Bool} : okLine (moveF cs i j left) := by
  refine ⟨by simp [moveF]; exact h.1, fun c hc => ?_⟩
  unfold moveF at hc
  rcases List.mem_or_eq_of_mem_set hc with hc | rfl
  · rcases List.mem_or_eq_of_mem_set hc with hc | rfl
    · exact h.2 c hc
    · unfold own; split <;> decide
  · decide
theorem okLine.moves {cs : List Nat} (h : okLine cs) {left : Bool} : ∀ v ∈ frogMoves left cs, okLine v := by
  intro v hv
  obtain ⟨i, _, hv⟩ := List.mem_filterMap.mp hv
  obtain ⟨j, _, rfl⟩ := Option.map_eq_some_iff.mp hv
  exact h.move
/-- how many moves are left at most: pairs that pass each other -/
def pairs : List Nat → Nat
  | [] => 0
  | c :: r => (if c = 84 then r.countP (fun d => d = 46 ∨ d = 70) else if c = 46 then r.countP (· = 70) else 0) + pairs r
theorem pairs_app (a b : List Nat) : pairs (a ++ b) = pairs a + pairs b + (a.countP (· = 84) * b.countP (fun d => d = 46 ∨ d = 70) + a.countP (· = 46) * b.countP (· = 70)) := by
  induction a with
  | nil => simp [pairs]
  | cons c a ih =>
    rw [List.cons_append, pairs, pairs, ih, List.countP_cons, List.countP_cons, List.countP_append, List.countP_append]
    by_cases h1 : c = 84
    · subst h1; simp [Nat.add_mul]; omega
    · by_cases h2 : c = 46
      · subst h2; simp [Nat.add_mul]; omega
      · simp [h1, h2]; try omega
theorem two_at {cs : List Nat} {i x y : Nat} (h1 : cs[i]? = some x) (h2 : cs[i + 1]? = some y) : cs = cs.take i ++ x :: y :: cs.drop (i + 2) ∧ (cs.take i).length = i := by
  obtain ⟨a1, b1⟩ := List.getElem?_eq_some_iff.mp h1
  obtain ⟨a2, b2⟩ := List.getElem?_eq_some_iff.mp h2
  refine ⟨?_, by simp; omega⟩
  rw [← b1, ← b2, ← List.drop_eq_getElem_cons a2, ← List.drop_eq_getElem_cons a1, List.take_append_drop]
theorem three_at {cs : List Nat} {i x y z : Nat} (h1 : cs[i]? = some x) (h2 : cs[i + 1]? = some y) (h3 : cs[i + 2]? = some z) : cs = cs.take i ++ x :: y :: z :: cs.drop (i + 3) ∧ (cs.take i).length = i := by
  obtain ⟨e, l⟩ := two_at h1 h2
  obtain ⟨a3, b3⟩ := List.getElem?_eq_some_iff.mp h3
  refine ⟨?_, l⟩
  rw [← b3, ← List.drop_eq_getElem_cons a3]
  exact e
theorem set_two {a b : List Nat} {x y u v : Nat} : ((a ++ x :: y :: b).set (a.length + 1) u).set a.length v = a ++ v :: u :: b := by
  rw [List.set_append_right _ _ (by omega), List.set_append_right _ _ (by omega)]; simp
theorem set_two' {a b : List Nat} {x y u v : Nat} : ((a ++ x :: y :: b).set a.length u).set (a.length + 1) v = a ++ u :: v :: b := by
  rw [List.set_append_right _ _ (by omega), List.set_append_right _ _ (by omega)]; simp
theorem set_three {a b : List Nat} {x y z u v : Nat} : ((a ++ x :: y :: z :: b).set (a.length + 2) u).set a.length v = a ++ v :: y :: u :: b := by
  rw [List.set_append_right _ _ (by omega), List.set_append_right _ _ (by omega)]; simp
theorem set_three' {a b : List Nat} {x y z u v : Nat} : ((a ++ x :: y :: z :: b).set a.length u).set (a.length + 2) v = a ++ u :: y :: v :: b := by
  rw [List.set_append_right _ _ (by omega), List.set_append_right _ _ (by omega)]; simp
theorem pairs_less {cs : List Nat} {i j : Nat} {left : Bool} (h : goalF cs i left = some j) : pairs (moveF cs i j left) + 1 = pairs cs := by
  unfold goalF at h
  split at h
  · rename_i h0
    cases left
    · simp only [Bool.false_eq_true, if_false] at h
      have h0 : cs[i]? = some 70 := h0
      split at h
      · rename_i h1
        cases h
        obtain ⟨k, rfl⟩ : ∃ k, i = k + 1 := ⟨i - 1, by omega⟩
        rw [Nat.add_sub_cancel] at h1 ⊢
        obtain ⟨e, l⟩ := two_at h1.2 h0
        generalize ha : cs.take k = a at e l
        generalize hb : cs.drop (k + 2) = b at e
        subst e; subst l
        rw [moveF, show own false = 70 from rfl, set_two', pairs_app, pairs_app]
        simp [pairs, List.countP_cons]; omega
      · split at h
        · rename_i h1
          cases h
          obtain ⟨k, rfl⟩ : ∃ k, i = k + 2 := ⟨i - 2, by omega⟩
          rw [show k + 2 - 1 = k + 1 by omega, Nat.add_sub_cancel] at h1
          rw [Nat.add_sub_cancel]
          obtain ⟨e, l⟩ := three_at h1.2.2 h1.2.1 h0
          generalize ha : cs.take k = a at e l
          generalize hb : cs.drop (k + 3) = b at e
          subst e; subst l
          rw [moveF, show own false = 70 from rfl, set_three', pairs_app, pairs_app]
          simp [pairs, List.countP_cons]; omega
        · cases h
    · simp only [if_true] at h
      have h0 : cs[i]? = some 84 := h0
      split at h
      · rename_i h1
        cases h
        obtain ⟨e, l⟩ := two_at h0 h1
        generalize ha : cs.take i = a at e l
        generalize hb : cs.drop (i + 2) = b at e
        subst e; subst l
        rw [moveF, show own true = 84 from rfl, set_two, pairs_app, pairs_app]
        simp [pairs, List.countP_cons]; omega
      · split at h
        · rename_i h1
          cases h
          obtain ⟨e, l⟩ := three_at h0 h1.1 h1.2
          generalize ha : cs.take i = a at e l
          generalize hb : cs.drop (i + 3) = b at e
          subst e; subst l
          rw [moveF, show own true = 84 from rfl, set_three, pairs_app, pairs_app]
          simp [pairs, List.countP_cons]; omega
        · cases h
  · cases h
theorem cnt_two : ∀ r : List Nat, r.countP (fun d => d = 46 ∨ d = 70) = r.countP (· = 46) + r.countP (· = 70)
  | [] => rfl
  | d :: r => by
    have := cnt_two r
    simp only [List.countP_cons] at this ⊢
    by_cases h1 : d = 46
    · subst h1; simp at this ⊢; omega
    · by_cases h2 : d = 70
      · subst h2; simp at this ⊢; omega
      · simp [h1, h2] at this ⊢; omega
theorem pairs_le : ∀ cs : List Nat, pairs cs ≤ cs.countP (· = 84) * (cs.countP (· = 46) + cs.countP (· = 70)) + cs.countP (· = 46) * cs.countP (· = 70)
  | [] => by simp [pairs]
  | c :: r => by
    have ih := pairs_le r
    have e := cnt_two r
    rw [pairs, List.countP_cons, List.countP_cons, List.countP_cons]
    generalize r.countP (· = 84) = t at ih ⊢
    generalize r.countP (fun d => d = 46 ∨ d = 70) = w at e ⊢
    generalize r.countP (· = 46) = f at ih e ⊢
    generalize r.countP (· = 70) = g at ih e ⊢
    by_cases h1 : c = 84
    · subst h1; simp [Nat.add_mul]; omega
    · by_cases h2 : c = 46
      · subst h2; simp [Nat.add_mul, Nat.mul_add] at ih ⊢; omega
      · by_cases h3 : c = 70
        · subst h3; simp [Nat.add_mul, Nat.mul_add] at ih ⊢; omega
        · simp [h1, h2, h3]; omega
theorem small48 : ∀ x, x < 13 → ∀ y, y < 13 → ∀ z, z < 13 → x + y + z ≤ 12 → x * (y + z) + y * z ≤ 48 := by decide +kernel
theorem count3 : ∀ cs : List Nat, cs.countP (· = 84) + cs.countP (· = 46) + cs.countP (· = 70) ≤ cs.length
  | [] => by simp
  | c :: r => by
    have := count3 r
    rw [List.countP_cons, List.countP_cons, List.countP_cons, List.length_cons]
    by_cases h1 : c = 84
    · subst h1; simp; omega
    · by_cases h2 : c = 46
      · subst h2; simp; omega
      · by_cases h3 : c = 70
        · subst h3; simp; omega
        · simp [h1, h2, h3]; omega
theorem pairs_48 {cs : List Nat} (h : okLine cs) : pairs cs ≤ 48 := by
  have a := count3 cs
  have b := h.1
  exact Nat.le_trans (pairs_le cs) (small48 _ (by omega) _ (by omega) _ (by omega) (by omega))
theorem frogMoves_less {left : Bool} {cs v : List Nat} (h : v ∈ frogMoves left cs) : pairs v + 1 = pairs cs := by
  obtain ⟨i, _, hv⟩ := List.mem_filterMap.mp h
  obtain ⟨j, e, rfl⟩ := Option.map_eq_some_iff.mp hv
  exact pairs_less e
def signAt (cs : List Nat) (i : Int) : List Nat := if 0 ≤ i then (match cs[i.toNat]? with | some c => [c] | none => []) else []
theorem signAt_iff {cs : List Nat} {j : Int} {c : Nat} : signAt cs j = [c] ↔ 0 ≤ j ∧ cs[j.toNat]? = some c := by
  unfold signAt
  split
  · rename_i h
    cases e : cs[j.toNat]? with
    | none => simp
    | some d => simp [h]
  · rename_i h; simp; omega
def stepF (left : Bool) : Int := if left then 1 else -1
theorem goalF_sign {cs : List Nat} {i : Nat} {left : Bool} : goalF cs i left = if cs[i]? = some (own left) then (if signAt cs (i + stepF left) = [46] then some (i + stepF left).toNat else if signAt cs (i + stepF left) = [own (!left)] ∧ signAt cs (i + 2 * stepF left) = [46] then some (i + 2 * stepF left).toNat else none) else none := by
  unfold goalF
  by_cases h : cs[i]? = some (own left)
  · rw [if_pos h, if_pos h]
    simp only [signAt_iff]
    cases left
    · simp only [stepF, own, Bool.false_eq_true, if_false, Bool.not_false, if_true]
      have a : ((i : Int) + -1).toNat = i - 1 := by omega
      have b : ((i : Int) + 2 * -1).toNat = i - 2 := by omega
      rw [a, b]
      have c : (0 ≤ (i : Int) + -1) ↔ 1 ≤ i := by omega
      have d : (0 ≤ (i : Int) + 2 * -1) ↔ 2 ≤ i := by omega
      simp only [c, d]
      by_cases z : 2 ≤ i
      · have z1 : 1 ≤ i := by omega
        simp [z, z1]
      · simp [z]
    · simp only [stepF, own, if_true, Bool.not_true, Bool.false_eq_true, if_false]
      have a : ((i : Int) + 1).toNat = i + 1 := by omega
      have b : ((i : Int) + 2 * 1).toNat = i + 2 := by omega
      rw [a, b]
      have c : (0 ≤ (i : Int) + 1) := by omega
      have d : (0 ≤ (i : Int) + 2) := by omega
      simp [c, d]
  · rw [if_neg h, if_neg h]
theorem signAt_ok {cs : List Nat} (ok : okLine cs) (j : Int) : signAt cs j = [] ∨ signAt cs j = [84] ∨ signAt cs j = [70] ∨ signAt cs j = [46] := by
  unfold signAt
  split
  · cases e : cs[j.toNat]? with
    | none => exact .inl rfl
    | some c =>
      have := ok.2 c (List.mem_of_getElem? e)
      rcases this with rfl | rfl | rfl
      · exact .inr (.inl rfl)
      · exact .inr (.inr (.inl rfl))
      · exact .inr (.inr (.inr rfl))
  · exact .inl rfl
theorem eT : ("T" : Str) = tx [84] := by decide +kernel
theorem eF : ("F" : Str) = tx [70] := by decide +kernel
theorem eE : ("." : Str) = tx [46] := by decide +kernel
theorem eNil : ("" : Str) = tx [] := by decide +kernel
theorem goalF_lt {cs : List Nat} {i j : Nat} {b : Bool} (h : goalF cs i b = some j) : j < cs.length ∧ cs[i]? = some (own b) := by
  unfold goalF at h
  split at h
  · rename_i h0
    refine ⟨?_, h0⟩
    cases b
    · simp only [Bool.false_eq_true, if_false] at h
      split at h
      · rename_i q; cases h; exact (List.getElem?_eq_some_iff.mp q.2).1
      · split at h
        · rename_i q; cases h; exact (List.getElem?_eq_some_iff.mp q.2.2).1
        · cases h
    · simp only [if_true] at h
      split at h
      · rename_i q; cases h; exact (List.getElem?_eq_some_iff.mp q).1
      · split at h
        · rename_i q; cases h; exact (List.getElem?_eq_some_iff.mp q.2).1
        · cases h
  · cases h
/-- the sign at a place of a row with walls -/
def padC (cs : List Nat) (j : Int) : Nat := match signAt cs j with
  | [c] => c
  | _ => 35
theorem pad_at {cs : List Nat} {j : Int} (h0 : -2 ≤ j) (h1 : j < cs.length + 2) : atI ([35, 35] ++ cs ++ [35, 35]) (2 + j) = some (padC cs j) := by
  have e : ([35, 35] ++ cs ++ [35, 35])[(2 + j).toNat]? = some (padC cs j) := by
    unfold padC signAt
    by_cases hj : 0 ≤ j
    · rw [if_pos hj]
      by_cases hl : j.toNat < cs.length
      · rw [List.getElem?_eq_getElem hl, List.getElem?_append_left (by simp; omega), List.getElem?_append_right (by simp; omega)]
        simp
        rw [show (2 + j).toNat - 2 = j.toNat by omega, List.getElem?_eq_getElem hl]
      · have e0 : cs[j.toNat]? = none := List.getElem?_eq_none (by omega)
        rw [e0, List.getElem?_append_right (by simp; omega)]
        have : (2 + j).toNat - ([35, 35] ++ cs).length = 0 ∨ (2 + j).toNat - ([35, 35] ++ cs).length = 1 := by simp; omega
        rcases this with z | z <;> rw [z] <;> rfl
    · rw [if_neg hj]
      have : (2 + j).toNat = 0 ∨ (2 + j).toNat = 1 := by omega
      rcases this with z | z <;> rw [z] <;> rfl
  exact at_int (by omega) e
theorem padC_iff {cs : List Nat} {j : Int} {c : Nat} (hc : c ≠ 35) : padC cs j = c ↔ signAt cs j = [c] := by
  unfold padC
  split
  · rename_i d e
    rw [e]; simp
  · rename_i h
    refine ⟨fun z => absurd z.symm hc, fun z => absurd z (h c)⟩
/-- a cell: 46 free, 35 covered -/
def okCell (c : Nat) : Prop := c = 46 ∨ c = 35
instance (c : Nat) : Decidable (okCell c) := inferInstanceAs (Decidable (_ ∨ _))
abbrev Flo := List (List Nat)
def wide (rs : Flo) : Nat := (rs.headD []).length
structure okFloor (rs : Flo) : Prop where
  h : 1 ≤ rs.length ∧ rs.length ≤ 6
  w : 1 ≤ wide rs ∧ wide rs ≤ 6
  r : ∀ r ∈ rs, r.length = wide rs ∧ ∀ c ∈ r, okCell c
def rowF (r : List Nat) : DV := .str (tx r)
abbrev floorD (G : Gx) (rs : Flo) : DV := .ins G.Floor ["_rows"] [.tup (rs.map rowF)]
def floorV (rs : Flo) : DV := .tup [.str "floor", .tup (rs.map rowF)]
def cellFl (rs : Flo) (i j : Nat) : Nat := (rs.getD i []).getD j 35
/-- one cell covered -/
def cover (rs : Flo) (i j : Nat) : Flo := rs.set i ((rs.getD i []).set j 35)
def downF (b : Bool) : Nat := if b then 1 else 0
/-- all cells in order -/
def cells (h w : Nat) : List (Nat × Nat) := (List.range h).flatMap fun i => (List.range w).map fun j => (i, j)
def isFree (rs : Flo) (p : Nat × Nat) : Bool := decide (cellFl rs p.1 p.2 = 46)
def freeF (rs : Flo) : List (Nat × Nat) := (cells rs.length (wide rs)).filter (isFree rs)
def nextC (b : Bool) (p : Nat × Nat) : Nat × Nat := (p.1 + downF b, p.2 + (1 - downF b))
def layF (rs : Flo) (b : Bool) (p : Nat × Nat) : Flo := cover (cover rs p.1 p.2) (nextC b p).1 (nextC b p).2
def floorMoves (b : Bool) (rs : Flo) : List Flo := ((freeF rs).filter fun p => isFree rs (nextC b p)).map (layF rs b)
theorem getD_row {rs : Flo} {i : Nat} (h : i < rs.length) : rs.getD i [] = rs[i] := by simp [h]
theorem okFloor.row {rs : Flo} (ok : okFloor rs) {i : Nat} (h : i < rs.length) : (rs.getD i []).length = wide rs ∧ ∀ c ∈ rs.getD i [], okCell c := by
  rw [getD_row h]; exact ok.r _ (List.getElem_mem h)
theorem wide_cover {rs : Flo} {i j : Nat} : wide (cover rs i j) = wide rs := by
  unfold wide cover
  cases rs with
  | nil => rfl
  | cons r rs => cases i <;> simp
theorem okFloor.cov {rs : Flo} (ok : okFloor rs) (i j : Nat) : okFloor (cover rs i j) := by
  refine ⟨by simp [cover]; exact ok.h, by rw [wide_cover]; exact ok.w, fun r hr => ?_⟩
  rw [wide_cover]
  unfold cover at hr
  by_cases hi : i < rs.length
  · rcases List.mem_or_eq_of_mem_set hr with hr | rfl
    · exact ok.r r hr
    · obtain ⟨h1, h2⟩ := ok.row hi
      refine ⟨by simpa using h1, fun c hc => ?_⟩
      rcases List.mem_or_eq_of_mem_set hc with hc | rfl
      · exact h2 c hc
      · exact .inr rfl
  · rw [List.set_eq_of_length_le (by omega)] at hr
    exact ok.r r hr
theorem okFloor.lay {rs : Flo} (ok : okFloor rs) (b : Bool) (p : Nat × Nat) : okFloor (layF rs b p) := (ok.cov _ _).cov _ _
theorem okFloor.moves {rs : Flo} (ok : okFloor rs) {b : Bool} : ∀ v ∈ floorMoves b rs, okFloor v := by
  intro v hv
  obtain ⟨p, _, rfl⟩ := List.mem_map.mp hv
  exact ok.lay b p
theorem cells_len {h w : Nat} : (cells h w).length = h * w := by
  unfold cells
  induction h with
  | zero => simp
  | succ n ih => rw [List.range_succ, List.flatMap_append, List.length_append, ih]; simp [Nat.succ_mul]
theorem freeF_len {rs : Flo} (ok : okFloor rs) : (freeF rs).length ≤ 36 := by
  have h1 := List.length_filter_le (isFree rs) (cells rs.length (wide rs))
  rw [cells_len] at h1
  have := Nat.mul_le_mul ok.h.2 ok.w.2
  unfold freeF; omega
theorem floorMoves_len {rs : Flo} (ok : okFloor rs) {b : Bool} : (floorMoves b rs).length ≤ 36 := by
  have := freeF_len ok
  have h1 := List.length_filter_le (fun p => isFree rs (nextC b p)) (freeF rs)
  unfold floorMoves; rw [List.length_map]; omega
/-- the free cells of a row -/
def freeRow (i : Nat) (r : List Nat) : List (Nat × Nat) := (r.zipIdx.filter fun p => decide (p.1 = 46)).map fun p => (i, p.2)
theorem freeRow_eq {rs : Flo} (ok : okFloor rs) {i : Nat} (h : i < rs.length) : freeRow i rs[i] = (((List.range (wide rs)).map fun j => (i, j)).filter (isFree rs)) := by
  have hl := (ok.row h).1
  rw [getD_row h] at hl
  rw [List.filter_map, ← hl]
  unfold freeRow
  have : rs[i].zipIdx = (List.range rs[i].length).map fun j => (rs[i].getD j 35, j) := by
    apply List.ext_getElem (by simp)
    intro n h1 h2
    simp at h2
    simp [h2]
  rw [this, List.filter_map, List.map_map]
  congr 1
  apply List.filter_congr
  intro j hj
  show decide (rs[i].getD j 35 = 46) = isFree rs (i, j)
  unfold isFree cellFl
  rw [getD_row h]
def freeTo (rs : Flo) (n : Nat) : List (Nat × Nat) := (cells n (wide rs)).filter (isFree rs)
theorem freeTo_succ {rs : Flo} (ok : okFloor rs) {n : Nat} (h : n < rs.length) : freeTo rs (n + 1) = freeTo rs n ++ freeRow n rs[n] := by
  rw [freeRow_eq ok h]
  unfold freeTo cells
  rw [List.range_succ, List.flatMap_append, List.filter_append]
  simp
def cellD (p : Nat × Nat) : DV := .tup [.int (p.1 : Nat), .int (p.2 : Nat)]
def covRow (i : Nat) (ps : List (Nat × Nat)) (r : List Nat) : List Nat := ps.foldl (fun r p => if p.1 = i then r.set p.2 35 else r) r
theorem covRow_len {i : Nat} : ∀ {ps : List (Nat × Nat)} {r : List Nat}, (covRow i ps r).length = r.length
  | [], r => rfl
  | p :: ps, r => by
    show (covRow i ps (if p.1 = i then r.set p.2 35 else r)).length = _
    rw [covRow_len]; split <;> simp
theorem covRow_more {i : Nat} {ps : List (Nat × Nat)} {p : Nat × Nat} {r : List Nat} : covRow i (ps ++ [p]) r = if p.1 = i then (covRow i ps r).set p.2 35 else covRow i ps r := by
  unfold covRow; rw [List.foldl_append]; rfl
def coverTo (rs : Flo) (ps : List (Nat × Nat)) (n : Nat) : Flo := (List.range n).map fun i => covRow i ps (rs.getD i [])
theorem coverTo_succ {rs : Flo} {ps : List (Nat × Nat)} {n : Nat} : coverTo rs ps (n + 1) = coverTo rs ps n ++ [covRow n ps (rs.getD n [])] := by
  unfold coverTo; rw [List.range_succ, List.map_append]; rfl
theorem coverTo_two {rs : Flo} {p q : Nat × Nat} : coverTo rs [p, q] rs.length = cover (cover rs p.1 p.2) q.1 q.2 := by
  apply List.ext_getElem (by simp [coverTo, cover])
  intro n h1 h2
  have hn : n < rs.length := by simpa [coverTo] using h1
  simp only [coverTo, cover, List.getElem_map, List.getElem_range, List.getElem_set, covRow, List.foldl_cons, List.foldl_nil, List.getD_eq_getElem?_getD, List.getElem?_set]
  by_cases e1 : p.1 = n <;> by_cases e2 : q.1 = n <;> by_cases e3 : p.1 = q.1 <;> simp [e1, e2, e3, hn] <;> omega
theorem mem_cells {h w : Nat} {p : Nat × Nat} : p ∈ cells h w ↔ p.1 < h ∧ p.2 < w := by
  unfold cells
  simp only [List.mem_flatMap, List.mem_range, List.mem_map]
  exact ⟨fun ⟨i, hi, j, hj, e⟩ => by subst e; exact ⟨hi, hj⟩, fun ⟨a, b⟩ => ⟨p.1, a, p.2, b, rfl⟩⟩
theorem isFree_in {rs : Flo} (ok : okFloor rs) {p : Nat × Nat} (h : isFree rs p = true) : p.1 < rs.length ∧ p.2 < wide rs := by
  have h : cellFl rs p.1 p.2 = 46 := by simpa [isFree] using h
  unfold cellFl at h
  have h1 : p.1 < rs.length := by
    by_cases q : p.1 < rs.length
    · exact q
    · rw [List.getD_eq_getElem?_getD (l := rs), List.getElem?_eq_none (by omega)] at h; simp at h
  refine ⟨h1, ?_⟩
  have hl := (ok.row h1).1
  by_cases q : p.2 < wide rs
  · exact q
  · rw [List.getD_eq_getElem?_getD (l := rs.getD p.1 []), List.getElem?_eq_none (by omega)] at h; simp at h
theorem mem_free {rs : Flo} (ok : okFloor rs) {p : Nat × Nat} : p ∈ freeF rs ↔ isFree rs p = true := by
  unfold freeF
  rw [List.mem_filter, mem_cells]
  exact ⟨fun h => h.2, fun h => ⟨isFree_in ok h, h⟩⟩
theorem cellD_mem {ps : List (Nat × Nat)} {a b : Nat} : DV.tup [.int (a : Nat), .int (b : Nat)] ∈ ps.map cellD ↔ (a, b) ∈ ps := by
  rw [List.mem_map]
  refine ⟨fun ⟨p, hp, e⟩ => ?_, fun h => ⟨_, h, rfl⟩⟩
  simp only [cellD, DV.tup.injEq, List.cons.injEq, DV.int.injEq, and_true] at e
  have : p = (a, b) := Prod.ext (by have := e.1; simp; omega) (by have := e.2; simp; omega)
  rwa [← this]
theorem strOk_tx {cs : List Nat} (h : ∀ c ∈ cs, c < 1114112) : PyData.strOk (tx cs) = true := by
  unfold PyData.strOk tx
  simpa using h
theorem cell_lt {cs : List Nat} (h : ∀ c ∈ cs, okCell c) : ∀ c ∈ cs, c < 1114112 := fun c hc => by rcases h c hc with rfl | rfl <;> decide
theorem pl_rows {rs : Flo} (ok : okFloor rs) : pl 1 (.lst (rs.map rowF)) := by
  intro d hd
  obtain ⟨r, hr, rfl⟩ := List.mem_map.mp hd
  exact strOk_tx (cell_lt (ok.r r hr).2)
section
open Classical
/-- two cells side by side -/
def besF (p q : Nat × Nat) : Prop := (p.1 = q.1 ∧ (p.2 = q.2 + 1 ∨ q.2 = p.2 + 1)) ∨ (p.2 = q.2 ∧ (p.1 = q.1 + 1 ∨ q.1 = p.1 + 1))
theorem besF.symm {p q : Nat × Nat} (h : besF p q) : besF q p := by
  unfold besF at *
  omega
/-- cells that hang together among the cells cs -/
inductive LnkF (cs : List (Nat × Nat)) (p : Nat × Nat) : Nat × Nat → Prop
  | here (h : p ∈ cs) : LnkF cs p p
  | step {q r : Nat × Nat} (k : LnkF cs p q) (hr : r ∈ cs) (b : besF q r) : LnkF cs p r
theorem LnkF.mem {cs : List (Nat × Nat)} {p q : Nat × Nat} (h : LnkF cs p q) : p ∈ cs ∧ q ∈ cs := by
  induction h with
  | here h => exact ⟨h, h⟩
  | step _ hr _ ih => exact ⟨ih.1, hr⟩
theorem LnkF.trans {cs : List (Nat × Nat)} {p q r : Nat × Nat} (h : LnkF cs p q) (k : LnkF cs q r) : LnkF cs p r := by
  induction k with
  | here _ => exact h
  | step _ hr b ih => exact .step ih hr b
theorem LnkF.symm {cs : List (Nat × Nat)} {p q : Nat × Nat} (h : LnkF cs p q) : LnkF cs q p := by
  induction h with
  | here h => exact .here h
  | step k hr b ih => exact (LnkF.step (.here hr) k.mem.2 b.symm).trans ih
/-- a closed set of cells that holds p and only such as hang together with it -/
theorem LnkF.closed {cs fs : List (Nat × Nat)} {p : Nat × Nat} (hp : p ∈ fs) (hl : ∀ q ∈ fs, LnkF cs p q) (cl : ∀ q ∈ fs, ∀ r ∈ cs, besF q r → r ∈ fs) {q : Nat × Nat} : q ∈ fs ↔ LnkF cs p q := by
  refine ⟨hl q, fun h => ?_⟩
  induction h with
  | here _ => exact hp
  | step _ hr b ih => exact cl _ ih _ hr b
/-- a sublist that no step leaves hangs together as the whole does -/
theorem LnkF.sub {cs ls : List (Nat × Nat)} (sb : ∀ q ∈ ls, q ∈ cs) (cl : ∀ q ∈ ls, ∀ r ∈ cs, besF q r → r ∈ ls) {p q : Nat × Nat} (hp : p ∈ ls) : LnkF ls p q ↔ LnkF cs p q := by
  constructor
  · intro h
    induction h with
    | here h => exact .here (sb _ h)
    | step _ hr b ih => exact .step ih (sb _ hr) b
  · intro h
    induction h with
    | here _ => exact .here hp
    | step _ hr b ih => exact .step ih (cl _ ih.mem.2 _ hr b) b
noncomputable def compF (cs : List (Nat × Nat)) (p : Nat × Nat) : List (Nat × Nat) := cs.filter fun q => decide (LnkF cs p q)
noncomputable def restF (cs : List (Nat × Nat)) (p : Nat × Nat) : List (Nat × Nat) := cs.filter fun q => !decide (LnkF cs p q)
theorem comp_memF {cs : List (Nat × Nat)} {p q : Nat × Nat} : q ∈ compF cs p ↔ LnkF cs p q := by
  unfold compF
  rw [List.mem_filter, decide_eq_true_iff]
  exact ⟨fun h => h.2, fun h => ⟨h.mem.2, h⟩⟩
theorem rest_memF {cs : List (Nat × Nat)} {p q : Nat × Nat} : q ∈ restF cs p ↔ q ∈ cs ∧ ¬ LnkF cs p q := by
  unfold restF
  rw [List.mem_filter]
  simp
/-- the cells by those that hang together -/
noncomputable def splitF : Nat → List (Nat × Nat) → List (List (Nat × Nat))
  | 0, _ => []
  | _ + 1, [] => []
  | n + 1, p :: r => compF (p :: r) p :: splitF n (restF (p :: r) p)
theorem rest_len {p : Nat × Nat} {r : List (Nat × Nat)} : (restF (p :: r) p).length ≤ r.length := by
  unfold restF
  rw [List.filter_cons, if_neg (by simp [LnkF.here])]
  exact List.length_filter_le _ _
/-- how many cells have a free one next to them -/
noncomputable def cntF (b : Bool) (c : List (Nat × Nat)) : Nat := (c.filter fun p => decide (nextC b p ∈ c)).length
theorem bes_next (b : Bool) (p : Nat × Nat) : besF p (nextC b p) := by
  unfold besF nextC downF
  cases b <;> simp
theorem filter_two {α : Type} (q : α → Bool) (l : List α) : l.length = (l.filter q).length + (l.filter fun x => !q x).length := by
  induction l with
  | nil => rfl
  | cons a l ih => rw [List.filter_cons, List.filter_cons]; cases h : q a <;> simp <;> omega
theorem cnt_split {b : Bool} : ∀ (n : Nat) (l : List (Nat × Nat)), l.length ≤ n → cntF b l = ((splitF n l).map (cntF b)).sum
  | 0, l, h => by
    have : l = [] := List.eq_nil_of_length_eq_zero (by omega)
    subst this; rfl
  | n + 1, [], _ => rfl
  | n + 1, p :: r, h => by
    have hl := rest_len (p := p) (r := r)
    show _ = (cntF b (compF (p :: r) p) :: _).sum
    rw [List.sum_cons, ← cnt_split n (restF (p :: r) p) (by simp at h; omega)]
    generalize p :: r = l
    unfold cntF
    rw [filter_two (fun q => decide (LnkF l p q)) (l.filter _)]
    rw [List.filter_filter, List.filter_filter]
    unfold compF restF
    rw [List.filter_filter, List.filter_filter]
    congr 2
    · refine List.filter_congr fun q hq => ?_
      simp only [List.mem_filter, decide_eq_true_iff]
      rw [Bool.and_comm]
      by_cases z : LnkF l p q
      · rw [decide_eq_true z, Bool.and_true, Bool.and_true]
        refine decide_eq_decide.mpr ⟨fun m => ⟨m, .step z m (bes_next b q)⟩, fun m => m.1⟩
      · rw [decide_eq_false z, Bool.and_false, Bool.and_false]
    · refine List.filter_congr fun q hq => ?_
      simp only [List.mem_filter]
      rw [Bool.and_comm]
      by_cases z : LnkF l p q
      · rw [decide_eq_true z]; simp
      · rw [decide_eq_false z, Bool.not_false, Bool.and_true, Bool.and_true]
        refine decide_eq_decide.mpr ⟨fun m => ⟨m, ?_⟩, fun m => m.1⟩
        rw [decide_eq_false]; rfl
        exact fun k => z (.step k hq (bes_next b q).symm)
theorem cnt_small {b : Bool} {c : List (Nat × Nat)} (h : c.length ≤ 1) : cntF b c = 0 := by
  unfold cntF
  match c, h with
  | [], _ => rfl
  | [p], _ =>
    have : ¬ nextC b p = p := fun e => by
      have e1 := congrArg Prod.fst e
      have e2 := congrArg Prod.snd e
      simp [nextC, downF] at e1 e2
      cases b <;> simp_all
    simp [List.filter, this]
def mnL (l : List Nat) : Nat := l.foldr min 1000
def mxL (l : List Nat) : Nat := l.foldr max 0
theorem mnL_le {l : List Nat} {x : Nat} (h : x ∈ l) : mnL l ≤ x := by
  induction l with
  | nil => cases h
  | cons a l ih =>
    show min a (mnL l) ≤ x
    rcases List.mem_cons.mp h with rfl | h
    · omega
    · have := ih h; omega
theorem mxL_le {l : List Nat} {x : Nat} (h : x ∈ l) : x ≤ mxL l := by
  induction l with
  | nil => cases h
  | cons a l ih =>
    show x ≤ max a (mxL l)
    rcases List.mem_cons.mp h with rfl | h
    · omega
    · have := ih h; omega
theorem mnL_in {l : List Nat} (h : l ≠ []) (s : ∀ x ∈ l, x < 1000) : mnL l ∈ l := by
  induction l with
  | nil => exact absurd rfl h
  | cons a l ih =>
    show min a (mnL l) ∈ _
    by_cases z : l = []
    · subst z
      have := s a (List.mem_cons_self ..)
      have e : min a (mnL []) = a := by show min a 1000 = a; omega
      rw [e]; exact List.mem_cons_self ..
    · have := ih z fun x hx => s x (List.mem_cons_of_mem _ hx)
      rcases Nat.le_total a (mnL l) with q | q
      · rw [Nat.min_eq_left q]; exact List.mem_cons_self ..
      · rw [Nat.min_eq_right q]; exact List.mem_cons_of_mem _ this
theorem mxL_in {l : List Nat} (h : l ≠ []) : mxL l ∈ l := by
  induction l with
  | nil => exact absurd rfl h
  | cons a l ih =>
    show max a (mxL l) ∈ _
    by_cases z : l = []
    · subst z
      have e : max a (mxL []) = a := by show max a 0 = a; omega
      rw [e]; exact List.mem_cons_self ..
    · have := ih z
      rcases Nat.le_total a (mxL l) with q | q
      · rw [Nat.max_eq_right q]; exact List.mem_cons_of_mem _ this
      · rw [Nat.max_eq_left q]; exact List.mem_cons_self ..
/-- bounds of cells -/
structure Box (c : List (Nat × Nat)) (a b h w : Nat) : Prop where
  lo1 : ∃ q ∈ c, q.1 = a
  lo2 : ∃ q ∈ c, q.2 = b
  hi1 : ∃ q ∈ c, q.1 = a + h
  hi2 : ∃ q ∈ c, q.2 = b + w
  bd : ∀ q ∈ c, (a ≤ q.1 ∧ q.1 ≤ a + h) ∧ b ≤ q.2 ∧ q.2 ≤ b + w
noncomputable def boxF (c : List (Nat × Nat)) (a b h w : Nat) : Flo := (List.range (h + 1)).map fun i => (List.range (w + 1)).map fun j => if (a + i, b + j) ∈ c then 46 else 35
noncomputable def clipF (c : List (Nat × Nat)) : Flo := boxF c (mnL (c.map (·.1))) (mnL (c.map (·.2))) (mxL (c.map (·.1)) - mnL (c.map (·.1))) (mxL (c.map (·.2)) - mnL (c.map (·.2)))
theorem box_of {c : List (Nat × Nat)} (ne : c ≠ []) (s : ∀ q ∈ c, q.1 < 6 ∧ q.2 < 6) : Box c (mnL (c.map (·.1))) (mnL (c.map (·.2))) (mxL (c.map (·.1)) - mnL (c.map (·.1))) (mxL (c.map (·.2)) - mnL (c.map (·.2))) := by
  have n1 : c.map (·.1) ≠ [] := by simpa using ne
  have n2 : c.map (·.2) ≠ [] := by simpa using ne
  have s1 : ∀ x ∈ c.map (·.1), x < 1000 := fun x hx => by obtain ⟨q, hq, rfl⟩ := List.mem_map.mp hx; have := s q hq; omega
  have s2 : ∀ x ∈ c.map (·.2), x < 1000 := fun x hx => by obtain ⟨q, hq, rfl⟩ := List.mem_map.mp hx; have := s q hq; omega
  have a1 := mnL_in n1 s1
  have a2 := mnL_in n2 s2
  have b1 := mxL_in n1
  have b2 := mxL_in n2
  have l1 := mxL_le a1
  have l2 := mxL_le a2
  obtain ⟨q1, h1, e1⟩ := List.mem_map.mp a1
  obtain ⟨q2, h2, e2⟩ := List.mem_map.mp a2
  obtain ⟨q3, h3, e3⟩ := List.mem_map.mp b1
  obtain ⟨q4, h4, e4⟩ := List.mem_map.mp b2
  refine ⟨⟨q1, h1, e1⟩, ⟨q2, h2, e2⟩, ⟨q3, h3, by omega⟩, ⟨q4, h4, by omega⟩, fun q hq => ?_⟩
  have m1 : q.1 ∈ c.map (·.1) := List.mem_map_of_mem (f := fun x => x.1) hq
  have m2 : q.2 ∈ c.map (·.2) := List.mem_map_of_mem (f := fun x => x.2) hq
  have e1 : q1.1 = mnL (c.map (·.1)) := e1
  have e2 : q2.2 = mnL (c.map (·.2)) := e2
  have e3 : q3.1 = mxL (c.map (·.1)) := e3
  have e4 : q4.2 = mxL (c.map (·.2)) := e4
  have c1 := mnL_le m1
  have c2 := mnL_le m2
  have c3 := mxL_le m1
  have c4 := mxL_le m2
  omega
theorem Box.uniq {c c' : List (Nat × Nat)} {a b h w a' b' h' w' : Nat} (x : Box c a b h w) (y : Box c' a' b' h' w') (m : ∀ q, q ∈ c ↔ q ∈ c') : a = a' ∧ b = b' ∧ h = h' ∧ w = w' := by
  obtain ⟨⟨q1, h1, e1⟩, ⟨q2, h2, e2⟩, ⟨q3, h3, e3⟩, ⟨q4, h4, e4⟩, bx⟩ := x
  obtain ⟨⟨p1, g1, f1⟩, ⟨p2, g2, f2⟩, ⟨p3, g3, f3⟩, ⟨p4, g4, f4⟩, by'⟩ := y
  have := by' q1 ((m _).mp h1)
  have := by' q2 ((m _).mp h2)
  have := by' q3 ((m _).mp h3)
  have := by' q4 ((m _).mp h4)
  have := bx p1 ((m _).mpr g1)
  have := bx p2 ((m _).mpr g2)
  have := bx p3 ((m _).mpr g3)
  have := bx p4 ((m _).mpr g4)
  omega
theorem box_congr {c c' : List (Nat × Nat)} {a b h w : Nat} (m : ∀ q, q ∈ c ↔ q ∈ c') : boxF c a b h w = boxF c' a b h w := by
  unfold boxF
  simp only [m]
theorem clip_box {c c' : List (Nat × Nat)} {a b h w : Nat} (s : ∀ q ∈ c, q.1 < 6 ∧ q.2 < 6) (x : Box c' a b h w) (m : ∀ q, q ∈ c' ↔ q ∈ c) : clipF c = boxF c' a b h w := by
  have ne : c ≠ [] := fun e => by obtain ⟨q, hq, _⟩ := x.lo1; rw [m, e] at hq; cases hq
  obtain ⟨e1, e2, e3, e4⟩ := x.uniq (box_of ne s) m
  unfold clipF
  rw [box_congr m, e1, e2, e3, e4]
theorem box_wide {c : List (Nat × Nat)} {a b h w : Nat} : wide (boxF c a b h w) = w + 1 := by
  unfold wide boxF
  rw [List.range_succ_eq_map (n := h)]; simp
theorem box_len {c : List (Nat × Nat)} {a b h w : Nat} : (boxF c a b h w).length = h + 1 := by
  unfold boxF; simp
theorem box_ok {c : List (Nat × Nat)} {a b h w : Nat} (hh : h < 6) (hw : w < 6) : okFloor (boxF c a b h w) := by
  refine ⟨by rw [box_len]; omega, by rw [box_wide]; omega, fun r hr => ?_⟩
  rw [box_wide]
  obtain ⟨i, _, rfl⟩ := List.mem_map.mp hr
  refine ⟨by simp, fun x hx => ?_⟩
  obtain ⟨k, _, rfl⟩ := List.mem_map.mp hx
  unfold okCell
  split <;> simp
theorem Box.lt {c : List (Nat × Nat)} {a b h w : Nat} (x : Box c a b h w) (s : ∀ q ∈ c, q.1 < 6 ∧ q.2 < 6) : a + h < 6 ∧ b + w < 6 := by
  obtain ⟨q3, h3, e3⟩ := x.hi1
  obtain ⟨q4, h4, e4⟩ := x.hi2
  have := s _ h3
  have := s _ h4
  omega
theorem box_cell {c : List (Nat × Nat)} {a b h w i j : Nat} (hi : i ≤ h) (hj : j ≤ w) : cellFl (boxF c a b h w) i j = if (a + i, b + j) ∈ c then 46 else 35 := by
  unfold cellFl boxF
  rw [List.getD_eq_getElem?_getD (l := List.map _ _), List.getElem?_map, List.getElem?_range (by omega)]
  simp only [Option.map_some, Option.getD_some]
  rw [List.getD_eq_getElem?_getD, List.getElem?_map, List.getElem?_range (by omega)]
  rfl
theorem box_free {c : List (Nat × Nat)} {a b h w : Nat} (x : Box c a b h w) (_ : ∀ q ∈ c, q.1 < 6 ∧ q.2 < 6) {p : Nat × Nat} : p ∈ freeF (boxF c a b h w) ↔ (a + p.1, b + p.2) ∈ c := by
  unfold freeF
  rw [List.mem_filter, mem_cells, box_len, box_wide]
  constructor
  · rintro ⟨⟨h1, h2⟩, h3⟩
    have h3 : cellFl (boxF c a b h w) p.1 p.2 = 46 := by simpa [isFree] using h3
    rw [box_cell (by omega) (by omega)] at h3
    split at h3
    · assumption
    · omega
  · intro m
    have := x.bd _ m
    simp only [] at this
    refine ⟨by omega, ?_⟩
    unfold isFree
    rw [box_cell (by omega) (by omega), if_pos m]
    rfl
theorem cells_nodup {h w : Nat} : (cells h w).Nodup := by
  unfold cells
  rw [List.flatMap_def]
  refine List.pairwise_flatten.mpr ⟨fun l hl => ?_, ?_⟩
  · obtain ⟨i, _, rfl⟩ := List.mem_map.mp hl
    exact List.pairwise_map.mpr (List.nodup_range.imp fun h e => h (congrArg Prod.snd e))
  · refine List.pairwise_map.mpr (List.nodup_range.imp fun h a ha b hb e => ?_)
    obtain ⟨x, _, rfl⟩ := List.mem_map.mp ha
    obtain ⟨y, _, rfl⟩ := List.mem_map.mp hb
    exact h (congrArg Prod.fst e)
theorem free_nodup {rs : Flo} : (freeF rs).Nodup := cells_nodup.filter _
def shF (a b : Nat) (p : Nat × Nat) : Nat × Nat := (a + p.1, b + p.2)
theorem cnt_perm {b : Bool} {c d : List (Nat × Nat)} (p : c.Perm d) : cntF b c = cntF b d := by
  unfold cntF
  have : (c.filter fun p => decide (nextC b p ∈ c)) = c.filter fun p => decide (nextC b p ∈ d) := List.filter_congr fun q _ => decide_eq_decide.mpr p.mem_iff
  rw [this]
  exact (p.filter _).length_eq
theorem sh_inj {a b : Nat} {p q : Nat × Nat} (h : shF a b p = shF a b q) : p = q := by
  have e1 := congrArg Prod.fst h
  have e2 := congrArg Prod.snd h
  simp [shF] at e1 e2
  exact Prod.ext e1 e2
theorem cnt_sh {b : Bool} {x y : Nat} {c : List (Nat × Nat)} : cntF b (c.map (shF x y)) = cntF b c := by
  unfold cntF
  rw [List.filter_map, List.length_map]
  congr 1
  refine List.filter_congr fun q _ => decide_eq_decide.mpr ?_
  have e : nextC b (shF x y q) = shF x y (nextC b q) := by unfold nextC shF; ext <;> simp <;> omega
  rw [e, List.mem_map]
  exact ⟨fun ⟨z, hz, e⟩ => sh_inj e ▸ hz, fun h => ⟨_, h, rfl⟩⟩
theorem box_perm {c : List (Nat × Nat)} {a b h w : Nat} (x : Box c a b h w) (s : ∀ q ∈ c, q.1 < 6 ∧ q.2 < 6) (nd : c.Nodup) : ((freeF (boxF c a b h w)).map (shF a b)).Perm c := by
  refine (List.perm_ext_iff_of_nodup ?_ nd).mpr fun q => ?_
  · exact List.pairwise_map.mpr (free_nodup.imp fun h e => h (sh_inj e))
  · rw [List.mem_map]
    constructor
    · rintro ⟨p, hp, rfl⟩
      exact (box_free x s).mp hp
    · intro hq
      have := x.bd q hq
      refine ⟨(q.1 - a, q.2 - b), (box_free x s).mpr ?_, ?_⟩
      · have : (a + (q.1 - a), b + (q.2 - b)) = q := Prod.ext (by simp; omega) (by simp; omega)
        rw [this]; exact hq
      · exact Prod.ext (by simp [shF]; omega) (by simp [shF]; omega)
theorem moves_cnt {rs : Flo} (ok : okFloor rs) {b : Bool} : (floorMoves b rs).length = cntF b (freeF rs) := by
  unfold floorMoves cntF
  rw [List.length_map]
  congr 1
  exact List.filter_congr fun q _ => by
    have := mem_free ok (p := nextC b q)
    by_cases z : isFree rs (nextC b q) = true
    · rw [z, decide_eq_true (this.mpr z)]
    · rw [decide_eq_false fun y => z (this.mp y)]; simpa using z
/-- the parts of a floor -/
noncomputable def partsF (rs : Flo) : List Flo := ((splitF 36 (freeF rs)).filter fun c => decide (1 < c.length)).map clipF
/-- what is known of the parts' cells -/
structure PrtF (cs c : List (Nat × Nat)) : Prop where
  ne : c ≠ []
  nd : c.Nodup
  sb : ∀ q ∈ c, q ∈ cs
  ln : ∀ p ∈ c, ∀ q ∈ c, LnkF c p q
theorem split_prt : ∀ (n : Nat) (l : List (Nat × Nat)), l.Nodup → ∀ c ∈ splitF n l, PrtF l c
  | 0, _, _, _, h => by cases h
  | n + 1, [], _, _, h => by cases h
  | n + 1, p :: r, nd, c, h => by
    rcases List.mem_cons.mp h with rfl | h
    · have hp : LnkF (p :: r) p p := .here (List.mem_cons_self ..)
      have cl : ∀ q ∈ compF (p :: r) p, ∀ x ∈ p :: r, besF q x → x ∈ compF (p :: r) p := fun q hq x hx bx => comp_memF.mpr (.step (comp_memF.mp hq) hx bx)
      have sb : ∀ q ∈ compF (p :: r) p, q ∈ p :: r := fun q hq => (comp_memF.mp hq).mem.2
      refine ⟨fun e => ?_, nd.filter _, sb, fun x hx y hy => ?_⟩
      · have := comp_memF.mpr hp
        rw [e] at this; cases this
      · exact (LnkF.sub sb cl hx).mpr ((comp_memF.mp hx).symm.trans (comp_memF.mp hy))
    · have k := split_prt n (restF (p :: r) p) (nd.filter _) c h
      exact ⟨k.ne, k.nd, fun q hq => (rest_memF.mp (k.sb q hq)).1, k.ln⟩
theorem free_small {rs : Flo} (ok : okFloor rs) : ∀ q ∈ freeF rs, q.1 < 6 ∧ q.2 < 6 := fun q hq => by
  have := isFree_in ok ((mem_free ok).mp hq)
  have := ok.h
  have := ok.w
  omega
theorem clip_ok {c : List (Nat × Nat)} (ne : c ≠ []) (s : ∀ q ∈ c, q.1 < 6 ∧ q.2 < 6) : okFloor (clipF c) := by
  have x := box_of ne s
  have := x.lt s
  rw [clip_box s x fun _ => Iff.rfl]
  exact box_ok (by omega) (by omega)
theorem parts_ok {rs : Flo} (ok : okFloor rs) : ∀ g ∈ partsF rs, okFloor g := by
  intro g hg
  obtain ⟨c, hc, rfl⟩ := List.mem_map.mp hg
  have k := split_prt 36 _ free_nodup c (List.mem_filter.mp hc).1
  exact clip_ok k.ne fun q hq => free_small ok q (k.sb q hq)
theorem clip_cnt {c : List (Nat × Nat)} (ne : c ≠ []) (nd : c.Nodup) (s : ∀ q ∈ c, q.1 < 6 ∧ q.2 < 6) {b : Bool} : (floorMoves b (clipF c)).length = cntF b c := by
  have x := box_of ne s
  rw [moves_cnt (clip_ok ne s)]
  rw [← cnt_perm (box_perm x s nd), cnt_sh]
  rfl
/-- the moves of the parts are as many as those of the floor -/
theorem parts_cnt {rs : Flo} (ok : okFloor rs) (l36 : (freeF rs).length ≤ 36) {b : Bool} : ((partsF rs).map fun g => (floorMoves b g).length).sum = (floorMoves b rs).length := by
  rw [moves_cnt ok, cnt_split 36 _ l36]
  unfold partsF
  rw [List.map_map]
  have k := split_prt 36 _ (free_nodup (rs := rs))
  generalize splitF 36 (freeF rs) = l at k
  induction l with
  | nil => rfl
  | cons c l ih =>
    have ih := ih fun c hc => k c (List.mem_cons_of_mem _ hc)
    have kc := k c (List.mem_cons_self ..)
    rw [List.filter_cons, List.map_cons, List.sum_cons]
    by_cases z : 1 < c.length
    · rw [if_pos (decide_eq_true z), List.map_cons, List.sum_cons, ih]
      show (floorMoves b (clipF c)).length + _ = _
      rw [clip_cnt kc.ne kc.nd fun q hq => free_small ok q (kc.sb q hq)]
    · rw [if_neg (by simpa using z), ih, cnt_small (by omega), Nat.zero_add]
/-- the only part of a part is the part -/
theorem parts_part {rs : Flo} (ok : okFloor rs) : ∀ g ∈ partsF rs, partsF g = [g] := by
  intro g hg
  obtain ⟨c, hc, rfl⟩ := List.mem_map.mp hg
  obtain ⟨hc, lc⟩ := List.mem_filter.mp hc
  have lc : 1 < c.length := by simpa using lc
  have k := split_prt 36 _ free_nodup c hc
  have s : ∀ q ∈ c, q.1 < 6 ∧ q.2 < 6 := fun q hq => free_small ok q (k.sb q hq)
  have x := box_of k.ne s
  have okc := clip_ok k.ne s
  have fm := @box_free _ _ _ _ _ x s
  have pm := box_perm x s k.nd
  have e0 := clip_box s x fun _ => Iff.rfl
  revert fm pm okc
  generalize mnL (c.map (·.1)) = a at *
  generalize mnL (c.map (·.2)) = b at *
  generalize mxL (c.map (·.1)) - a = h at *
  generalize mxL (c.map (·.2)) - b = w at *
  rw [e0]
  intro okc fm pm
  have sd := free_small okc
  have nd : (freeF (boxF c a b h w)).Nodup := free_nodup
  have ld := pm.length_eq
  rw [List.length_map] at ld
  generalize ed : freeF (boxF c a b h w) = d at *
  have up : ∀ {p q : Nat × Nat}, LnkF c p q → ∀ p' q', p = shF a b p' → q = shF a b q' → LnkF d p' q' := by
    intro p q l
    induction l with
    | here hp =>
      intro p' q' e1 e2
      have := sh_inj (e1.symm.trans e2)
      subst this
      exact .here (fm.mpr (by rw [e1] at hp; exact hp))
    | @step q r l hr bs ih =>
      intro p' r' e1 e2
      have bq := x.bd q l.mem.2
      have eq : q = shF a b (q.1 - a, q.2 - b) := Prod.ext (by simp [shF]; omega) (by simp [shF]; omega)
      refine .step (ih p' _ e1 eq) (fm.mpr (by rw [e2] at hr; exact hr)) ?_
      rw [e2] at bs
      unfold besF at *
      simp [shF] at bs ⊢
      omega
  have all : ∀ p ∈ d, ∀ q ∈ d, LnkF d p q := fun p hp q hq => up (k.ln _ (fm.mp hp) _ (fm.mp hq)) p q rfl rfl
  have es : splitF 36 d = [d] := by
    cases d with
    | nil => simp at ld; omega
    | cons p r =>
      have e1 : compF (p :: r) p = p :: r := List.filter_eq_self.mpr fun q hq => decide_eq_true (all p (List.mem_cons_self ..) q hq)
      have e2 : restF (p :: r) p = [] := List.filter_eq_nil_iff.mpr fun q hq => by rw [decide_eq_true (all p (List.mem_cons_self ..) q hq)]; simp
      show compF (p :: r) p :: splitF 35 (restF (p :: r) p) = _
      rw [e1, e2]; rfl
  unfold partsF
  rw [ed, es]
  rw [List.filter_cons, if_pos (decide_eq_true (by omega))]
  show [clipF d] = _
  congr 1
  have bd : Box d 0 0 h w := by
    have get : ∀ q ∈ c, (q.1 - a, q.2 - b) ∈ d := fun q hq => fm.mpr (by
      have := x.bd q hq
      have : (a + (q.1 - a), b + (q.2 - b)) = q := Prod.ext (by simp; omega) (by simp; omega)
      show (a + (q.1 - a), b + (q.2 - b)) ∈ c
      rw [this]; exact hq)
    obtain ⟨⟨q1, h1, e1⟩, ⟨q2, h2, e2⟩, ⟨q3, h3, e3⟩, ⟨q4, h4, e4⟩, bx⟩ := x
    refine ⟨⟨_, get q1 h1, by simp; omega⟩, ⟨_, get q2 h2, by simp; omega⟩, ⟨_, get q3 h3, by simp; omega⟩, ⟨_, get q4 h4, by simp; omega⟩, fun q hq => ?_⟩
    have := bx _ (fm.mp hq)
    simp at this
    omega
  rw [clip_box sd bd fun _ => Iff.rfl]
  unfold boxF
  refine List.map_congr_left fun i _ => List.map_congr_left fun j _ => ?_
  have := fm (p := (i, j))
  rw [Nat.zero_add, Nat.zero_add]
  by_cases z : (i, j) ∈ d
  · rw [if_pos z, if_pos (this.mp z)]
  · rw [if_neg z, if_neg fun y => z (this.mpr y)]
/-- a floor without moves has no parts -/
theorem parts_none {rs : Flo} (ok : okFloor rs) (h1 : floorMoves true rs = []) (h2 : floorMoves false rs = []) : partsF rs = [] := by
  by_cases z : partsF rs = []
  · exact z
  exfalso
  obtain ⟨g, hg⟩ := List.exists_mem_of_ne_nil _ z
  obtain ⟨c, hc, rfl⟩ := List.mem_map.mp hg
  obtain ⟨hc, lc⟩ := List.mem_filter.mp hc
  have lc : 1 < c.length := by simpa using lc
  have k := split_prt 36 _ free_nodup c hc
  match c, lc, k with
  | p :: q :: r, _, k =>
    have ne : p ≠ q := fun e => (List.nodup_cons.mp k.nd).1 (e ▸ List.mem_cons_self ..)
    have l := k.ln p (List.mem_cons_self ..) q (List.mem_cons_of_mem _ (List.mem_cons_self ..))
    have st : ∃ x y, x ∈ freeF rs ∧ y ∈ freeF rs ∧ besF x y := by
      cases l with
      | here _ => exact absurd rfl ne
      | step l hr bs => exact ⟨_, _, k.sb _ l.mem.2, k.sb _ hr, bs⟩
    obtain ⟨x, y, hx, hy, bs⟩ := st
    have nx : ∃ b u v, u ∈ freeF rs ∧ v ∈ freeF rs ∧ v = nextC b u := by
      unfold besF at bs
      rcases bs with ⟨e, e' | e'⟩ | ⟨e, e' | e'⟩
      · exact ⟨false, y, x, hy, hx, Prod.ext (by simp [nextC, downF]; omega) (by simp [nextC, downF]; omega)⟩
      · exact ⟨false, x, y, hx, hy, Prod.ext (by simp [nextC, downF]; omega) (by simp [nextC, downF]; omega)⟩
      · exact ⟨true, y, x, hy, hx, Prod.ext (by simp [nextC, downF]; omega) (by simp [nextC, downF]; omega)⟩
      · exact ⟨true, x, y, hx, hy, Prod.ext (by simp [nextC, downF]; omega) (by simp [nextC, downF]; omega)⟩
    obtain ⟨b, u, v, hu, hv, e⟩ := nx
    have m : layF rs b u ∈ floorMoves b rs := List.mem_map_of_mem (List.mem_filter.mpr ⟨hu, (mem_free ok).mp (e ▸ hv)⟩)
    cases b
    · rw [h2] at m; cases m
    · rw [h1] at m; cases m
theorem split_len : ∀ (n : Nat) (l : List (Nat × Nat)), (splitF n l).length ≤ n
  | 0, _ => Nat.le_refl _
  | _ + 1, [] => Nat.zero_le _
  | n + 1, p :: r => by
    have := split_len n (restF (p :: r) p)
    show (_ :: _).length ≤ _
    rw [List.length_cons]; omega
theorem parts_len {rs : Flo} : (partsF rs).length ≤ 36 := by
  unfold partsF
  rw [List.length_map]
  exact Nat.le_trans (List.length_filter_le _ _) (split_len 36 _)
theorem clip_congr {c c' : List (Nat × Nat)} (ne : c ≠ []) (s : ∀ q ∈ c, q.1 < 6 ∧ q.2 < 6) (m : ∀ q, q ∈ c ↔ q ∈ c') : clipF c = clipF c' := by
  have ne' : c' ≠ [] := fun e => by
    obtain ⟨q, hq⟩ := List.exists_mem_of_ne_nil _ ne
    rw [m, e] at hq; cases hq
  have s' : ∀ q ∈ c', q.1 < 6 ∧ q.2 < 6 := fun q hq => s q ((m q).mpr hq)
  rw [clip_box s (box_of ne' s') fun q => (m q).symm]
  exact (clip_box s' (box_of ne' s') fun _ => Iff.rfl).symm
/-- a cell as the key of a dict -/
def ckey (p : Nat × Nat) : NestedKey := .tup [.num (p.1 : Nat), .num (p.2 : Nat)]
theorem ckey_tk (p : Nat × Nat) : TK (cellD p) (ckey p) := ⟨⟨_, rfl⟩, rfl, by simp [ckey, NestedKey.depth, NestedKey.depthAll]⟩
theorem ckey_inj {p q : Nat × Nat} (h : ckey p = ckey q) : p = q := by
  unfold ckey at h
  injection h with h
  injection h with h1 h2
  injection h2 with h2 _
  injection h1 with h1
  injection h2 with h2
  exact Prod.ext (Int.ofNat_inj.mp h1) (Int.ofNat_inj.mp h2)
def foundC (F : List (Nat × Nat)) : List (NestedKey × DV) := F.map fun p => (ckey p, .bl true)
theorem foundC_val {p : Nat × Nat} : ∀ {F : List (Nat × Nat)}, (valT (foundC F) (ckey p)).isSome = decide (p ∈ F)
  | [] => by simp [foundC, valT]
  | q :: F => by
    have ih := foundC_val (p := p) (F := F)
    unfold valT foundC at ih ⊢
    rw [List.map_cons, List.find?_cons]
    by_cases h : q = p
    · subst h; simp
    · have hn : ¬ (ckey q = ckey p) := fun z => h (ckey_inj z)
      rw [decide_eq_false hn]
      show (Option.map _ (List.find? _ _)).isSome = _
      rw [ih]
      have : (p ∈ q :: F) ↔ p ∈ F := by
        rw [List.mem_cons]
        exact ⟨fun z => z.elim (fun z => absurd z.symm h) id, .inr⟩
      simp only [this]
theorem foundC_put {F : List (Nat × Nat)} {p : Nat × Nat} (h : p ∉ F) : putT (foundC F) (ckey p) (.bl true) = foundC (F ++ [p]) := by
  unfold putT
  rw [if_neg (by rw [foundC_val]; simpa using h)]
  unfold foundC
  rw [List.map_append]; rfl
theorem foundC_keys (F : List (Nat × Nat)) : ((foundC F).map fun kv => unk kv.1) = F.map cellD := by
  unfold foundC
  rw [List.map_map]; rfl
/-- the search: what is found, what is still open, the cells of D looked at beside e -/
structure JoiF (cs : List (Nat × Nat)) (p : Nat × Nat) (F O : List (Nat × Nat)) (N : List (Nat × Nat)) : Prop where
  nd : F.Nodup
  all : ∀ q ∈ F, LnkF cs p q
  sub : ∀ q ∈ O, q ∈ F
  root : p ∈ F
  clo : ∀ q ∈ F, q ∉ O → q ∉ N → ∀ r ∈ cs, besF q r → r ∈ F
theorem nodup_sub : ∀ {xs ys : List (Nat × Nat)}, xs.Nodup → (∀ x ∈ xs, x ∈ ys) → xs.length ≤ ys.length
  | [], _, _, _ => Nat.zero_le _
  | x :: xs, ys, nd, h => by
    have n1 := List.nodup_cons.mp nd
    have ih := nodup_sub (xs := xs) (ys := ys.erase x) n1.2 fun y hy => (List.mem_erase_of_ne (show y ≠ x from fun e => n1.1 (by rw [← e]; exact hy))).mpr (h y (List.mem_cons_of_mem _ hy))
    have hx := h x (List.mem_cons_self ..)
    rw [List.length_erase_of_mem hx] at ih
    have : 0 < ys.length := List.length_pos_of_mem hx
    rw [List.length_cons]; omega
theorem JoiF.len {cs F O N : List (Nat × Nat)} {p : Nat × Nat} (h : JoiF cs p F O N) : F.length ≤ cs.length := nodup_sub h.nd fun q hq => (h.all q hq).mem.2
end
theorem op_eqLen {X : Cx} (hu : X.A.units < cLine) : OpR X (compareOp .Eq) (fun x y H Q => ∃ a b xs ys, x = .ref a ∧ y = .ref b ∧ SqL X.K H a xs ∧ SqL X.K H b ys ∧ xs.length ≠ ys.length ∧ Q (.bl false) H) := by
  intro pins s σ H x y v u Q I rx ry h
  obtain ⟨a, b, xs, ys, rfl, rfl, ha, hb, hne, q⟩ := h
  cases rx
  cases ry
  obtain ⟨is, r1, ⟨⟨cls, dd, data, sl⟩, n, ho, hc, hd, hs⟩, _⟩ := I.list ha
  obtain ⟨js, r2, ⟨⟨cls2, dd2, data2, sl2⟩, n2, ho2, hc2, hd2, hs2⟩, _⟩ := I.list hb
  simp only at hc hd hs hc2 hd2 hs2
  subst hc hd hs hc2 hd2 hs2
  have hsz : (is.toArray.size != js.toArray.size) = true := by
    have := r1.length; have := r2.length
    simp; omega
  refine PySem.wpAny_richCompare_same_room (op := .Eq) ⟨_, ho, rfl⟩ ⟨_, ho2, rfl⟩ F.slot_list_eq (GQ.call_here F.slot_list_eq ⟨_, ho, rfl⟩ F.entry_list_eq (F.args_list_eq_2 _ _) ?_) hu
  exact (PySem.SeqAt.list_eq_lengthsAt a b _ _ n n2 _ _ sl sl2 hsz) _ _ _ _ _ ⟨ho, ho2, ⟨(fun x => nomatch x), fin_bl I q rfl⟩⟩
def oEqZ : AR2 := fun x y L P => withL L x fun xs => withL L y fun ys => xs.length ≠ ys.length ∧ P (.bl false) L
theorem oEqZ_ok {k : Kx} : AOp k (fun x y H Q => ∃ a b xs ys, x = .ref a ∧ y = .ref b ∧ SqL k.K H a xs ∧ SqL k.K H b ys ∧ xs.length ≠ ys.length ∧ Q (.bl false) H) oEqZ := by
  intro I F H L x y xv yv P Q A rx ry h q
  obtain ⟨a, vs, ds, rfl, ha, r, h⟩ := withL_ok A rx h
  obtain ⟨b, ws, es, rfl, hb, r2, hne, h⟩ := withL_ok A ry h
  exact ⟨a, b, vs, ws, rfl, rfl, SqL.of ha, SqL.of hb, by rw [← r.length, ← r2.length]; exact hne, here A (.bl _) h q⟩
def oEqX : AR2 := fun x y L P => oEq x y L P ∨ oEqZ x y L P
def eqXA (x y : DV) (L : Led) (P : PD) (_ : Lk P) : Prop := oEqX x y L P
section
variable {X : Cx} {W : WX} {a b : Expr} {ta tb : AE} {pos : Pos}
theorem a_eqX (hu : X.A.units + 64 < cLine) (ha : PE X a (cE X.kx W ta)) (hb : PE X b (cE X.kx W tb)) : PE X (.Compare a [.Eq] [b] pos) (cE X.kx W (aBin oEqX ta tb)) := a_cmp ((opEq hu).or (op_eqLen (by omega))) (oEq_ok.or oEqZ_ok) ha hb
theorem t_eqX (hu : X.A.units + 64 < cLine) (ha : PE X a (cE X.kx W ta)) (hb : PE X b (cE X.kx W tb)) : PT X (.Compare a [.Eq] [b] pos) (cT X.kx W (aTest (aBin oEqX ta tb))) := t_cmp ((opEq hu).or (op_eqLen (by omega))) (oEq_ok.or oEqZ_ok) ha hb
end
theorem oEqX_e {x y : DV} {L : Led} {P : PD} : oEqX x y L P = eqXA x y L P .mk := (rfl)
/-- a list of things against none -/
theorem eqX_nil {xs : List DV} {L : Led} {P : PD} {lk : Lk P} (h : P (.bl (decide (xs = []))) L) : eqXA (.lst xs) (.lst []) L P lk := by
  by_cases e : xs = []
  · subst e
    rw [decide_eq_true rfl] at h
    exact .inl (eqA_same (neg := false) (n := 1) (lk := .mk) (x := .lst []) (fun _ z => (by cases z)) h)
  · rw [decide_eq_false e] at h
    refine .inr ?_
    show withL L (.lst xs) fun xs => withL L (.lst []) fun ys => xs.length ≠ ys.length ∧ P (.bl false) L
    exact ⟨fun z => e (List.eq_nil_of_length_eq_zero z), h⟩
/-- digits of a great cell, lowest first -/
def bigDig : Int → Nat → List Int
  | _, 0 => []
  | c, n + 1 => c % 60 :: bigDig (c / 60) n
/-- seeds of a small one -/
def seedF (c : Int) : Nat → Int
  | 0 => (c * 48271 + 11) % 2147483647
  | k + 1 => (seedF c k * 69621 + 7 * (k : Int) + 1) % 2147483629
def digF (c : Int) (n : Nat) : List Int := if 10 ^ 18 ≤ c then bigDig c n else (List.range n).map fun k => seedF c (k + 1) / 64 % 60
theorem bigDig_len : ∀ (n : Nat) (c : Int), (bigDig c n).length = n
  | 0, _ => rfl
  | n + 1, c => by rw [bigDig, List.length_cons, bigDig_len n]
theorem digF_len (c : Int) (n : Nat) : (digF c n).length = n := by
  unfold digF; split
  · exact bigDig_len n c
  · simp
theorem bigDig_mem : ∀ (n : Nat) (c : Int) (d : Int), d ∈ bigDig c n → 0 ≤ d ∧ d < 60
  | 0, _, _, h => by cases h
  | n + 1, c, d, h => by
    rcases List.mem_cons.mp h with h | h
    · subst h; omega
    · exact bigDig_mem n _ d h
theorem digF_mem {c : Int} {n : Nat} {d : Int} (h : d ∈ digF c n) : 0 ≤ d ∧ d < 60 := by
  unfold digF at h; split at h
  · exact bigDig_mem n c d h
  · obtain ⟨k, _, rfl⟩ := List.mem_map.mp h
    omega
/-- the digit k -/
def dg (c : Int) (n k : Nat) : Int := (digF c n).getD k 0
theorem dg_at {c : Int} {n k : Nat} (h : k < n) : (digF c n)[k]? = some (dg c n k) := by
  unfold dg
  rw [List.getD_eq_getElem?_getD, List.getElem?_eq_getElem (by rw [digF_len]; exact h)]; rfl
theorem dg_lt (c : Int) (n k : Nat) : 0 ≤ dg c n k ∧ dg c n k < 60 := by
  by_cases h : k < n
  · exact digF_mem (List.mem_of_getElem? (dg_at h))
  · unfold dg
    rw [List.getD_eq_getElem?_getD, List.getElem?_eq_none (by rw [digF_len]; omega)]
    decide
def sp_law_digits_b31862c4 (G : Gx) : ASp := fun ds L P _ => match ds with
  | [.int c, .int n] => 0 ≤ n ∧ n ≤ 1000 ∧ newL ((digF c n.toNat).map DV.int) L P
  | _ => False
theorem dig_ok {G : Gx} {c m : Int} (n : Nat) {L : Led} {P : PD} {R : Addr → Led → Prop} {l1 l2} (hn : n ≤ 1000) (e : m = (n : Int)) (h : P (.lst ((digF c n).map DV.int)) L) : callA (sp_law_digits_b31862c4 G) [.int c, .int m] L P R l1 l2 := by
  subst e
  exact ⟨by omega, by omega, .inr (by rw [Int.toNat_natCast]; exact h)⟩
theorem dgA {c : Int} {n : Nat} {k : Int} {L : Led} {P : PD} {lk : Lk P} (h0 : 0 ≤ k) (h1 : k.toNat < n) : ixA ((digF c n).map DV.int) k L P lk = P (.int (dg c n k.toNat)) L :=
  ixA_int h0 (by rw [List.getElem?_map, dg_at h1]; rfl)
theorem bigDig_more : ∀ (n : Nat) (c : Int), bigDig c (n + 1) = bigDig c n ++ [(c / 60 ^ n) % 60]
  | 0, c => by simp [bigDig]
  | n + 1, c => by
    rw [bigDig, bigDig_more n (c / 60), bigDig, List.cons_append]
    congr 3
    rw [Int.ediv_ediv_of_nonneg (by decide), Int.pow_succ, Int.mul_comm]
theorem pow60 (n : Nat) (c : Int) : c / 60 ^ n / 60 = c / 60 ^ (n + 1) := by
  rw [Int.ediv_ediv_of_nonneg (Int.pow_nonneg (by decide)), Int.pow_succ]
def rowsFl (c : Int) : Flo := (List.range (1 + dg c 39 0 % 6).toNat).map fun i => (List.range (1 + dg c 39 1 % 6).toNat).map fun k => if dg c 39 (3 + 6 * i + k) % (2 + dg c 39 2 % 4) = 1 then 35 else 46
theorem rowsFl_ok (c : Int) : okFloor (rowsFl c) := by
  have hw : wide (rowsFl c) = (1 + dg c 39 1 % 6).toNat := by
    unfold wide rowsFl
    obtain ⟨n, e⟩ : ∃ n, (1 + dg c 39 0 % 6).toNat = n + 1 := ⟨(dg c 39 0 % 6).toNat, by omega⟩
    rw [e, List.range_succ_eq_map]; simp
  refine ⟨by simp [rowsFl]; omega, by rw [hw]; omega, fun r hr => ?_⟩
  obtain ⟨i, _, rfl⟩ := List.mem_map.mp hr
  refine ⟨by rw [hw]; simp, fun x hx => ?_⟩
  obtain ⟨k, _, rfl⟩ := List.mem_map.mp hx
  unfold okCell
  split <;> simp
def sp_law_rows_3c71d864 (G : Gx) : ASp := fun ds L P _ => ∃ c : Int, ds = [.int c] ∧ newL ((rowsFl c).map rowF) L P
/-- the cell k of a script: beyond its end a mix of all -/
def cellF (ns : List Int) (k : Int) : Int := if k < (ns.length : Int) then ns.getD k.toNat 0 else ns.foldl (fun m c => (m * 31 + c) % 2147483647) (104729 * k + 7)
def sp_law_cell_4bc9b38b (G : Gx) : ASp := fun ds L P _ => match ds with
  | [.wl xs, .int k] => 0 ≤ k ∧ k < 1000 ∧ ∃ ns : List Int, xs = ns.map DV.int ∧ P (.int (cellF ns k)) L
  | _ => False
theorem cell_ok {G : Gx} {ns : List Int} {k : Int} {L : Led} {P : PD} {R : Addr → Led → Prop} {l1 l2} (h : P (.int (cellF ns k)) L) (h0 : 0 ≤ k := by first | decide | omega) (h1 : k < 1000 := by first | decide | omega) : callA (sp_law_cell_4bc9b38b G) [.wl (ns.map DV.int), .int k] L P R l1 l2 := ⟨h0, h1, ns, rfl, h⟩
def iniFloor (G : Gx) : Ini := fun ds L K R => ∃ d, ds = [d] ∧ kindL d L fun o => (∀ xs, o = some xs → ∀ x ∈ xs, told x L True ∧ ∀ z, x = .str z → z.length ≤ 1000) ∧ (∀ rs : Flo, o = some (rs.map rowF) → okFloor rs → K [.tup (rs.map rowF)]) ∧ ((∀ rs : Flo, o = some (rs.map rowF) → ¬ okFloor rs) → RS R G.BadValue L)
def sp_Floor_init (G : Gx) : ASp := spI G.Floor ["_rows"] (iniFloor G)
def mk1_Floor_init (G : Gx) : ASp := mkI G.Floor ["_rows"] (iniFloor G)
theorem mkok1_Floor_init (G : Gx) : MkOk G.k G.Floor (sp_Floor_init G) (mk1_Floor_init G) [] := mkok_I (by
  rintro ds L x m K K' R hx hK ⟨d, rfl, h⟩
  refine ⟨d, rfl, h.imp (Sub.new hx) fun o h => ⟨fun xs e y hy => ⟨((h.1 xs e) y hy).1.imp (Sub.new hx) id, ((h.1 xs e) y hy).2⟩, fun rs a b => hK _ (h.2.1 rs a b), fun z => (h.2.2 z).up (Sub.new hx)⟩⟩)
theorem flo_inj {rs rs' : Flo} (h : rs.map rowF = rs'.map rowF) : rs = rs' :=
  (List.map_inj_right fun a b e => by simpa [rowF, tx_inj] using e).mp h
theorem mk_floor {G : Gx} {rs : Flo} {L : Led} {P : PD} {R : Addr → Led → Prop} {l1 l2} {xs : List DV} (ok : okFloor rs) (h : P (floorD G rs) L) (e : xs = rs.map rowF := by rfl) : callA (mk1_Floor_init G) [.lst xs] L P R l1 l2 := by
  subst e
  refine ⟨_, rfl, fun xs e => ?_, fun rs' a b => ?_, fun z => absurd ok (z rs rfl)⟩
  · cases e
    intro x hx
    obtain ⟨n, hn, rfl⟩ := List.mem_map.mp hx
    have := (ok.r n hn).1
    have := ok.w
    exact ⟨trivial, fun z e => by cases e; rw [tx_length]; omega⟩
  · have := flo_inj (Option.some.inj a)
    subst this
    exact h
theorem mk_floorR {G : Gx} {rs : Flo} {a : Addr} {L : Led} {P : PD} {R : Addr → Led → Prop} {l1 l2} (e : L a = some (.lst (rs.map rowF))) (ok : okFloor rs) (h : P (floorD G rs) L) : callA (mk1_Floor_init G) [.ref a] L P R l1 l2 := by
  refine ⟨_, rfl, .inl ⟨_, e, fun xs e => ?_, fun rs' a b => ?_, fun z => absurd ok (z rs rfl)⟩⟩
  · cases e
    intro x hx
    obtain ⟨n, hn, rfl⟩ := List.mem_map.mp hx
    have := (ok.r n hn).1
    have := ok.w
    exact ⟨trivial, fun z e => by cases e; rw [tx_length]; omega⟩
  · have := flo_inj (Option.some.inj a)
    subst this
    exact h
def sp_law_clipped_ce61efcc (G : Gx) : ASp := fun ds L P _ => ∃ (ps : List (Nat × Nat)) (d : DV), ds = [d] ∧ (∃ a, d = .ref a ∧ L a = some (.lst (ps.map cellD))) ∧ ps ≠ [] ∧ (∀ q ∈ ps, q.1 < 6 ∧ q.2 < 6) ∧ ps.length ≤ 36 ∧ P (floorV (clipF ps)) L
def sp_law_floor_parts_da8a0049 (G : Gx) : ASp := fun ds L P _ => ∃ rs : Flo, ds = [.tup (rs.map rowF)] ∧ okFloor rs ∧ P (.lst ((partsF rs).map floorV)) L
/-- nested data, at most n deep -/
def pdeep : Nat → DV → Prop
  | _, .int _ => True
  | _, .str _ => True
  | n + 1, .tup ds => ds.length ≤ 100000 ∧ ∀ d ∈ ds, pdeep n d
  | _, _ => False
def sp_law_same_04c10c30 : Nat → Gx → ASp
  | 0, _ => fun _ _ _ _ => False
  | n + 1, _ => fun ds L P _ => ∃ d, ds = [d, d] ∧ pdeep n d ∧ P (.bl true) L
theorem same_ok {n : Nat} {G : Gx} {d : DV} {L : Led} {P : PD} {R : Addr → Led → Prop} {l1 l2} (h : pdeep n d) : P (.bl true) L → callA (sp_law_same_04c10c30 (n + 1) G) [d, d] L P R l1 l2 := fun q => ⟨d, rfl, h, q⟩
def sp_Floor_value (G : Gx) : ASp := fun ds L P _ => ∃ rs : Flo, ds = [floorD G rs] ∧ P (floorV rs) L
theorem value_floor {G : Gx} {rs : Flo} {L : Led} {P : PD} {R : Addr → Led → Prop} {l1 l2} : P (floorV rs) L → callA (sp_Floor_value G) [floorD G rs] L P R l1 l2 := fun h => ⟨rs, rfl, h⟩
theorem floorV_deep (cs : Flo) (n : Nat) (ok : okFloor cs) : pdeep (n + 2) (floorV cs) := by
  refine ⟨by simp, fun d hd => ?_⟩
  simp at hd
  rcases hd with rfl | rfl
  · cases n <;> trivial
  · refine ⟨by have := ok.h.2; simp; omega, fun d hd => ?_⟩
    obtain ⟨r, hr, rfl⟩ := List.mem_map.mp hd
    cases n <;> trivial
def sp_law_told_87c2cc6e (G : Gx) : ASp := fun ds L P _ => ∃ (vs : List Flo) (a : Addr) (L0 : Led), ds = [.ref a, .lst (vs.map floorV)] ∧ L a = some (.lst (vs.map (floorD G))) ∧ Sub L0 L ∧ L0 a = none ∧ (∀ v ∈ vs, okFloor v) ∧ vs.length ≤ 1000 ∧ P (.bl true) L0
def sp_Floor_free (G : Gx) : ASp := fun ds L P _ => ∃ rs : Flo, ds = [floorD G rs] ∧ okFloor rs ∧ newL ((freeF rs).map cellD) L P
def sp_around (G : Gx) : ASp := fun ds L P _ => ∃ (a b : Int), ds = [.tup [.int a, .int b]] ∧ P (.lst [.tup [.int (a - 1), .int b], .tup [.int (a + 1), .int b], .tup [.int a, .int (b - 1)], .tup [.int a, .int (b + 1)]]) L
def sp_joined (G : Gx) : ASp := fun ds L P _ => ∃ (cs : List (Nat × Nat)) (p : Nat × Nat) (r : List (Nat × Nat)), ds = [.lst (cs.map cellD)] ∧ cs = p :: r ∧ cs.length ≤ 36 ∧ ∀ fs : List (Nat × Nat), fs.Nodup → (∀ q, q ∈ fs ↔ LnkF cs p q) → newL (fs.map cellD) L P
def sp_clipped (G : Gx) : ASp := fun ds L P _ => ∃ (ps : List (Nat × Nat)), ds = [.lst (ps.map cellD)] ∧ ps ≠ [] ∧ (∀ q ∈ ps, q.1 < 6 ∧ q.2 < 6) ∧ ps.length ≤ 36 ∧ P (.lst ((clipF ps).map rowF)) L
def sp_Floor_parts (G : Gx) : ASp := fun ds L P _ => ∃ rs : Flo, ds = [floorD G rs] ∧ okFloor rs ∧ newL ((partsF rs).map (floorD G)) L P
def sp_law_covered_27bf77b2 (G : Gx) : ASp := fun ds L P _ => ∃ (rs : Flo) (i j : Nat), ds = [.tup (rs.map rowF), .int (i : Nat), .int (j : Nat)] ∧ okFloor rs ∧ i < rs.length ∧ j < wide rs ∧ P (.tup ((cover rs i j).map rowF)) L
def sp_law_floor_moves_d092ad0b (G : Gx) : ASp := fun ds L P _ => ∃ (rs : Flo) (b : Bool), ds = [.tup (rs.map rowF), .str (sideS b)] ∧ okFloor rs ∧ newL ((floorMoves b rs).map floorV) L P
def sp_covered (G : Gx) : ASp := fun ds L P _ => ∃ (rs : Flo) (ps : List (Nat × Nat)), ds = [.tup (rs.map rowF), .lst (ps.map cellD)] ∧ okFloor rs ∧ (∀ p ∈ ps, p.2 < wide rs) ∧ ps.length ≤ 6 ∧ newL ((coverTo rs ps rs.length).map rowF) L P
def sp_Floor_moves (G : Gx) : ASp := fun ds L P _ => ∃ (rs : Flo) (b : Bool), ds = [floorD G rs, .str (sideS b)] ∧ okFloor rs ∧ newL ((floorMoves b rs).map (floorD G)) L P
def sp_law_counts_ea32dc8c (G : Gx) : ASp := fun ds L P _ => ∃ (rs : Flo) (b : Bool), ds = [floorD G rs, .tup (rs.map rowF), .str (sideS b)] ∧ okFloor rs ∧ P (.bl true) L
def sp_law_a52aaa2a (G : Gx) : ASp := spLawT
def tb_law_digits_b31862c4 (G : Gx) : AS := (aSeq (aSet 2 (aLst aNil)) (aSeq (aIf (aTest (aBin oGe (aVar 0) (aBin oPow (aC (.int 10)) (aC (.int 18))))) (aSeq (aFor (iRng rng1 (aCons (aVar 1) aNil)) (gN 3) (aSeq (aDrop (aLm mAppend (aVar 2) (aCons (aBin oMod (aCB bInt (aCons (aVar 0) aNil)) (aC (.int 60))) aNil))) (aSet 0 (aBin oDiv (aVar 0) (aC (.int 60)))))) (aRet (aFrz G.k (aVar 2)))) aNext) (aSeq (aSet 4 (aBin oMod (aCB bInt (aCons (aBin oAdd (aBin oMulL (aVar 0) (aC (.int 48271))) (aC (.int 11))) aNil)) (aC (.int 2147483647)))) (aSeq (aFor (iRng rng1 (aCons (aVar 1) aNil)) (gN 3) (aSeq (aSet 4 (aBin oMod (aCB bInt (aCons (aBin oAdd (aBin oAdd (aBin oMulL (aVar 4) (aC (.int 69621))) (aBin oMulL (aC (.int 7)) (aVar 3))) (aC (.int 1))) aNil)) (aC (.int 2147483629)))) (aDrop (aLm mAppend (aVar 2) (aCons (aBin oMod (aCB bInt (aCons (aBin oDiv (aVar 4) (aC (.int 64))) aNil)) (aC (.int 60))) aNil))))) (aRet (aFrz G.k (aVar 2)))))))
theorem rd_law_digits_b31862c4 (G : Gx) : Reads 5 (sp_law_digits_b31862c4 G) (tb_law_digits_b31862c4 G) := by
  intro ds L P R h
  unfold sp_law_digits_b31862c4 at h
  split at h
  · rename_i c n
    obtain ⟨h0, h1, h⟩ := h
    refine .inl fun a ha => ⟨?_, fun hc => ?_, fun hc => ?_⟩
    · exact ⟨by decide, by decide, by decide⟩
    · have hc1 : 10 ^ 18 ≤ c := by simpa using dt hc
      refine ⟨⟨by omega, by omega⟩, fun i ρ L' => ∃ v w, ρ = [some (.int (c / 60 ^ i)), some (.int n), some (.ref a), v, w] ∧ L' = updL L a (.lst ((bigDig c i).map DV.int)) ∧ i ≤ n.toNat, ⟨none, none, ?_, rfl, Nat.zero_le _⟩, fun _ _ _ _ => trivial, ?_, ?_⟩
      · rw [Int.pow_zero, Int.ediv_one]; rfl
      · rintro i d ρ L' hd ⟨v, w, rfl, rfl, hi⟩
        obtain ⟨hi', rfl⟩ := rangeD_get hd
        refine ⟨⟨_, updL_same⟩, by show (0 : Int) < 60; decide, _, updL_same, ?_, ?_⟩
        · exact smallLine (by rw [List.length_map, bigDig_len]; omega)
        refine ⟨⟨by decide, by decide⟩, some (.int (0 + (i : Nat))), w, ?_, ?_, hi'⟩
        · show [some (DV.int (c / 60 ^ i / 60)), some (.int n), some (.ref a), _, _] = _
          rw [pow60]
        · rw [updL_updL, bigDig_more, List.map_append]; rfl
      · rintro ρ L' ⟨v, w, rfl, rfl, hi⟩
        rw [rangeD_length]
        unfold digF at h
        rw [if_pos hc1] at h
        exact ret_new h ha
    · have hc1 : ¬ 10 ^ 18 ≤ c := by simpa using df hc
      refine ⟨mulR (by decide), by show (0 : Int) < 2147483647; decide, ⟨by omega, by omega⟩, fun i ρ L' => ∃ v, ρ = [some (.int c), some (.int n), some (.ref a), v, some (.int (seedF c i))] ∧ L' = updL L a (.lst (((List.range i).map fun k => seedF c (k + 1) / 64 % 60).map DV.int)) ∧ i ≤ n.toNat, ⟨none, rfl, rfl, Nat.zero_le _⟩, fun _ _ _ _ => trivial, ?_, ?_⟩
      · rintro i d ρ L' hd ⟨v, rfl, rfl, hi⟩
        obtain ⟨hi', rfl⟩ := rangeD_get hd
        have e0 : (0 : Int) + (i : Nat) = i := Int.zero_add _
        refine ⟨mulR (by decide), mulL (by decide), by show (0 : Int) < 2147483629; decide, ⟨_, updL_same⟩, ⟨by decide, by decide⟩, by show (0 : Int) < 60; decide, _, updL_same, ?_, ?_⟩
        · exact smallLine (by simp; omega)
        refine ⟨some (.int (0 + (i : Nat))), ?_, ?_, hi'⟩
        · show [some (DV.int c), some (.int n), some (.ref a), _, some (DV.int ((seedF c i * 69621 + 7 * (0 + (i : Int)) + 1) % 2147483629))] = _
          rw [e0]; rfl
        · rw [updL_updL, List.range_succ, List.map_append, List.map_append]
          show updL L a (.lst (_ ++ [DV.int ((seedF c i * 69621 + 7 * (0 + (i : Int)) + 1) % 2147483629 / 64 % 60)])) = _
          rw [e0]; rfl
      · rintro ρ L' ⟨v, rfl, rfl, hi⟩
        rw [rangeD_length]
        unfold digF at h
        rw [if_neg hc1] at h
        exact ret_new h ha
  · exact h.elim
def tb_law_rows_3c71d864 (G : Gx) : AS := (aSeq (aSet 1 (aCall (sp_law_digits_b31862c4 G) [] (aCons (aVar 0) (aCons (aC (.int 39)) aNil)))) (aSeq (aSet 2 (aBin (oAddN newD) (aC (.int 1)) (aBin oMod (aCB bInt (aCons (aBin oIx (aVar 1) (aC (.int 1))) aNil)) (aC (.int 6))))) (aSeq (aSet 3 (aBin (oAddN newD) (aC (.int 2)) (aBin oMod (aCB bInt (aCons (aBin oIx (aVar 1) (aC (.int 2))) aNil)) (aC (.int 4))))) (aSeq (aSet 4 (aLstN newR aNil)) (aSeq (aFor (iRng rng1 (aCons (aBin (oAddN newD) (aC (.int 1)) (aBin oMod (aCB bInt (aCons (aBin oIx (aVar 1) (aC (.int 0))) aNil)) (aC (.int 6)))) aNil)) (gN 5) (aDrop (aLm mAppend (aVar 4) (aCons (aSm1 sJoin (aC (.str "")) (aLcN newD (iRng rng1 (aCons (aVar 2) aNil)) (gN 6) aYes (aIfE (aTest (aBin oEq (aBin oMod (aCB bInt (aCons (aBin oIx (aVar 1) (aBin (oAddN newD) (aBin (oAddN newD) (aC (.int 3)) (aBin (oMulT newD) (aC (.int 6)) (aVar 5))) (aVar 6))) aNil)) (aVar 3)) (aC (.int 1)))) (aC (.str "#")) (aC (.str "."))) [6])) aNil)))) (aRet (aFrz G.k (aVar 4))))))))
theorem rd_law_rows_3c71d864 (G : Gx) : Reads 7 (sp_law_rows_3c71d864 G) (tb_law_rows_3c71d864 G) := by
  rintro ds L P R ⟨c, rfl, h⟩
  unfold tb_law_rows_3c71d864
  simp! []
  refine dig_ok 39 (by decide) rfl ?_
  have eNil : ("" : Str) = tx [] := by decide +kernel
  have eH : ("#" : Str) = tx [35] := by decide +kernel
  have eD : ("." : Str) = tx [46] := by decide +kernel
  have d1 : ∀ (k : Nat) (L : Led) (P : PD) (lk : Lk P), k < 39 → ixA ((digF c 39).map .int) (k : Int) L P lk = P (.int (dg c 39 k)) L := fun k L P lk hk => by
    have := dgA (c := c) (n := 39) (k := (k : Int)) (L := L) (P := P) (lk := lk) (by omega) (by omega)
    rwa [Int.toNat_natCast] at this
  simp! [↓dgA (c := c) (n := 39) (k := 0) (by decide) (by decide), ↓dgA (c := c) (n := 39) (k := 1) (by decide) (by decide), ↓dgA (c := c) (n := 39) (k := 2) (by decide) (by decide)]
  intro a ha
  refine ⟨by omega, ?_⟩
  have hm : 0 < 2 + dg c 39 2 % 4 := by omega
  refine for_rng _ _ (fun i ρ' L' => ∃ u v, ρ' = [some (.int c), some (.lst ((digF c 39).map .int)), some (.int (1 + dg c 39 1 % 6)), some (.int (2 + dg c 39 2 % 4)), some (.ref a), u, v] ∧ L' = updL L a (.lst (((rowsFl c).take i).map rowF))) ⟨none, none, rfl, rfl⟩ (fun _ _ _ _ => trivial) ?_ ?_
  · rintro i ρ' L' hi ⟨u, v, rfl, rfl⟩
    have hir : (rowsFl c)[i]? = some ((List.range (1 + dg c 39 1 % 6).toNat).map fun k => if dg c 39 (3 + 6 * i + k) % (2 + dg c 39 2 % 4) = 1 then 35 else 46) := by
      unfold rowsFl; rw [List.getElem?_map, List.getElem?_range hi]; rfl
    simp! []
    refine ⟨by omega, ?_⟩
    refine lc_map _ _ (fun (k : Nat) => .str (tx [if dg c 39 (3 + 6 * i + k) % (2 + dg c 39 2 % 4) = 1 then 35 else 46])) (by simp [sizeLine_eq]; omega) trivial (fun k hk K1 h1 => ?_) ?_
    · have hk := List.mem_range.mp hk
      simp! []
      refine ⟨mulL (by decide), ?_⟩
      have hi39 : 3 + 6 * i + k < 39 := by omega
      rw [show (3 + 6 * (i : Int) + (k : Int)) = ((3 + 6 * i + k : Nat) : Int) by omega, d1 _ _ _ _ hi39]
      simp! [eH, eD]
      exact ⟨hm, fun q => by rw [if_pos q] at h1; exact h1, fun q => by rw [if_neg q] at h1; exact h1⟩
    · have em : (List.range (1 + dg c 39 1 % 6).toNat).map (fun (k : Nat) => DV.str (tx [if dg c 39 (3 + 6 * i + k) % (2 + dg c 39 2 % 4) = 1 then 35 else 46])) = ((List.range (1 + dg c 39 1 % 6).toNat).map fun k => if dg c 39 (3 + 6 * i + k) % (2 + dg c 39 2 % 4) = 1 then 35 else 46).map fun c => DV.str (tx [c]) := by rw [List.map_map]; rfl
      rw [em]
      simp! [eNil]
      rw [joinA_signs (by simp; omega)]
      simp! [↓lmB_of updL_same]
      refine ⟨by simp [sizeLine_eq]; omega, _, _, rfl, ?_⟩
      rw [take_more hir, List.map_append]
      rfl
  · rintro ρ' L' ⟨u, v, rfl, rfl⟩
    simp! []
    rw [show (1 + dg c 39 0 % 6).toNat = (rowsFl c).length by simp [rowsFl], List.take_length]
    exact newL_fin h ha (Sub.refl L) ha
def tb_law_cell_4bc9b38b (G : Gx) : AS := (aSeq (aIf (aTest (aBin oLt (aVar 1) (aCB bLen (aCons (aVar 0) aNil)))) (aRet (aBin oIx (aVar 0) (aVar 1))) aNext) (aSeq (aSet 2 (aBin oAdd (aBin oMulL (aC (.int 104729)) (aVar 1)) (aC (.int 7)))) (aSeq (aFor (iSeq (aVar 0)) (gN 3) (aSet 2 (aBin oMod (aCB bInt (aCons (aBin oAdd (aBin oMulL (aVar 2) (aC (.int 31))) (aVar 3)) aNil)) (aC (.int 2147483647))))) (aRet (aVar 2)))))
theorem rd_law_cell_4bc9b38b (G : Gx) : Reads 4 (sp_law_cell_4bc9b38b G) (tb_law_cell_4bc9b38b G) := by
  intro ds L P R h
  unfold sp_law_cell_4bc9b38b at h
  split at h
  · rename_i xs k
    obtain ⟨h0, h1, ns, rfl, h⟩ := h
    refine ⟨fun hk => ?_, fun hk => ?_⟩
    · have hk1 : k < (ns.length : Int) := by simpa using dt hk
      have hk2 : k.toNat < ns.length := by omega
      have e : (ns.map DV.int)[k.toNat]? = some (DV.int (ns.getD k.toNat 0)) := by
        rw [List.getElem?_map, List.getD_eq_getElem?_getD, List.getElem?_eq_getElem hk2]; rfl
      refine ⟨_, at_int h0 e, ?_⟩
      unfold cellF at h
      rw [if_pos hk1] at h
      exact h
    · have hk1 : ¬ k < (ns.length : Int) := by simpa using df hk
      refine ⟨mulL (by decide), fun i ρ L' => ∃ v, ρ = [some (.wl (ns.map DV.int)), some (.int k), some (.int ((ns.take i).foldl (fun m c => (m * 31 + c) % 2147483647) (104729 * k + 7))), v] ∧ L' = L, ⟨_, rfl, rfl⟩, fun _ _ _ _ => trivial, ?_, ?_⟩
      · rintro i d ρ L' hd ⟨v, rfl, rfl⟩
        obtain ⟨n, hn, rfl⟩ := map_at hd
        refine ⟨mulR (by decide), by show (0 : Int) < 2147483647; decide, some (.int n), ?_, rfl⟩
        rw [fold_more hn]; rfl
      · rintro ρ L' ⟨v, rfl, rfl⟩
        unfold cellF at h
        rw [if_neg hk1] at h
        rw [List.length_map, List.take_length]
        exact h
  · exact h.elim
def tb_Floor_init_7 (G : Gx) : AS := (aFNew G.Floor "_rows" (aVar 0) (aCB bTuple (aCons (aVar 1) aNil)))
def tb_Floor_init_2 (G : Gx) : AS := (aSeq (aFor (iSeq (aVar 1)) (gN 2) (aSeq (aIf (aOr (aNot (aTru (aCB (bIsi G.k.K) (aCons (aVar 2) (aCons (aC (.ty "str")) aNil))))) (aOr (aNot (aTest (aChain oLe oLe (aC (.int 1)) (aCB bLen (aCons (aVar 2) aNil)) (aC (.int 6))))) (aTest (aBin oNe (aCB bLen (aCons (aVar 2) aNil)) (aCB bLen (aCons (aBin oIx (aVar 1) (aC (.int 0))) aNil)))))) (aRaise G.BadValue) aNext) (aIf (aNot (aTru (aCB bAll (aCons (aLcN newD (iSig (aVar 2)) (gN 3) aYes (aBin (oSin false) (aVar 3) (aC (.str ".#"))) [3]) aNil)))) (aRaise G.BadValue) aNext))) (tb_Floor_init_7 G))
def tb_Floor_init (G : Gx) : AS := (aSeq (aIf (aOr (aNot (aTru (aCB (bIsi G.k.K) (aCons (aVar 1) (aCons (aC (.ty "list")) aNil))))) (aNot (aTest (aChain oLe oLe (aC (.int 1)) (aCB bLen (aCons (aVar 1) aNil)) (aC (.int 6)))))) (aRaise G.BadValue) aNext) (tb_Floor_init_2 G))
def rowOkF (w : Nat) (d : DV) : Bool := match d with
  | .str z => decide ((1 ≤ z.length ∧ z.length ≤ 6) ∧ z.length = w ∧ ∀ c ∈ z.cps.toList, okCell c)
  | _ => false
def wdF (xs : List DV) : Nat := match xs with
  | .str z :: _ => z.length
  | _ => 0
def floorOk (xs : List DV) : Prop := (1 ≤ xs.length ∧ xs.length ≤ 6) ∧ ∀ (i : Nat) (y : DV), xs[i]? = some y → rowOkF (wdF xs) y = true
theorem flo_of : ∀ (xs : List DV) {w : Nat}, (∀ (i : Nat) (y : DV), xs[i]? = some y → rowOkF w y = true) → ∃ rs : Flo, xs = rs.map rowF ∧ ∀ r ∈ rs, (1 ≤ r.length ∧ r.length ≤ 6) ∧ r.length = w ∧ ∀ c ∈ r, okCell c
  | [], _, h => ⟨[], rfl, fun r hr => nomatch hr⟩
  | x :: xs, w, h => by
    obtain ⟨rs, rfl, hr⟩ := flo_of (w := w) xs fun i y hy => h (i + 1) y (by simpa using hy)
    have h0 := h 0 x rfl
    cases x <;> try (simp [rowOkF] at h0; done)
    rename_i z
    rw [tx_of z] at h0 ⊢
    simp only [rowOkF, tx_length, tx_list, decide_eq_true_eq] at h0
    exact ⟨z.cps.toList :: rs, rfl, fun r hr' => by
      rcases List.mem_cons.mp hr' with rfl | hr'
      · exact h0
      · exact hr r hr'⟩
theorem floorOk_flo {xs : List DV} (h : floorOk xs) : ∃ rs : Flo, xs = rs.map rowF ∧ okFloor rs := by
  obtain ⟨rs, rfl, hr⟩ := flo_of xs (w := wdF xs) h.2
  have hl := h.1
  rw [List.length_map] at hl
  have hw : wdF (rs.map rowF) = wide rs := by
    cases rs with
    | nil => rfl
    | cons r rs => exact tx_length
  rw [hw] at hr
  refine ⟨rs, rfl, hl, ?_, fun r h => (hr r h).2⟩
  cases rs with
  | nil => simp at hl
  | cons r rs => exact (hr r (List.mem_cons_self ..)).1
theorem okFloor.ok {rs : Flo} (ok : okFloor rs) : floorOk (rs.map rowF) := by
  have hw : wdF (rs.map rowF) = wide rs := by
    cases rs with
    | nil => rfl
    | cons r rs => exact tx_length
  refine ⟨by rw [List.length_map]; exact ok.h, fun i y hy => ?_⟩
  rw [hw]
  obtain ⟨r, hr, rfl⟩ := map_at hy
  have h1 := ok.r r (List.mem_of_getElem? hr)
  have := ok.w
  simp only [rowF, rowOkF, tx_length, tx_list, decide_eq_true_eq]
  exact ⟨by omega, h1⟩
theorem rd_Floor_init (G : Gx) : Reads 4 (sp_Floor_init G) (tb_Floor_init G) := by
  rintro ds L P R ⟨x, args, dx, rfl, hx, d, rfl, h⟩
  unfold tb_Floor_init
  have eS : (".#" : Str) = tx [46, 35] := by decide +kernel
  rcases h.cases (K := G.k.K) with ⟨xs, I, ht, hg, hb⟩ | ⟨off, ht, hg, hb⟩
  · have ht := ht xs rfl
    have bad1 : ¬ floorOk xs → RS R G.BadValue L := fun z => hb fun rs e o => z (by rw [Option.some.inj e]; exact o.ok)
    simp! [↓I.isi, ↓I.len]
    refine ⟨fun h1 => ⟨fun h2 => bad1 fun z => by have := z.1; omega, fun h2 => ?_⟩, fun h1 => bad1 fun z => by have := z.1; omega⟩
    unfold tb_Floor_init_2
    obtain ⟨stay, hst, he⟩ := I.seq
    simp! [↓he]
    rw [show xs = xs.map id by simp]
    refine for_ix xs id (fun i ρ' L' => ∃ v2, ρ' = [some (.ref x), some d, v2, none] ∧ L = L' ∧ ∀ j y, j < i → xs[j]? = some y → rowOkF (wdF xs) y = true) ⟨none, rfl, rfl, fun j y h => (nomatch h)⟩ (fun i ρ' L' ⟨_, _, e, _⟩ => e ▸ hst) ?_ ?_
    · rintro i y ρ' L' hy ⟨v2, rfl, rfl, hall⟩
      have hbad : rowOkF (wdF xs) y = false → RS R G.BadValue L := fun z => bad1 fun o => by rw [o.2 i y hy] at z; cases z
      have hty := ht y (List.mem_of_getElem? hy)
      cases y
      case str z =>
        have hz := hty.2 z rfl
        obtain ⟨cs, rfl⟩ : ∃ cs, z = tx cs := ⟨_, tx_of z⟩
        rw [tx_length] at hz
        have h0 : ∃ z0 : Str, xs[0]? = some (.str z0) ∧ wdF xs = z0.length := by
          by_cases hi : i = 0
          · subst hi
            cases xs with
            | nil => cases hy
            | cons a r => cases hy; exact ⟨tx cs, rfl, rfl⟩
          · cases xs with
            | nil => cases hy
            | cons a r =>
              have := hall 0 a (by omega) rfl
              cases a <;> first | (simp [rowOkF] at this; done) | exact ⟨_, rfl, rfl⟩
        obtain ⟨z0, e0, ew⟩ := h0
        rw [ew] at hbad
        have ex : ∀ (L : Led) (P : PD) (lk : Lk P), ixA xs 0 L P lk = P (.str z0) L := fun L P lk => ixA_nat (j := 0) e0
        simp only [rowOkF, tx_length, tx_list] at hbad
        simp! [↓I.ix, ↓ex, id_eq]
        refine ⟨by rw [sizeLine_eq]; omega, fun q1 => ⟨fun q2 => hbad (by simp; omega), fun q2 => ⟨by rw [sizeLine_eq]; omega, ?_⟩⟩, fun q1 => hbad (by simp; omega)⟩
        have hz0 := (ht (.str z0) (List.mem_of_getElem? e0)).2 z0 rfl
        refine ⟨by rw [sizeLine_eq]; omega, fun q3 => hbad (by simp; omega), fun q3 => ?_⟩
        simp! []
        refine lc_map _ _ (fun c => .bl (decide (c ∈ [46, 35]))) (by dsimp! []) trivial (fun c hc K1 h1 => ?_) ?_
        · simp! [eS]
          exact h1
        · have e : (cs.all fun c => decide (c ∈ [46, 35])) = true ↔ ∀ c ∈ cs, okCell c := by
            rw [List.all_eq_true]
            refine ⟨fun h c hc => by simpa [okCell] using h c hc, fun h c hc => by simpa [okCell] using h c hc⟩
          simp! []
          refine ⟨fun q4 => hbad ?_, fun q4 => ⟨_, rfl, fun j y hj hy' => ?_⟩⟩
          · rw [decide_eq_false_iff_not]
            exact fun z => by rw [e.mpr z.2.2] at q4; cases q4
          · by_cases zz : j = i
            · subst zz; rw [hy] at hy'; cases hy'
              simp only [rowOkF, tx_length, tx_list, decide_eq_true_eq]
              exact ⟨by omega, by rw [ew]; omega, e.mp q4⟩
            · exact hall j y (by omega) hy'
      case ref a =>
        obtain ⟨⟨zs, e⟩, _⟩ := hty.1
        simp! [↓isi_r_str e, id_eq]
        exact hbad rfl
      all_goals first
        | exact hty.1.elim
        | (simp! [id_eq]; exact hbad rfl)
    · rintro ρ' L' ⟨v2, rfl, rfl, hall⟩
      have fo : floorOk xs := ⟨by omega, fun j y hj => hall j y (List.getElem?_eq_some_iff.mp hj).1 hj⟩
      obtain ⟨rs, e, okr⟩ := floorOk_flo fo
      unfold tb_Floor_init_7
      simp! [↓I.tup, ↓fnewA_of hx]
      exact ⟨by decide +kernel, by rw [e]; exact hg rs (by rw [e]) okr⟩
  · simp! [↓off]
    exact hb fun rs e => (nomatch e)
def tb_law_clipped_ce61efcc (G : Gx) : AS := (aSeq (aSet 2 (aLcN newD (iSeq (aVar 0)) (gN 1) aYes (aBin oIx (aVar 1) (aC (.int 0))) [1])) (aSeq (aSet 3 (aLcN newD (iSeq (aVar 0)) (gN 1) aYes (aBin oIx (aVar 1) (aC (.int 1))) [1])) (aSeq (aSet 4 (aLstN newR aNil)) (aSeq (aFor (iRng rng2 (aCons (aCB bMinL (aCons (aVar 2) aNil)) (aCons (aBin (oAddN newD) (aCB bMaxL (aCons (aVar 2) aNil)) (aC (.int 1))) aNil))) (gN 5) (aSeq (aSet 6 (aC (.str ""))) (aSeq (aFor (iRng rng2 (aCons (aCB bMinL (aCons (aVar 3) aNil)) (aCons (aBin (oAddN newD) (aCB bMaxL (aCons (aVar 3) aNil)) (aC (.int 1))) aNil))) (gN 7) (aSet 6 (aBin (oAddN newD) (aVar 6) (aIfE (aTest (aBin (oInD false) (aTup (aCons (aVar 5) (aCons (aVar 7) aNil))) (aVar 0))) (aC (.str ".")) (aC (.str "#")))))) (aDrop (aLm mAppend (aVar 4) (aCons (aVar 6) aNil)))))) (aRet (aFrz G.k (aTup (aCons (aC (.str "floor")) (aCons (aCB bTuple (aCons (aVar 4) aNil)) aNil)))))))))
theorem rd_law_clipped_ce61efcc (G : Gx) : Reads 8 (sp_law_clipped_ce61efcc G) (tb_law_clipped_ce61efcc G) := by
  rintro ds L P R ⟨ps, _, rfl, ⟨ac, rfl, hac⟩, ne, s, lp, h⟩
  unfold tb_law_clipped_ce61efcc
  have x := box_of ne s
  have e0 := clip_box s x fun _ => Iff.rfl
  simp! [↓isi_r_list hac, ↓withL_of hac, ↓withSq_of hac, ↓seqI_of hac, ↓lmR_of hac, ↓lmB_of hac, ↓enuA_of hac]
  refine lc_map ps cellD (fun p => .int ((p.1 : Nat) : Int)) (by rw [sizeLine_eq]; omega) hac (fun p hp K1 k1 => ?_) ?_
  · simp! [cellD]
    exact k1
  simp! [↓isi_r_list hac, ↓withL_of hac, ↓withSq_of hac, ↓seqI_of hac, ↓lmR_of hac, ↓lmB_of hac, ↓enuA_of hac]
  refine lc_map ps cellD (fun p => .int ((p.2 : Nat) : Int)) (by rw [sizeLine_eq]; omega) hac (fun p hp K1 k1 => ?_) ?_
  · simp! [cellD]
    exact k1
  have n1 : ps.map (fun p => p.1) ≠ [] := by simpa using ne
  have n2 : ps.map (fun p => p.2) ≠ [] := by simpa using ne
  have mi1 : ∀ {L : Led} {P : PD} {lk : Lk P}, P (.int ((mnL (ps.map (·.1)) : Nat) : Int)) L → minA (ps.map fun p => DV.int ((p.1 : Nat) : Int)) L P lk := fun {L P lk} h => by
    have := minA_of (lk := lk) (ns := (ps.map (·.1)).map fun n => ((n : Nat) : Int)) (m := ((mnL (ps.map (·.1)) : Nat) : Int)) (List.mem_map_of_mem (mnL_in n1 fun x hx => by obtain ⟨q, hq, rfl⟩ := List.mem_map.mp hx; have := s q hq; omega)) (fun y hy => by obtain ⟨z, hz, rfl⟩ := List.mem_map.mp hy; have := mnL_le hz; omega) h
    rw [List.map_map, List.map_map] at this
    exact this
  have mi2 : ∀ {L : Led} {P : PD} {lk : Lk P}, P (.int ((mnL (ps.map (·.2)) : Nat) : Int)) L → minA (ps.map fun p => DV.int ((p.2 : Nat) : Int)) L P lk := fun {L P lk} h => by
    have := minA_of (lk := lk) (ns := (ps.map (·.2)).map fun n => ((n : Nat) : Int)) (m := ((mnL (ps.map (·.2)) : Nat) : Int)) (List.mem_map_of_mem (mnL_in n2 fun x hx => by obtain ⟨q, hq, rfl⟩ := List.mem_map.mp hx; have := s q hq; omega)) (fun y hy => by obtain ⟨z, hz, rfl⟩ := List.mem_map.mp hy; have := mnL_le hz; omega) h
    rw [List.map_map, List.map_map] at this
    exact this
  have ma1 : ∀ {L : Led} {P : PD} {lk : Lk P}, P (.int ((mxL (ps.map (·.1)) : Nat) : Int)) L → maxA (ps.map fun p => DV.int ((p.1 : Nat) : Int)) L P lk := fun {L P lk} h => by
    have := maxA_of (lk := lk) (ns := (ps.map (·.1)).map fun n => ((n : Nat) : Int)) (m := ((mxL (ps.map (·.1)) : Nat) : Int)) (List.mem_map_of_mem (mxL_in n1)) (fun y hy => by obtain ⟨z, hz, rfl⟩ := List.mem_map.mp hy; have := mxL_le hz; omega) h
    rw [List.map_map, List.map_map] at this
    exact this
  have ma2 : ∀ {L : Led} {P : PD} {lk : Lk P}, P (.int ((mxL (ps.map (·.2)) : Nat) : Int)) L → maxA (ps.map fun p => DV.int ((p.2 : Nat) : Int)) L P lk := fun {L P lk} h => by
    have := maxA_of (lk := lk) (ns := (ps.map (·.2)).map fun n => ((n : Nat) : Int)) (m := ((mxL (ps.map (·.2)) : Nat) : Int)) (List.mem_map_of_mem (mxL_in n2)) (fun y hy => by obtain ⟨z, hz, rfl⟩ := List.mem_map.mp hy; have := mxL_le hz; omega) h
    rw [List.map_map, List.map_map] at this
    exact this
  have e1 : ∀ a h : Nat, (((a + h : Nat) : Int) + 1 - ((a : Nat) : Int)).toNat = h + 1 := fun a h => by omega
  have lt := x.lt s
  have up1 : mnL (ps.map (·.1)) + (mxL (ps.map (·.1)) - mnL (ps.map (·.1))) = mxL (ps.map (·.1)) := by
    have := mxL_le (mnL_in n1 fun x hx => by obtain ⟨q, hq, rfl⟩ := List.mem_map.mp hx; have := s q hq; omega)
    omega
  have up2 : mnL (ps.map (·.2)) + (mxL (ps.map (·.2)) - mnL (ps.map (·.2))) = mxL (ps.map (·.2)) := by
    have := mxL_le (mnL_in n2 fun x hx => by obtain ⟨q, hq, rfl⟩ := List.mem_map.mp hx; have := s q hq; omega)
    omega
  rw [e0] at h
  rw [← up1] at ma1
  rw [← up2] at ma2
  simp! []
  intro af haf
  refine mi1 (ma1 ?_)
  generalize mnL (ps.map (·.1)) = a at *
  generalize mnL (ps.map (·.2)) = b at *
  generalize mxL (ps.map (·.1)) - a = hh at *
  generalize mxL (ps.map (·.2)) - b = w at *
  simp! []
  rw [e1]
  have eH : ("#" : Str) = tx [35] := by decide +kernel
  have eD : ("." : Str) = tx [46] := by decide +kernel
  have eN : ("" : Str) = tx [] := by decide +kernel
  have rd : ∀ (a n : Nat), rangeD ((a : Nat) : Int) n = (List.range n).map fun i => DV.int ((a + i : Nat) : Int) := fun a n => by
    unfold rangeD
    refine List.map_congr_left fun i _ => ?_
    rw [Int.natCast_add]
  rw [rd]
  have na : ac ≠ af := fun z => by rw [z, haf] at hac; cases hac
  refine ⟨by omega, for_rng (hh + 1) _ (fun i ρ' L' => ∃ v5 v6 v7, ρ' = [some (.ref ac), none, some (DV.lst (List.map (fun p => DV.int ↑p.fst) ps)), some (DV.lst (List.map (fun p => DV.int ↑p.snd) ps)), some (DV.ref af), v5, v6, v7] ∧ L' = updL L af (.lst (((boxF ps a b hh w).take i).map rowF))) ⟨_, _, _, rfl, rfl⟩ (fun _ _ _ _ => trivial) ?_ ?_⟩
  · rintro i ρ' L' hi ⟨v5, v6, v7, rfl, rfl⟩
    simp! []
    refine mi2 (ma2 ?_)
    simp! []
    rw [e1, rd]
    have rl : ((boxF ps a b hh w)[i]'(by rw [box_len]; exact hi)).length = w + 1 := by
      unfold boxF; simp
    refine ⟨by omega, for_rng (w + 1) _ (fun j ρ' L' => ∃ v7, ρ' = [some (.ref ac), none, some (DV.lst (List.map (fun p => DV.int ↑p.fst) ps)), some (DV.lst (List.map (fun p => DV.int ↑p.snd) ps)), some (DV.ref af), some (.int ((a + i : Nat) : Int)), some (.str (tx ((List.range j).map fun j => if (a + i, b + j) ∈ ps then 46 else 35))), v7] ∧ L' = updL L af (.lst (((boxF ps a b hh w).take i).map rowF))) ⟨_, by rw [eN]; rfl, rfl⟩ (fun _ _ _ _ => trivial) ?_ ?_⟩
    · rintro j ρ' L' hj ⟨v7, rfl, rfl⟩
      have en : ∀ a b : Int, plS 1 (.tup [.int a, .int b]) := by
        intro a b y hy
        simp at hy
        rcases hy with rfl | rfl <;> trivial
      have hac2 : updL L af (.lst (((boxF ps a b hh w).take i).map rowF)) ac = some (.lst (ps.map cellD)) := by rw [updL_ne na]; exact hac
      simp! []
      refine inDA_r hac2 (n := 1) (en _ _) (fun y hy => by obtain ⟨q, _, rfl⟩ := List.mem_map.mp hy; exact en _ _) (by omega) ?_
      simp only [cellD_mem]
      simp! [eH, eD]
      have l1 : (List.range j).length + 1 ≤ sizeLine := by rw [List.length_range, sizeLine_eq]; omega
      refine ⟨fun z => ⟨l1, some (.int ((b + j : Nat) : Int)), ?_⟩, fun z => ⟨l1, some (.int ((b + j : Nat) : Int)), ?_⟩⟩
      · rw [List.range_succ, List.map_append, List.map_singleton, if_pos z]
      · rw [List.range_succ, List.map_append, List.map_singleton, if_neg z]
    · rintro ρ' L' ⟨v7, rfl, rfl⟩
      have at_ : (boxF ps a b hh w)[i]? = some ((List.range (w + 1)).map fun j => if (a + i, b + j) ∈ ps then 46 else 35) := by
        unfold boxF
        rw [List.getElem?_map, List.getElem?_range hi]; rfl
      have bl := box_len (c := ps) (a := a) (b := b) (h := hh) (w := w)
      simp! [↓lmB_of updL_same]
      refine ⟨by simp [sizeLine_eq]; omega, _, _, _, rfl, ?_⟩
      rw [take_more at_, List.map_append]
      rfl
  · rintro ρ' L' ⟨v5, v6, v7, rfl, rfl⟩
    simp! [↓isi_r_list updL_same, ↓withL_of updL_same, ↓withSq_of updL_same, ↓seqI_of updL_same, ↓lmR_of updL_same, ↓lmB_of updL_same, ↓enuA_of updL_same]
    rw [← box_len (c := ps) (a := a) (b := b) (h := hh) (w := w), List.take_length]
    exact frz_sub (Sub.new haf) h
def tb_law_floor_parts_da8a0049_15 (G : Gx) : AS := (aSeq (aSet 5 (aBin (oAddN newD) (aVar 5) (aVar 7))) (aIf (aTest (aBin oGt (aCB bLen (aCons (aVar 7) aNil)) (aC (.int 1)))) (aDrop (aLm mAppend (aVar 4) (aCons (aCall (sp_law_clipped_ce61efcc G) [] (aCons (aVar 7) aNil)) aNil))) aNext))
def tb_law_floor_parts_da8a0049_7 (G : Gx) : AS := (aSeq (aFor (iRng rng1 (aCons (aC (.int 36)) aNil)) (gN 8) (aSeq (aSet 9 (aCB bLen (aCons (aVar 7) aNil))) (aSeq (aFor (iSeq (aVar 2)) (gN 3) (aSeq (aSet 11 (aLcN newD (iSeq (aVar 7)) (gN 10) (aTest (aBin oEq (aBin (oAddN newD) (aCB bAbs (aCons (aBin oSub (aBin oIx (aVar 10) (aC (.int 0))) (aBin oIx (aVar 3) (aC (.int 0)))) aNil)) (aCB bAbs (aCons (aBin oSub (aBin oIx (aVar 10) (aC (.int 1))) (aBin oIx (aVar 3) (aC (.int 1)))) aNil))) (aC (.int 1)))) (aVar 10) [10])) (aIf (aAnd (aTest (aBin (oInD true) (aVar 3) (aVar 7))) (aTest (aBin oGt (aCB bLen (aCons (aVar 11) aNil)) (aC (.int 0))))) (aDrop (aLm mAppend (aVar 7) (aCons (aVar 3) aNil))) aNext))) (aIf (aTest (aBin oEq (aCB bLen (aCons (aVar 7) aNil)) (aVar 9))) aBrk aNext)))) (tb_law_floor_parts_da8a0049_15 G))
def tb_law_floor_parts_da8a0049 (G : Gx) : AS := (aSeq (aSet 2 (aLcN newD (iRng rng1 (aCons (aC (.int 36)) aNil)) (gN 1) aYes (aTup (aCons (aBin oDiv (aVar 1) (aC (.int 6))) (aCons (aBin oMod (aCB bInt (aCons (aVar 1) aNil)) (aC (.int 6))) aNil))) [1])) (aSeq (aSet 2 (aLcN newD (iSeq (aVar 2)) (gN 3) (aAnd (aTest (aBin oLt (aBin oIx (aVar 3) (aC (.int 0))) (aCB bLen (aCons (aVar 0) aNil)))) (aTest (aBin oEq (aSlN newD (aBin oIx (aVar 0) (aCB bMin2 (aCons (aBin oIx (aVar 3) (aC (.int 0))) (aCons (aBin oSub (aCB bLen (aCons (aVar 0) aNil)) (aC (.int 1))) aNil)))) (aPart (aBin oIx (aVar 3) (aC (.int 1)))) (aPart (aBin (oAddN newD) (aBin oIx (aVar 3) (aC (.int 1))) (aC (.int 1))))) (aC (.str "."))))) (aVar 3) [3])) (aSeq (aSet 4 (aLstN newR aNil)) (aSeq (aSet 5 (aLstN newD aNil)) (aSeq (aFor (iSeq (aVar 2)) (gN 6) (aIf (aTest (aBin (oInD true) (aVar 6) (aVar 5))) (aSeq (aSet 7 (aLstN newR (aCons (aVar 6) aNil))) (tb_law_floor_parts_da8a0049_7 G)) aNext)) (aRet (aFrz G.k (aVar 4))))))))
section
open Classical
theorem plS_cell (p : Nat × Nat) : plS 1 (cellD p) := by
  intro y hy
  simp at hy
  rcases hy with rfl | rfl <;> trivial
theorem cellD_in {q : Nat × Nat} {l : List (Nat × Nat)} : cellD q ∈ l.map cellD ↔ q ∈ l := cellD_mem
theorem cells_all : (List.range 36).map (fun k => (k / 6, k % 6)) = cells 6 6 := by decide
theorem cells_in (h w : Nat) (hh : h ≤ 6) (hw : w ≤ 6) : (cells 6 6).filter (fun p => decide (p.1 < h) && decide (p.2 < w)) = cells h w := by
  have : ∀ h : Fin 7, ∀ w : Fin 7, (cells 6 6).filter (fun p => decide (p.1 < h.1) && decide (p.2 < w.1)) = cells h.1 w.1 := by decide +kernel
  exact this ⟨h, by omega⟩ ⟨w, by omega⟩
theorem free_all {rs : Flo} (ok : okFloor rs) : (cells 6 6).filter (isFree rs) = freeF rs := by
  unfold freeF
  rw [← cells_in _ _ ok.h.2 ok.w.2, List.filter_filter]
  refine List.filter_congr fun p _ => ?_
  by_cases z : isFree rs p = true
  · have := isFree_in ok z
    rw [z, decide_eq_true this.1, decide_eq_true this.2]; rfl
  · rw [show isFree rs p = false by simpa using z]; rfl
theorem t15_floor_parts {G : Gx} {rs : Flo} {cs T K : List (Nat × Nat)} {F : List Flo} {p : Nat × Nat} {af ap : Addr} {L0 L1 : Led} {P : PD} {R : Addr → Led → Prop} {v3 v8 v9 v11 : Option DV} {nx bk ct : Sl → Led → Prop} (kn : K ≠ []) (sk : ∀ q ∈ K, q.1 < 6 ∧ q.2 < 6) (lK : K.length ≤ 36) (lF : F.length ≤ 36) (lT : T.length ≤ 10000) (ne : ap ≠ af) (e1 : L1 = updL (updL L0 ap (.lst (K.map cellD))) af (.lst (F.map floorV))) (k : (1 < K.length → nx [some (DV.tup (List.map rowF rs)), none, some (DV.lst (List.map cellD cs)), v3, some (DV.ref af), some (.lst ((T ++ K).map cellD)), some (cellD p), some (.ref ap), v8, v9, none, v11] (updL (updL L0 ap (.lst (K.map cellD))) af (.lst ((F ++ [clipF K]).map floorV)))) ∧ (¬ 1 < K.length → nx [some (DV.tup (List.map rowF rs)), none, some (DV.lst (List.map cellD cs)), v3, some (DV.ref af), some (.lst ((T ++ K).map cellD)), some (cellD p), some (.ref ap), v8, v9, none, v11] L1)) : tb_law_floor_parts_da8a0049_15 G ⟨nx, P, bk, ct, fun c _ L => R c L⟩ [some (DV.tup (List.map rowF rs)), none, some (DV.lst (List.map cellD cs)), v3, some (DV.ref af), some (.lst (T.map cellD)), some (cellD p), some (.ref ap), v8, v9, none, v11] L1 := by
  unfold tb_law_floor_parts_da8a0049_15
  subst e1
  have hap : updL (updL L0 ap (.lst (K.map cellD))) af (.lst (F.map floorV)) ap = some (.lst (K.map cellD)) := by rw [updL_ne ne]; exact updL_same
  simp! [↓isi_r_list hap, ↓withL_of hap, ↓withSq_of hap, ↓seqI_of hap, ↓lmR_of hap, ↓lmB_of hap, ↓enuA_of hap]
  refine ⟨by rw [sizeLine_eq]; omega, fun z => ?_, fun z => ?_⟩
  · refine ⟨K, _, rfl, ⟨ap, rfl, hap⟩, kn, sk, lK, ?_⟩
    simp! [↓lmB_of updL_same]
    have := k.1 (by omega)
    rw [List.map_append, List.map_append] at this
    exact ⟨by rw [sizeLine_eq]; omega, this⟩
  · have := k.2 (by omega)
    rw [List.map_append] at this
    exact this
theorem t7_floor_parts {G : Gx} {rs : Flo} {cs T : List (Nat × Nat)} {F : List Flo} {p : Nat × Nat} {af ap : Addr} {L0 L1 : Led} {P : PD} {R : Addr → Led → Prop} {v3 v8 v9 v11 : Option DV} {nx bk ct : Sl → Led → Prop} (hp : p ∈ cs) (fnd : cs.Nodup) (l36 : cs.length ≤ 36) (sm : ∀ q ∈ cs, q.1 < 6 ∧ q.2 < 6) (lF : F.length ≤ 36) (lT : T.length ≤ 10000) (ne : ap ≠ af) (e1 : L1 = updL (updL L0 ap (.lst [cellD p])) af (.lst (F.map floorV))) (k : ∀ K, K.Nodup → (∀ q, q ∈ K ↔ LnkF cs p q) → ∀ L2, L2 = updL L0 ap (.lst (K.map cellD)) → ∀ v3 v8 v9 v11, (1 < K.length → nx [some (DV.tup (List.map rowF rs)), none, some (DV.lst (List.map cellD cs)), v3, some (DV.ref af), some (.lst ((T ++ K).map cellD)), some (cellD p), some (.ref ap), v8, v9, none, v11] (updL L2 af (.lst ((F ++ [clipF K]).map floorV)))) ∧ (¬ 1 < K.length → nx [some (DV.tup (List.map rowF rs)), none, some (DV.lst (List.map cellD cs)), v3, some (DV.ref af), some (.lst ((T ++ K).map cellD)), some (cellD p), some (.ref ap), v8, v9, none, v11] (updL L2 af (.lst (F.map floorV))))) : tb_law_floor_parts_da8a0049_7 G ⟨nx, P, bk, ct, fun c _ L => R c L⟩ [some (DV.tup (List.map rowF rs)), none, some (DV.lst (List.map cellD cs)), v3, some (DV.ref af), some (.lst (T.map cellD)), some (cellD p), some (.ref ap), v8, v9, none, v11] L1 := by
  unfold tb_law_floor_parts_da8a0049_7
  subst e1
  simp! []
  have pin : ∀ (M : List (Nat × Nat)), (M.map cellD).length = M.length := fun M => List.length_map _
  have hapL : ∀ M : List (Nat × Nat), updL (updL L0 ap (.lst (M.map cellD))) af (.lst (F.map floorV)) ap = some (.lst (M.map cellD)) := fun M => by rw [updL_ne ne]; exact updL_same
  refine ⟨by decide, for_rngB 36 _ (fun t ρ' L' => ∃ (K : List (Nat × Nat)) (v3 v8 v9 v11 : Option DV), ρ' = [some (DV.tup (List.map rowF rs)), none, some (DV.lst (List.map cellD cs)), v3, some (DV.ref af), some (.lst (T.map cellD)), some (cellD p), some (.ref ap), v8, v9, none, v11] ∧ L' = updL (updL L0 ap (.lst (K.map cellD))) af (.lst (F.map floorV)) ∧ K.Nodup ∧ p ∈ K ∧ (∀ q ∈ K, LnkF cs p q) ∧ t + 1 ≤ K.length) (fun ρ' L' => ∃ (K : List (Nat × Nat)) (v3 v8 v9 v11 : Option DV), ρ' = [some (DV.tup (List.map rowF rs)), none, some (DV.lst (List.map cellD cs)), v3, some (DV.ref af), some (.lst (T.map cellD)), some (cellD p), some (.ref ap), v8, v9, none, v11] ∧ L' = updL (updL L0 ap (.lst (K.map cellD))) af (.lst (F.map floorV)) ∧ K.Nodup ∧ (∀ q, q ∈ K ↔ LnkF cs p q)) ?_ ⟨[p], _, _, _, _, rfl, rfl, List.pairwise_singleton .., List.mem_singleton.mpr rfl, fun q hq => by rw [List.mem_singleton.mp hq]; exact .here hp, Nat.le_refl _⟩ (fun _ _ _ _ => trivial) ?_ ?_⟩
  · rintro ρ' L' ⟨K, v3, v8, v9, v11, rfl, rfl, nd, hK⟩
    have sb : ∀ q ∈ K, q ∈ cs := fun q hq => ((hK q).mp hq).mem.2
    refine t15_floor_parts (fun e => ?_) (fun q hq => sm q (sb q hq)) (Nat.le_trans (nodup_sub nd sb) l36) lF lT ne rfl (k K nd hK _ rfl v3 v8 v9 v11)
    have := (hK p).mpr (.here hp)
    rw [e] at this; cases this
  · rintro ρ' L' ⟨K, v3, v8, v9, v11, rfl, rfl, nd, pK, aK, tK⟩
    have := nodup_sub nd fun q hq => (aK q hq).mem.2
    omega
  · rintro hz t ρ' L' ht ⟨K, v3, v8, v9, v11, rfl, rfl, nd, pK, aK, tK⟩
    have lK := nodup_sub nd fun q hq => (aK q hq).mem.2
    have hM0 := hapL K
    simp! [↓isi_r_list hM0, ↓withL_of hM0, ↓withSq_of hM0, ↓seqI_of hM0, ↓lmR_of hM0, ↓lmB_of hM0, ↓enuA_of hM0]
    refine for_pre cs cellD (fun done ρ' L' => ∃ (N : List (Nat × Nat)) (v3 v11 : Option DV), ρ' = [some (DV.tup (List.map rowF rs)), none, some (DV.lst (List.map cellD cs)), v3, some (DV.ref af), some (.lst (T.map cellD)), some (cellD p), some (.ref ap), some (.int (t : Nat)), some (.int (K.length : Nat)), none, v11] ∧ L' = updL (updL L0 ap (.lst ((K ++ N).map cellD))) af (.lst (F.map floorV)) ∧ (K ++ N).Nodup ∧ (∀ q ∈ K ++ N, LnkF cs p q) ∧ (N = [] → ∀ c ∈ done, ∀ q ∈ K, besF q c → c ∈ K)) ⟨[], _, _, rfl, by rw [List.append_nil], by rw [List.append_nil]; exact nd, by rw [List.append_nil]; exact aK, fun _ _ z => (nomatch z)⟩ (fun _ _ _ _ => trivial) ?_ ?_
    · rintro done c rest ρ' L' ej ⟨N, v3, v11, rfl, rfl, nd2, aK2, cl⟩
      have hc : c ∈ cs := by rw [ej]; simp
      generalize eM : K ++ N = M at nd2 aK2
      have lM := nodup_sub nd2 fun q hq => (aK2 q hq).mem.2
      have hM := hapL M
      simp! [↓isi_r_list hM, ↓withL_of hM, ↓withSq_of hM, ↓seqI_of hM, ↓lmR_of hM, ↓lmB_of hM, ↓enuA_of hM]
      refine lc_filt M cellD (fun q => decide (besF q c)) cellD (by rw [sizeLine_eq]; omega) hM (fun q hq K1 K0 g1 g0 => ?_) ?_
      · simp! [cellD]
        have iff : (((if ((q.1 : Nat) : Int) - ((c.1 : Nat) : Int) < 0 then -(((q.1 : Nat) : Int) - ((c.1 : Nat) : Int)) else ((q.1 : Nat) : Int) - ((c.1 : Nat) : Int)) + if ((q.2 : Nat) : Int) - ((c.2 : Nat) : Int) < 0 then -(((q.2 : Nat) : Int) - ((c.2 : Nat) : Int)) else ((q.2 : Nat) : Int) - ((c.2 : Nat) : Int)) = 1) ↔ besF q c := by
          unfold besF
          split <;> split <;> omega
        exact ⟨fun z => g1 (decide_eq_true (iff.mp z)), fun z => g0 (decide_eq_false fun y => z (iff.mpr y))⟩
      · simp! []
        refine inDA_r hM (n := 1) (plS_cell c) (fun y hy => by obtain ⟨z, _, rfl⟩ := List.mem_map.mp hy; exact plS_cell z) (by omega) ?_
        simp only [cellD_in]
        simp! [↓isi_r_list hM, ↓withL_of hM, ↓withSq_of hM, ↓seqI_of hM, ↓lmR_of hM, ↓lmB_of hM, ↓enuA_of hM]
        have skip : (c ∈ M ∨ ∀ q ∈ M, ¬ besF q c) → N = [] → ∀ x ∈ done ++ [c], ∀ q ∈ K, besF q x → x ∈ K := fun a e x hx q hq b => by
          rcases List.mem_append.mp hx with hx | hx
          · exact cl e x hx q hq b
          · rw [List.mem_singleton.mp hx] at b ⊢
            rw [e, List.append_nil] at eM
            subst eM
            rcases a with a | a
            · exact a
            · exact absurd b (a q hq)
        refine ⟨fun nc => ⟨fun z => ?_, fun z => ⟨N, _, _, rfl, by rw [eM], by rw [eM]; exact nd2, by rw [eM]; exact aK2, skip (.inr fun q hq b => ?_)⟩⟩, fun ic => ⟨N, _, _, rfl, by rw [eM], by rw [eM]; exact nd2, by rw [eM]; exact aK2, skip (.inl ic)⟩⟩
        · obtain ⟨q, hq⟩ : ∃ q, q ∈ M.filter fun q => decide (besF q c) := List.exists_mem_of_length_pos (by omega)
          obtain ⟨hq, bq⟩ := List.mem_filter.mp hq
          have bq := of_decide_eq_true bq
          have eKN : K ++ (N ++ [c]) = M ++ [c] := by rw [← List.append_assoc, eM]
          refine ⟨by rw [sizeLine_eq]; omega, N ++ [c], _, _, rfl, ?_, ?_, ?_, fun z => by simp at z⟩
          · rw [updL_comm ne.symm, updL_updL, eKN, List.map_append]; rfl
          · rw [eKN]
            exact List.nodup_append.mpr ⟨nd2, List.pairwise_singleton .., fun a ha b hb => by rw [List.mem_singleton.mp hb]; exact fun z => nc (z ▸ ha)⟩
          · rw [eKN]
            intro x hx
            rcases List.mem_append.mp hx with hx | hx
            · exact aK2 x hx
            · rw [List.mem_singleton.mp hx]; exact .step (aK2 q hq) hc bq
        · have : q ∈ M.filter fun q => decide (besF q c) := List.mem_filter.mpr ⟨hq, decide_eq_true b⟩
          have := List.length_pos_of_mem this
          omega
    · rintro ρ' L' ⟨N, v3, v11, rfl, rfl, nd2, aK2, cl⟩
      have hM := hapL (K ++ N)
      simp! [↓isi_r_list hM, ↓withL_of hM, ↓withSq_of hM, ↓seqI_of hM, ↓lmR_of hM, ↓lmB_of hM, ↓enuA_of hM]
      refine ⟨fun z => ?_, fun z => ⟨K ++ N, _, _, _, _, rfl, rfl, nd2, List.mem_append_left _ pK, aK2, ?_⟩⟩
      · have e0 : N = [] := List.eq_nil_of_length_eq_zero (by omega)
        subst e0
        rw [List.append_nil] at *
        exact hz _ _ ⟨K, _, _, _, _, rfl, rfl, nd, fun q => LnkF.closed pK aK fun q hq r hr b => cl rfl r hr q hq b⟩
      · rw [List.length_append]; omega
theorem cut_one {r : List Nat} {j : Nat} (h : j < r.length) : cut r (some ((j : Nat) : Int)) (some (((j : Nat) : Int) + 1)) = [r.getD j 35] := by
  have e1 : HT.sIx r.length 0 (some ((j : Nat) : Int)) = j := by
    show (if ((j : Nat) : Int) < 0 then (((j : Nat) : Int) + (r.length : Int)).toNat else min ((j : Nat) : Int).toNat r.length) = j
    rw [if_neg (by omega)]; omega
  have e2 : HT.sIx r.length r.length (some (((j : Nat) : Int) + 1)) = j + 1 := by
    show (if ((j : Nat) : Int) + 1 < 0 then (((j : Nat) : Int) + 1 + (r.length : Int)).toNat else min (((j : Nat) : Int) + 1).toNat r.length) = j + 1
    rw [if_neg (by omega)]; omega
  unfold cut
  rw [e1, e2, List.drop_eq_getElem_cons h, List.getD_eq_getElem?_getD, List.getElem?_eq_getElem h, show j + 1 - j = 1 by omega]
  rfl
theorem cut_none {r : List Nat} {j : Nat} {hi : Option Int} (h : r.length ≤ j) : cut r (some ((j : Nat) : Int)) hi = [] := by
  have e1 : HT.sIx r.length 0 (some ((j : Nat) : Int)) = r.length := by
    show (if ((j : Nat) : Int) < 0 then (((j : Nat) : Int) + (r.length : Int)).toNat else min ((j : Nat) : Int).toNat r.length) = _
    rw [if_neg (by omega)]; omega
  unfold cut
  rw [e1, List.drop_length, List.take_nil]
theorem rd_law_floor_parts_da8a0049 (G : Gx) : Reads 12 (sp_law_floor_parts_da8a0049 G) (tb_law_floor_parts_da8a0049 G) := by
  rintro ds L P R ⟨rs, rfl, ok, h⟩
  unfold tb_law_floor_parts_da8a0049
  have hh := ok.h
  have hw := ok.w
  have eD : ("." : Str) = tx [46] := by decide +kernel
  simp! []
  refine ⟨by decide, ?_⟩
  refine lc_map (List.range 36) _ (fun k => cellD (k / 6, k % 6)) (by rw [List.length_range, sizeLine_eq]; omega) trivial (fun k hk K1 k1 => ?_) ?_
  · simp! []
    refine ⟨cdiv_small (by decide) (by decide), ?_⟩
    exact k1
  rw [show (List.range 36).map (fun k => cellD (k / 6, k % 6)) = (cells 6 6).map cellD by rw [← cells_all, List.map_map]; rfl]
  simp! []
  refine lc_filt (cells 6 6) cellD (isFree rs) cellD (by rw [cells_len, sizeLine_eq]; omega) trivial (fun p hp K1 K0 g1 g0 => ?_) ?_
  · obtain ⟨p1, p2⟩ := mem_cells.mp hp
    simp! [cellD]
    refine ⟨fun q => ?_, fun q => g0 ?_⟩
    · have q : p.1 < rs.length := by omega
      have hl := (ok.row q).1
      rw [if_neg (show ¬ ((rs.length : Nat) : Int) - 1 < ((p.1 : Nat) : Int) by omega)]
      have e : (rs.map rowF)[p.1]? = some (rowF (rs.getD p.1 [])) := by rw [List.getElem?_map, getD_row q, List.getElem?_eq_getElem q]; rfl
      rw [ixA_nat e]
      generalize hr : rs.getD p.1 [] = r at *
      simp! [rowF, cutS_tx, eD, tx_inj]
      have ecut : (cut r (some ((p.2 : Nat) : Int)) (some (((p.2 : Nat) : Int) + 1)) = [46]) ↔ isFree rs p = true := by
        by_cases pw : p.2 < r.length
        case neg =>
          rw [cut_none (by omega)]
          refine ⟨fun e => (nomatch e), fun z => ?_⟩
          have := isFree_in ok z
          omega
        rw [cut_one pw]
        unfold isFree cellFl
        rw [hr, decide_eq_true_iff]
        exact ⟨fun e => List.head_eq_of_cons_eq e, fun e => by rw [e]⟩
      refine ⟨by rw [sizeLine_eq]; omega, fun z => g1 (ecut.mp z), fun z => g0 ?_⟩
      by_cases y : isFree rs p = true
      · exact absurd (ecut.mpr y) z
      · simpa using y
    · by_cases z : isFree rs p = true
      · have := isFree_in ok z
        omega
      · simpa using z
  rw [free_all ok]
  simp! []
  intro af haf
  have l36 := freeF_len ok
  have fnd : (freeF rs).Nodup := free_nodup
  have sm := free_small ok
  generalize ecs : freeF rs = cs at *
  refine for_pre cs cellD (fun done ρ' L' => ∃ (T : List (Nat × Nat)) (F : List Flo) (n : Nat) (L0 : Led) (v3 v6 v7 v8 v9 v11 : Option DV), ρ' = [some (DV.tup (List.map rowF rs)), none, some (DV.lst (List.map cellD cs)), v3, some (DV.ref af), some (.lst (T.map cellD)), v6, v7, v8, v9, none, v11] ∧ L' = updL L0 af (.lst (F.map floorV)) ∧ Sub L L0 ∧ L0 af = none ∧ (∀ q ∈ done, q ∈ T) ∧ (∀ q ∈ cs, q ∉ T → ∀ r ∈ cs, besF q r → r ∉ T) ∧ (cs.filter fun q => !decide (q ∈ T)).length ≤ n ∧ n ≤ 36 ∧ F.length + n ≤ 36 ∧ T.length ≤ 36 * done.length ∧ partsF rs = F ++ ((splitF n (cs.filter fun q => !decide (q ∈ T))).filter fun c => decide (1 < c.length)).map clipF) ⟨[], [], 36, L, _, _, _, _, _, _, rfl, rfl, Sub.refl L, haf, fun _ z => (nomatch z), fun _ _ _ _ _ _ z => (nomatch z), Nat.le_trans (List.length_filter_le _ _) l36, Nat.le_refl _, Nat.le_refl _, Nat.le_refl _, ?_⟩ (fun _ _ _ _ => trivial) ?_ ?_
  · rw [show cs.filter (fun q => !decide (q ∈ ([] : List (Nat × Nat)))) = cs from List.filter_eq_self.mpr fun q _ => by simp, ← ecs]; rfl
  · rintro done p rest ρ' L' ej ⟨T, F, n, L0, v3, v6, v7, v8, v9, v11, rfl, rfl, sb, h0, hT, cl, ln, n36, lF, lT, ep⟩
    have hp : p ∈ cs := by rw [ej]; simp
    have lj := congrArg List.length ej
    rw [List.length_append, List.length_cons] at lj
    simp! []
    refine inDA_l (n := 1) (plS_cell p) (fun y hy => by obtain ⟨z, _, rfl⟩ := List.mem_map.mp hy; exact plS_cell z) (by omega) ?_
    simp only [cellD_in]
    simp! []
    refine ⟨fun np => ?_, fun np => ⟨T, F, n, L0, _, _, _, _, _, _, rfl, rfl, sb, h0, fun q hq => ?_, cl, ln, n36, lF, by omega, ep⟩⟩
    · intro ap hap
      have ne : ap ≠ af := fun z => by rw [z, updL_same] at hap; cases hap
      have h0p : L0 ap = none := by rw [updL_ne ne] at hap; exact hap
      have el : cs.filter (fun q => !decide (q ∈ T)) = p :: rest.filter fun q => !decide (q ∈ T) := by
        rw [ej, List.filter_append, List.filter_eq_nil_iff.mpr (fun q hq => by rw [decide_eq_true (hT q hq)]; decide), List.nil_append, List.filter_cons, if_pos (by rw [decide_eq_false np]; rfl)]
      obtain ⟨n, rfl⟩ : ∃ m, n = m + 1 := ⟨n - 1, by rw [el, List.length_cons] at ln; omega⟩
      refine t7_floor_parts (rs := rs) (T := T) (F := F) (L0 := L0) hp fnd l36 sm (by omega) (by omega) ne (updL_comm ne.symm) fun K nd hK L2 e2 v3 v8 v9 v11 => ?_
      subst e2
      generalize eL : cs.filter (fun q => !decide (q ∈ T)) = l at *
      have lm : ∀ q, q ∈ l ↔ q ∈ cs ∧ q ∉ T := fun q => by rw [← eL, List.mem_filter]; simp
      have hl : p ∈ l := (lm p).mpr ⟨hp, np⟩
      have sub : ∀ q, LnkF l p q ↔ LnkF cs p q := fun q => LnkF.sub (fun q hq => ((lm q).mp hq).1) (fun q hq r hr b => (lm r).mpr ⟨hr, cl q ((lm q).mp hq).1 ((lm q).mp hq).2 r hr b⟩) hl
      have es : splitF (n + 1) l = compF l p :: splitF n (restF l p) := by rw [el]; rfl
      have er : cs.filter (fun q => !decide (q ∈ T ++ K)) = restF l p := by
        unfold restF
        rw [← eL, List.filter_filter, eL]
        refine List.filter_congr fun q hq => ?_
        have k1 := hK q
        have k2 := sub q
        by_cases a : q ∈ T
        · rw [decide_eq_true a, decide_eq_true (List.mem_append_left _ a)]; simp
        · by_cases b : q ∈ K
          · rw [decide_eq_true (List.mem_append_right _ b), decide_eq_true (k2.mpr (k1.mp b))]; simp
          · rw [decide_eq_false a, decide_eq_false (fun z => (List.mem_append.mp z).elim a b), decide_eq_false fun z => b (k1.mpr (k2.mp z))]; rfl
      have lr : (restF l p).length ≤ n := by
        have := rest_len (p := p) (r := rest.filter fun q => !decide (q ∈ T))
        rw [← el] at this
        rw [el, List.length_cons] at ln
        omega
      have pm : (compF l p).Perm K := (List.perm_ext_iff_of_nodup ((eL ▸ fnd.filter _ : l.Nodup).filter _) nd).mpr fun q => ((comp_memF (cs := l) (p := p)).trans (sub q)).trans (hK q).symm
      have lK : K.length = (compF l p).length := pm.length_eq.symm
      have lk36 : K.length ≤ 36 := Nat.le_trans (nodup_sub nd fun q hq => ((hK q).mp hq).mem.2) l36
      rw [es] at ep
      have sc : ∀ q ∈ compF l p, q.1 < 6 ∧ q.2 < 6 := fun q hq => sm q ((sub q).mp (comp_memF.mp hq)).mem.2
      have nc : compF l p ≠ [] := fun e => by
        have := comp_memF.mpr (LnkF.here hl)
        rw [e] at this; cases this
      have hc2 : ∀ q ∈ cs, q ∉ T ++ K → ∀ r ∈ cs, besF q r → r ∉ T ++ K := fun q hq nq r hr b z => by
        rcases List.mem_append.mp z with z | z
        · exact cl q hq (fun z => nq (List.mem_append_left _ z)) r hr b z
        · exact nq (List.mem_append_right _ ((hK q).mpr (.step ((hK r).mp z) hq b.symm)))
      have hT2 : ∀ q ∈ done ++ [p], q ∈ T ++ K := fun q hq => by
        rcases List.mem_append.mp hq with hq | hq
        · exact List.mem_append_left _ (hT q hq)
        · rw [List.mem_singleton.mp hq]; exact List.mem_append_right _ ((hK p).mpr (.here hp))
      refine ⟨fun z => ?_, fun z => ?_⟩
      · have ec : clipF K = clipF (compF l p) := (clip_congr nc sc fun q => pm.mem_iff).symm
        refine ⟨T ++ K, F ++ [clipF K], n, updL L0 ap (.lst (K.map cellD)), _, _, _, _, _, _, rfl, rfl, sb.over (sb.none h0p), by rw [updL_ne (Ne.symm ne)]; exact h0, hT2, hc2, by rw [er]; exact lr, by omega, by rw [List.length_append, List.length_singleton]; omega, by rw [List.length_append]; omega, ?_⟩
        rw [er, ep, List.filter_cons, if_pos (decide_eq_true (by omega)), List.map_cons, List.append_assoc, ec]; rfl
      · refine ⟨T ++ K, F, n, updL L0 ap (.lst (K.map cellD)), _, _, _, _, _, _, rfl, rfl, sb.over (sb.none h0p), by rw [updL_ne (Ne.symm ne)]; exact h0, hT2, hc2, by rw [er]; exact lr, by omega, by omega, by rw [List.length_append]; omega, ?_⟩
        rw [er, ep, List.filter_cons, if_neg (by simp; omega)]
    · rcases List.mem_append.mp hq with hq | hq
      · exact hT q hq
      · rw [List.mem_singleton.mp hq]; exact np
  · rintro ρ' L' ⟨T, F, n, L0, v3, v6, v7, v8, v9, v11, rfl, rfl, sb, h0, hT, cl, ln, n36, lF, lT, ep⟩
    have e0 : cs.filter (fun q => !decide (q ∈ T)) = [] := List.filter_eq_nil_iff.mpr fun q hq => by rw [decide_eq_true (hT q hq)]; decide
    have e1 : splitF n [] = [] := by cases n <;> rfl
    rw [e0, e1, List.filter_nil, List.map_nil, List.append_nil] at ep
    rw [ep] at h
    simp! []
    exact newL_fin (.inr h) haf sb h0
end
def tb_law_same_04c10c30 (n : Nat) (G : Gx) : AS := (aSeq (aIf (aTru (aCB (bIsi G.k.K) (aCons (aVar 1) (aCons (aC (.ty "tuple")) aNil)))) (aSeq (aIf (aOr (aNot (aTru (aCB (bIsi G.k.K) (aCons (aVar 0) (aCons (aC (.ty "tuple")) aNil))))) (aTest (aBin oNe (aCB bLen (aCons (aVar 0) aNil)) (aCB bLen (aCons (aVar 1) aNil))))) (aRet (aC (.bl false))) aNext) (aSeq (aFor (iRng rng1 (aCons (aCB bLen (aCons (aVar 1) aNil)) aNil)) (gN 2) (aIf (aNot (aTru (aCall (sp_law_same_04c10c30 n G) [] (aCons (aBin oIx (aVar 0) (aVar 2)) (aCons (aBin oIx (aVar 1) (aVar 2)) aNil))))) (aRet (aC (.bl false))) aNext)) (aRet (aC (.bl true))))) aNext) (aSeq (aIf (aTru (aCB (bIsi G.k.K) (aCons (aVar 1) (aCons (aC (.ty "str")) aNil)))) (aRet (aAndV (aCB (bIsi G.k.K) (aCons (aVar 0) (aCons (aC (.ty "str")) aNil))) (aBin oEq (aVar 0) (aVar 1)))) aNext) (aRet (aAndV (aCB (bIsi G.k.K) (aCons (aVar 0) (aCons (aC (.ty "int")) aNil))) (aAndV (aNotB (aCB (bIsi G.k.K) (aCons (aVar 0) (aCons (aC (.ty "bool")) aNil)))) (aBin oEq (aVar 0) (aVar 1)))))))
theorem rd_law_same_04c10c30 (G : Gx) (n : Nat) : Reads 3 (sp_law_same_04c10c30 (n + 1) G) (tb_law_same_04c10c30 n G) := by
  intro ds L P R ⟨d, e, hp, h⟩
  subst e
  unfold tb_law_same_04c10c30
  cases d
  case int i => simp! []; exact h
  case str i => simp! []; exact h
  case tup ds =>
    cases n with
    | zero => simp [pdeep] at hp
    | succ n =>
    obtain ⟨hl, hp⟩ := hp
    simp! []
    refine ⟨by omega, for_rng _ _ (fun i ρ' L' => ∃ v, ρ' = [some (.tup ds), some (.tup ds), v] ∧ L' = L) ⟨none, rfl, rfl⟩ (fun _ _ _ _ => trivial) ?_ ?_⟩
    · rintro i ρ' L' hi ⟨v, rfl, rfl⟩
      simp! [hi, ↓ixA_lt]
      refine same_ok (hp _ (List.getElem_mem hi)) ?_
      simp! []
      (first | exact ⟨_, rfl, rfl⟩ | exact ⟨_, rfl⟩ | exact ⟨_, _, rfl, rfl⟩ | exact ⟨_, _, rfl⟩ | exact ⟨_, _, _, rfl, rfl⟩ | exact ⟨_, _, _, rfl⟩ | exact ⟨_, _, _, _, rfl, rfl⟩ | exact ⟨_, _, _, _, rfl⟩)
    · rintro ρ' L' ⟨v, rfl, rfl⟩
      simp! []
      exact h
  all_goals (exact absurd hp (by simp [pdeep]))
def tb_Floor_value (G : Gx) : AS := (aRet (aTup (aCons (aC (.str "floor")) (aCons (aFld "_rows" 0 (aVar 0)) aNil))))
theorem rd_Floor_value (G : Gx) : Reads 1 (sp_Floor_value G) (tb_Floor_value G) := by
  rintro ds L P R ⟨rs, rfl, h⟩
  unfold tb_Floor_value
  simp! []
  exact h
def tb_law_told_87c2cc6e (G : Gx) : AS := (aSeq (aIf (aOr (aNot (aTru (aCB (bIsi G.k.K) (aCons (aVar 0) (aCons (aC (.ty "list")) aNil))))) (aTest (aBin oNe (aCB bLen (aCons (aVar 0) aNil)) (aCB bLen (aCons (aVar 1) aNil))))) (aRet (aC (.bl false))) aNext) (aSeq (aFor (iRng rng1 (aCons (aCB bLen (aCons (aVar 1) aNil)) aNil)) (gN 2) (aIf (aOr (aNot (aTru (aCB (bIsi G.k.K) (aCons (aBin oIx (aVar 0) (aVar 2)) (aCons (aC (.ref G.Floor)) aNil))))) (aNot (aTru (aCall (sp_law_same_04c10c30 6 G) [] (aCons (aMeth G.Floor (sp_Floor_value G) [] (aBin oIx (aVar 0) (aVar 2)) aNil) (aCons (aBin oIx (aVar 1) (aVar 2)) aNil)))))) (aRet (aC (.bl false))) aNext)) (aSeq (aDrop (aLm mReverse (aVar 0) aNil)) (aSeq (aDrop (aLm mAppend (aVar 0) (aCons (aC .non) aNil))) (aRet (aFrz G.k (aC (.bl true))))))))
theorem rd_law_told_87c2cc6e (G : Gx) : Reads 3 (sp_law_told_87c2cc6e G) (tb_law_told_87c2cc6e G) := by
  rintro ds L P R ⟨vs, a, L0, rfl, ha, hs, h0, ok, hl, h⟩
  unfold tb_law_told_87c2cc6e
  simp! [↓isi_r_list ha, ↓withL_of ha, ↓withSq_of ha, ↓seqI_of ha, ↓lmR_of ha, ↓lmB_of ha, ↓enuA_of ha]
  refine ⟨by omega, for_rng _ _ (fun i ρ' L' => ∃ v, ρ' = [some (.ref a), some (.lst (vs.map floorV)), v] ∧ L' = L) ⟨none, rfl, rfl⟩ (fun _ _ _ _ => trivial) ?_ ?_⟩
  · rintro i ρ' L' hi ⟨v, rfl, rfl⟩
    have e := List.getElem?_eq_getElem hi
    have okv := ok _ (List.getElem_mem hi)
    generalize vs[i] = w at *
    simp! [↓isi_r_list ha, ↓withL_of ha, ↓withSq_of ha, ↓seqI_of ha, ↓lmR_of ha, ↓lmB_of ha, ↓enuA_of ha, ↓ixA_map e, floorD]
    refine value_floor ?_
    simp! [↓ixA_map e]
    refine same_ok (G := G) (floorV_deep _ _ okv) ?_
    simp! []
    (first | exact ⟨_, rfl, rfl⟩ | exact ⟨_, rfl⟩ | exact ⟨_, _, rfl, rfl⟩ | exact ⟨_, _, rfl⟩ | exact ⟨_, _, _, rfl, rfl⟩ | exact ⟨_, _, _, rfl⟩ | exact ⟨_, _, _, _, rfl, rfl⟩ | exact ⟨_, _, _, _, rfl⟩)
  · rintro ρ' L' ⟨v, rfl, rfl⟩
    simp! [↓isi_r_list ha, ↓withL_of ha, ↓withSq_of ha, ↓seqI_of ha, ↓lmR_of ha, ↓lmB_of ha, ↓enuA_of ha]
    refine ⟨by dsimp! [], frz_sub (hs.over h0) h⟩
def tb_Floor_free (G : Gx) : AS := (aSeq (aSet 1 (aLstN newR aNil)) (aSeq (aFor (iEnB (aCons (aFld "_rows" 0 (aVar 0)) aNil)) (gT [2, 3]) (aDrop (aLm mExtend (aVar 1) (aCons (aLcN newD (iEnS (aCons (aVar 3) aNil)) (gT [4, 5]) (aTest (aBin oEq (aVar 5) (aC (.str ".")))) (aTup (aCons (aVar 2) (aCons (aVar 4) aNil))) [4, 5]) aNil)))) (aRet (aFrz G.k (aVar 1)))))
theorem freeTo_len {rs : Flo} (ok : okFloor rs) {n : Nat} (h : n ≤ 6) : (freeTo rs n).length ≤ 36 := by
  have h1 := List.length_filter_le (isFree rs) (cells n (wide rs))
  rw [cells_len] at h1
  have := Nat.mul_le_mul h ok.w.2
  unfold freeTo; omega
theorem rd_Floor_free (G : Gx) : Reads 6 (sp_Floor_free G) (tb_Floor_free G) := by
  rintro ds L P R ⟨rs, rfl, ok, h⟩
  unfold tb_Floor_free
  have hh := ok.h
  have hw := ok.w
  have eE : ("." : Str) = tx [46] := by decide +kernel
  simp! []
  intro a ha
  refine for_enu rs _ (fun i ρ' L' => ∃ u v w x, ρ' = [some (floorD G rs), some (.ref a), u, v, w, x] ∧ L' = updL L a (.lst ((freeTo rs i).map cellD))) ⟨none, none, none, none, rfl, rfl⟩ (fun _ _ _ _ => trivial) ?_ ?_
  · rintro i r ρ' L' hr ⟨u, v, w, x, rfl, rfl⟩
    obtain ⟨hi, rfl⟩ := List.getElem?_eq_some_iff.mp hr
    have hl := (ok.row hi).1
    rw [getD_row hi] at hl
    simp! [rowF]
    refine lc_filt _ _ (fun p => decide (p.1 = 46)) (fun p => cellD (i, p.2)) (by simp; rw [sizeLine_eq]; omega) trivial (fun p hp K1 K0 h1 h0 => ?_) ?_
    · simp! [eE, tx_inj]
      exact ⟨fun q => h1 (by simpa using q), fun q => h0 (by simpa using q)⟩
    · have hfr : ((rs[i].zipIdx.filter fun p => decide (p.1 = 46)).map fun p => cellD (i, p.2)) = (freeRow i rs[i]).map cellD := by unfold freeRow; rw [List.map_map]; rfl
      rw [hfr]
      have hfl := freeTo_len ok (show i + 1 ≤ 6 by omega)
      rw [freeTo_succ ok hi, List.length_append] at hfl
      simp! [↓lmB_of updL_same]
      refine ⟨by dsimp! [], _, _, _, _, rfl, ?_⟩
      rw [freeTo_succ ok hi, List.map_append]
  · rintro ρ' L' ⟨u, v, w, x, rfl, rfl⟩
    simp! []
    exact newL_fin h ha (Sub.refl L) ha
def tb_around (G : Gx) : AS := (aSeq (aAsgT (aVar 0) [1, 2]) (aRet (aLstN newS (aCons (aTup (aCons (aBin oSub (aVar 1) (aC (.int 1))) (aCons (aVar 2) aNil))) (aCons (aTup (aCons (aBin (oAddN newD) (aVar 1) (aC (.int 1))) (aCons (aVar 2) aNil))) (aCons (aTup (aCons (aVar 1) (aCons (aBin oSub (aVar 2) (aC (.int 1))) aNil))) (aCons (aTup (aCons (aVar 1) (aCons (aBin (oAddN newD) (aVar 2) (aC (.int 1))) aNil))) aNil)))))))
theorem rd_around (G : Gx) : Reads 3 (sp_around G) (tb_around G) := by
  rintro ds L P R ⟨a, b, rfl, h⟩
  unfold tb_around
  simp! []
  exact .inr h
def tb_joined (G : Gx) : AS := (aSeq (aSet 1 (aDict1T (aBin oIx (aVar 0) (aC (.int 0))) (aC (.bl true)))) (aSeq (aSet 2 (aLstN newR (aCons (aBin oIx (aVar 0) (aC (.int 0))) aNil))) (aSeq (aWhile (aTru (aVar 2)) (aFor (iSeq (aCall (sp_around G) [] (aCons (aLm mPop (aVar 2) aNil) aNil))) (gN 3) (aIf (aAnd (aTest (aBin (oInD false) (aVar 3) (aVar 0))) (aTest (aBin (oTin true) (aVar 3) (aVar 1)))) (aSeq (aTput (aVar 1) (aVar 3) (aC (.bl true))) (aDrop (aLm mAppend (aVar 2) (aCons (aVar 3) aNil)))) aNext))) (aRet (aFrz G.k (aCB (bListD newS) (aCons (aVar 1) aNil)))))))
theorem nodup_one (q : Nat × Nat) : [q].Nodup := List.pairwise_singleton ..
theorem rd_joined (G : Gx) : Reads 4 (sp_joined G) (tb_joined G) := by
  rintro ds L P R ⟨cs, p, r, rfl, ec, lc, h⟩
  unfold tb_joined
  have hp : p ∈ cs := by rw [ec]; exact List.mem_cons_self ..
  have ex : ∀ {L : Led} {P : PD} {lk : Lk P}, ixA (cs.map cellD) (0 : Int) L P lk = P (cellD p) L := fun {L P lk} => by rw [ec]; exact ixA_nat (j := 0) rfl
  simp! []
  rw [ex]
  refine dict1T_of (ckey_tk p) fun ad had => ?_
  simp! []
  rw [ex]
  intro ao hao
  have neo : ad ≠ ao := ne_led updL_same hao
  have hao' : L ao = none := by rw [updL_ne (Ne.symm neo)] at hao; exact hao
  refine ⟨fun m ρ' L' => ∃ (F O : List (Nat × Nat)) (v3 : Option DV), ρ' = [some (.lst (cs.map cellD)), some (.ref ad), some (.ref ao), v3] ∧ JoiF cs p F O [] ∧ L' ad = some (.dT (foundC F)) ∧ L' ao = some (.lst (O.map cellD)) ∧ (∀ a, a ≠ ad → a ≠ ao → L' a = L a) ∧ O.length ≤ F.length ∧ m = (cs.length - F.length) + O.length, ⟨_, [p], [p], _, rfl, ⟨nodup_one p, fun q hq => by rw [List.mem_singleton.mp hq]; exact .here hp, fun q hq => hq, List.mem_singleton.mpr rfl, fun q hq nq => absurd hq nq⟩, by rw [updL_ne neo]; exact updL_same, updL_same, fun a q1 q2 => by rw [updL_ne q2, updL_ne q1], Nat.le_refl _, rfl⟩, ?_⟩
  rintro m ρ' L' ⟨F, O, v3, rfl, I, hd, ho, fr, lo, rfl⟩
  simp! [↓isi_r_list ho, ↓withL_of ho, ↓withSq_of ho, ↓seqI_of ho, ↓lmR_of ho, ↓lmB_of ho, ↓enuA_of ho]
  rcases List.eq_nil_or_concat O with rfl | ⟨O, e, rfl⟩
  · refine ⟨fun z => (nomatch z), fun _ => ?_⟩
    refine lstDA_t hd ?_
    rw [foundC_keys]
    refine newL_under (fun a x e => ?_) (h F I.nd fun q => LnkF.closed I.root I.all fun q hq => I.clo q hq (by simp) (by simp))
    rw [fr a (fun z => by subst z; rw [had] at e; cases e) (fun z => by subst z; rw [hao'] at e; cases e)]
    exact e
  · rw [List.concat_eq_append] at I ho lo ⊢
    refine ⟨fun _ => ?_, fun z => by simp at z⟩
    rw [List.map_append]
    have pop : ∀ {P : PD}, P (cellD e) (updL L' ao (.lst (O.map cellD))) → mPop ao (O.map cellD ++ [e].map cellD) [] L' P := fun {P} h => by
      refine ⟨cellD e, ?_, ?_⟩
      · rw [List.length_append, List.length_map, List.length_map, List.getElem?_append_right (by simp)]
        simp
      · rw [List.map_singleton, List.dropLast_concat]; exact h
    refine pop ?_
    have hef : e ∈ F := I.sub e (by simp)
    have J : JoiF cs p F O [e] := ⟨I.nd, I.all, fun q hq => I.sub q (List.mem_append_left _ hq), I.root, fun q hq n1 n2 r hr b => I.clo q hq (fun z => by
      rcases List.mem_append.mp z with z | z
      · exact n1 z
      · exact n2 z) (by simp) r hr b⟩
    have hd2 : updL L' ao (.lst (O.map cellD)) ad = some (.dT (foundC F)) := by rw [updL_ne neo]; exact hd
    have fr2 : ∀ a, a ≠ ad → a ≠ ao → updL L' ao (.lst (O.map cellD)) a = L a := fun a q1 q2 => by rw [updL_ne q2]; exact fr a q1 q2
    have ho2 : updL L' ao (.lst (O.map cellD)) ao = some (.lst (O.map cellD)) := updL_same
    generalize updL L' ao (.lst (O.map cellD)) = L2 at hd2 fr2 ho2 ⊢
    refine ⟨(e.1 : Nat), (e.2 : Nat), rfl, ?_⟩
    simp! []
    have lF := I.len
    have ms : cs.length - F.length + O.length < cs.length - F.length + (O ++ [e]).length := by simp
    rw [List.length_append, List.length_singleton] at lo
    generalize cs.length - F.length + (O ++ [e]).length = m0 at ms ⊢
    refine for_pre [(((e.1 : Nat) : Int) - 1, ((e.2 : Nat) : Int)), (((e.1 : Nat) : Int) + 1, ((e.2 : Nat) : Int)), (((e.1 : Nat) : Int), ((e.2 : Nat) : Int) - 1), (((e.1 : Nat) : Int), ((e.2 : Nat) : Int) + 1)] (fun z : Int × Int => DV.tup [.int z.1, .int z.2]) (fun D ρ' L' => ∃ (F O : List (Nat × Nat)) (v3 : Option DV), ρ' = [some (.lst (cs.map cellD)), some (.ref ad), some (.ref ao), v3] ∧ JoiF cs p F O [e] ∧ e ∈ F ∧ (∀ q ∈ cs, ((((q.1 : Nat) : Int), ((q.2 : Nat) : Int)) : Int × Int) ∈ D → q ∈ F) ∧ L' ad = some (.dT (foundC F)) ∧ L' ao = some (.lst (O.map cellD)) ∧ (∀ a, a ≠ ad → a ≠ ao → L' a = L a) ∧ O.length ≤ F.length ∧ cs.length - F.length + O.length < m0) ⟨F, O, _, rfl, J, hef, fun _ _ z => (nomatch z), hd2, ho2, fr2, by omega, ms⟩ (fun _ _ _ _ => trivial) ?_ ?_
    · rintro D z rest ρ' L3 ej ⟨F, O, v3, rfl, J, hef, hD, hd3, ho3, fr3, lo, ms⟩
      have hz : z ∈ [(((e.1 : Nat) : Int) - 1, ((e.2 : Nat) : Int)), (((e.1 : Nat) : Int) + 1, ((e.2 : Nat) : Int)), (((e.1 : Nat) : Int), ((e.2 : Nat) : Int) - 1), (((e.1 : Nat) : Int), ((e.2 : Nat) : Int) + 1)] := by rw [ej]; simp
      have bz : ∀ q : Nat × Nat, z = (((q.1 : Nat) : Int), ((q.2 : Nat) : Int)) → besF e q := fun q eq => by
        subst eq
        simp only [List.mem_cons, Prod.mk.injEq, List.not_mem_nil, or_false] at hz
        unfold besF
        omega
      have en : ∀ a b : Int, plS 1 (.tup [.int a, .int b]) := by
        intro a b y hy
        simp at hy
        rcases hy with rfl | rfl <;> trivial
      simp! []
      refine inDA_l (n := 1) (en _ _) (fun y hy => by obtain ⟨q, _, rfl⟩ := List.mem_map.mp hy; exact en _ _) (by omega) ?_
      simp! []
      refine ⟨fun hm => ?_, fun hm => ⟨F, O, _, rfl, J, hef, fun q hq hz => ?_, hd3, ho3, fr3, lo, ms⟩⟩
      · obtain ⟨q, hq, eq⟩ := List.mem_map.mp hm
        have ez : z = (((q.1 : Nat) : Int), ((q.2 : Nat) : Int)) := by
          simp only [cellD, DV.tup.injEq, List.cons.injEq, DV.int.injEq, and_true] at eq
          exact Prod.ext eq.1.symm eq.2.symm
        have bq := bz q ez
        subst ez
        simp! [↓tin_of hd3 (show TK (.tup [.int ((q.1 : Nat) : Int), .int ((q.2 : Nat) : Int)]) (ckey q) from ckey_tk q), foundC_val]
        refine ⟨fun nj => ?_, fun hjF => ⟨F, O, _, rfl, J, hef, fun q' hq' hz' => ?_, hd3, ho3, fr3, lo, ms⟩⟩
        · have J2 : JoiF cs p (F ++ [q]) (O ++ [q]) [e] := by
            refine ⟨?_, fun x hx => ?_, fun x hx => ?_, List.mem_append_left _ J.root, fun x hx n1 n2 r hr b => ?_⟩
            · exact List.nodup_append.mpr ⟨J.nd, nodup_one q, fun a ha b hb => by rw [List.mem_singleton.mp hb]; exact fun z => nj (z ▸ ha)⟩
            · rcases List.mem_append.mp hx with hx | hx
              · exact J.all x hx
              · rw [List.mem_singleton.mp hx]; exact .step (J.all e hef) hq bq
            · rcases List.mem_append.mp hx with hx | hx
              · exact List.mem_append_left _ (J.sub x hx)
              · exact List.mem_append_right _ hx
            · rcases List.mem_append.mp hx with hx | hx
              · exact List.mem_append_left _ (J.clo x hx (fun z => n1 (List.mem_append_left _ z)) n2 r hr b)
              · exact absurd (List.mem_append_right _ hx) n1
          have lF := J2.len
          rw [List.length_append, List.length_singleton] at lF
          rw [tput_of hd3 (show TK (.tup [.int ((q.1 : Nat) : Int), .int ((q.2 : Nat) : Int)]) (ckey q) from ckey_tk q) (by rw [sizeLine_eq]; unfold foundC; rw [List.length_map]; omega), foundC_put nj]
          have ho4 : updL L3 ad (.dT (foundC (F ++ [q]))) ao = some (.lst (O.map cellD)) := by rw [updL_ne (Ne.symm neo)]; exact ho3
          simp! [↓isi_r_list ho4, ↓withL_of ho4, ↓withSq_of ho4, ↓seqI_of ho4, ↓lmR_of ho4, ↓lmB_of ho4, ↓enuA_of ho4]
          refine ⟨by rw [sizeLine_eq]; omega, ?_⟩
          refine ⟨F ++ [q], O ++ [q], _, rfl, J2, List.mem_append_left _ hef, fun q' hq' hz' => ?_, ?_, by rw [List.map_append]; rfl, fun a q1 q2 => ?_, ?_, ?_⟩
          · rcases List.mem_append.mp hz' with hz' | hz'
            · exact List.mem_append_left _ (hD q' hq' hz')
            · have := List.mem_singleton.mp hz'
              have e1 := congrArg Prod.fst this
              have e2 := congrArg Prod.snd this
              have : q' = q := Prod.ext (Int.ofNat_inj.mp e1) (Int.ofNat_inj.mp e2)
              rw [this]; exact List.mem_append_right _ (List.mem_singleton.mpr rfl)
          · rw [updL_ne neo]; exact updL_same
          · rw [updL_ne q2, updL_ne q1]; exact fr3 a q1 q2
          · simp; exact lo
          · have q1 : (F ++ [q]).length = F.length + 1 := by simp
            have q2 : (O ++ [q]).length = O.length + 1 := by simp
            rw [q1, q2]; omega
        · rcases List.mem_append.mp hz' with hz' | hz'
          · exact hD q' hq' hz'
          · have := List.mem_singleton.mp hz'
            have e1 := congrArg Prod.fst this
            have e2 := congrArg Prod.snd this
            have : q' = q := Prod.ext (Int.ofNat_inj.mp e1) (Int.ofNat_inj.mp e2)
            rw [this]; exact hjF
      · rcases List.mem_append.mp hz with hz | hz
        · exact hD q hq hz
        · refine absurd ?_ hm
          rw [← List.mem_singleton.mp hz]
          exact List.mem_map_of_mem (f := cellD) hq
    · rintro ρ' L3 ⟨F, O, v3, rfl, J, hef, hD, hd3, ho3, fr3, lo, ms⟩
      refine ⟨_, ms, F, O, _, rfl, ⟨J.nd, J.all, J.sub, J.root, fun q hq n1 _ r hr b => ?_⟩, hd3, ho3, fr3, lo, rfl⟩
      by_cases z : q = e
      · subst z
        refine hD r hr ?_
        unfold besF at b
        simp only [List.mem_cons, Prod.mk.injEq, List.not_mem_nil, or_false]
        omega
      · exact J.clo q hq n1 (by simpa using z) r hr b
def tb_clipped (G : Gx) : AS := (aSeq (aSet 2 (aLcN newD (iSeq (aVar 0)) (gN 1) aYes (aBin oIx (aVar 1) (aC (.int 0))) [1])) (aSeq (aSet 3 (aLcN newD (iSeq (aVar 0)) (gN 1) aYes (aBin oIx (aVar 1) (aC (.int 1))) [1])) (aSeq (aSet 4 (aLstN newR aNil)) (aSeq (aFor (iRng rng2 (aCons (aCB bMinL (aCons (aVar 2) aNil)) (aCons (aBin (oAddN newD) (aCB bMaxL (aCons (aVar 2) aNil)) (aC (.int 1))) aNil))) (gN 5) (aDrop (aLm mAppend (aVar 4) (aCons (aSm1 sJoin (aC (.str "")) (aLcN newD (iRng rng2 (aCons (aCB bMinL (aCons (aVar 3) aNil)) (aCons (aBin (oAddN newD) (aCB bMaxL (aCons (aVar 3) aNil)) (aC (.int 1))) aNil))) (gN 6) aYes (aBin oIx (aC (.str "#.")) (aCB bInt (aCons (aBin (oInD false) (aTup (aCons (aVar 5) (aCons (aVar 6) aNil))) (aVar 0)) aNil))) [6])) aNil)))) (aRet (aFrz G.k (aVar 4)))))))
theorem rd_clipped (G : Gx) : Reads 7 (sp_clipped G) (tb_clipped G) := by
  rintro ds L P R ⟨ps, rfl, ne, s, lp, h⟩
  unfold tb_clipped
  have x := box_of ne s
  have e0 := clip_box s x fun _ => Iff.rfl
  simp! []
  refine lc_map ps cellD (fun p => .int ((p.1 : Nat) : Int)) (by rw [sizeLine_eq]; omega) trivial (fun p hp K1 k1 => ?_) ?_
  · simp! [cellD]
    exact k1
  simp! []
  refine lc_map ps cellD (fun p => .int ((p.2 : Nat) : Int)) (by rw [sizeLine_eq]; omega) trivial (fun p hp K1 k1 => ?_) ?_
  · simp! [cellD]
    exact k1
  have n1 : ps.map (fun p => p.1) ≠ [] := by simpa using ne
  have n2 : ps.map (fun p => p.2) ≠ [] := by simpa using ne
  have mi1 : ∀ {L : Led} {P : PD} {lk : Lk P}, P (.int ((mnL (ps.map (·.1)) : Nat) : Int)) L → minA (ps.map fun p => DV.int ((p.1 : Nat) : Int)) L P lk := fun {L P lk} h => by
    have := minA_of (lk := lk) (ns := (ps.map (·.1)).map fun n => ((n : Nat) : Int)) (m := ((mnL (ps.map (·.1)) : Nat) : Int)) (List.mem_map_of_mem (mnL_in n1 fun x hx => by obtain ⟨q, hq, rfl⟩ := List.mem_map.mp hx; have := s q hq; omega)) (fun y hy => by obtain ⟨z, hz, rfl⟩ := List.mem_map.mp hy; have := mnL_le hz; omega) h
    rw [List.map_map, List.map_map] at this
    exact this
  have mi2 : ∀ {L : Led} {P : PD} {lk : Lk P}, P (.int ((mnL (ps.map (·.2)) : Nat) : Int)) L → minA (ps.map fun p => DV.int ((p.2 : Nat) : Int)) L P lk := fun {L P lk} h => by
    have := minA_of (lk := lk) (ns := (ps.map (·.2)).map fun n => ((n : Nat) : Int)) (m := ((mnL (ps.map (·.2)) : Nat) : Int)) (List.mem_map_of_mem (mnL_in n2 fun x hx => by obtain ⟨q, hq, rfl⟩ := List.mem_map.mp hx; have := s q hq; omega)) (fun y hy => by obtain ⟨z, hz, rfl⟩ := List.mem_map.mp hy; have := mnL_le hz; omega) h
    rw [List.map_map, List.map_map] at this
    exact this
  have ma1 : ∀ {L : Led} {P : PD} {lk : Lk P}, P (.int ((mxL (ps.map (·.1)) : Nat) : Int)) L → maxA (ps.map fun p => DV.int ((p.1 : Nat) : Int)) L P lk := fun {L P lk} h => by
    have := maxA_of (lk := lk) (ns := (ps.map (·.1)).map fun n => ((n : Nat) : Int)) (m := ((mxL (ps.map (·.1)) : Nat) : Int)) (List.mem_map_of_mem (mxL_in n1)) (fun y hy => by obtain ⟨z, hz, rfl⟩ := List.mem_map.mp hy; have := mxL_le hz; omega) h
    rw [List.map_map, List.map_map] at this
    exact this
  have ma2 : ∀ {L : Led} {P : PD} {lk : Lk P}, P (.int ((mxL (ps.map (·.2)) : Nat) : Int)) L → maxA (ps.map fun p => DV.int ((p.2 : Nat) : Int)) L P lk := fun {L P lk} h => by
    have := maxA_of (lk := lk) (ns := (ps.map (·.2)).map fun n => ((n : Nat) : Int)) (m := ((mxL (ps.map (·.2)) : Nat) : Int)) (List.mem_map_of_mem (mxL_in n2)) (fun y hy => by obtain ⟨z, hz, rfl⟩ := List.mem_map.mp hy; have := mxL_le hz; omega) h
    rw [List.map_map, List.map_map] at this
    exact this
  have e1 : ∀ a h : Nat, (((a + h : Nat) : Int) + 1 - ((a : Nat) : Int)).toNat = h + 1 := fun a h => by omega
  have lt := x.lt s
  have up1 : mnL (ps.map (·.1)) + (mxL (ps.map (·.1)) - mnL (ps.map (·.1))) = mxL (ps.map (·.1)) := by
    have := mxL_le (mnL_in n1 fun x hx => by obtain ⟨q, hq, rfl⟩ := List.mem_map.mp hx; have := s q hq; omega)
    omega
  have up2 : mnL (ps.map (·.2)) + (mxL (ps.map (·.2)) - mnL (ps.map (·.2))) = mxL (ps.map (·.2)) := by
    have := mxL_le (mnL_in n2 fun x hx => by obtain ⟨q, hq, rfl⟩ := List.mem_map.mp hx; have := s q hq; omega)
    omega
  rw [e0] at h
  rw [← up1] at ma1
  rw [← up2] at ma2
  simp! []
  intro af haf
  refine mi1 (ma1 ?_)
  generalize mnL (ps.map (·.1)) = a at *
  generalize mnL (ps.map (·.2)) = b at *
  generalize mxL (ps.map (·.1)) - a = hh at *
  generalize mxL (ps.map (·.2)) - b = w at *
  simp! []
  rw [e1]
  have eH : ("#." : Str) = tx [35, 46] := by decide +kernel
  have eN : ("" : Str) = tx [] := by decide +kernel
  have rd : ∀ (a n : Nat), rangeD ((a : Nat) : Int) n = (List.range n).map fun i => DV.int ((a + i : Nat) : Int) := fun a n => by
    unfold rangeD
    refine List.map_congr_left fun i _ => ?_
    rw [Int.natCast_add]
  rw [rd]
  refine ⟨by omega, for_rng (hh + 1) _ (fun i ρ' L' => ∃ v5, ρ' = [some (DV.lst (List.map cellD ps)), none, some (DV.lst (List.map (fun p => DV.int ↑p.fst) ps)), some (DV.lst (List.map (fun p => DV.int ↑p.snd) ps)), some (DV.ref af), v5, none] ∧ L' = updL L af (.lst (((boxF ps a b hh w).take i).map rowF))) ⟨_, rfl, rfl⟩ (fun _ _ _ _ => trivial) ?_ ?_⟩
  · rintro i ρ' L' hi ⟨v5, rfl, rfl⟩
    simp! []
    refine mi2 (ma2 ?_)
    simp! []
    rw [e1, rd]
    refine ⟨by omega, lc_map (List.range (w + 1)) _ (fun j => DV.str (tx [if (a + i, b + j) ∈ ps then 46 else 35])) (by rw [List.length_range, sizeLine_eq]; omega) trivial (fun j hj K1 k1 => ?_) ?_⟩
    · have en : ∀ a b : Int, plS 1 (.tup [.int a, .int b]) := by
        intro a b y hy
        simp at hy
        rcases hy with rfl | rfl <;> trivial
      simp! []
      refine inDA_l (n := 1) (en _ _) (fun y hy => by obtain ⟨q, _, rfl⟩ := List.mem_map.mp hy; exact en _ _) (by omega) ?_
      simp only [cellD_mem]
      simp! [eH, oIx_s]
      by_cases z : (a + i, b + j) ∈ ps
      · rw [if_pos z] at k1 ⊢
        rw [sxA_of (c := 46) (by decide) rfl]
        exact k1
      · rw [if_neg z] at k1 ⊢
        rw [sxA_of (c := 35) (by decide) rfl]
        exact k1
    · have em : (List.range (w + 1)).map (fun j => DV.str (tx [if (a + i, b + j) ∈ ps then 46 else 35])) = ((List.range (w + 1)).map fun j => if (a + i, b + j) ∈ ps then 46 else 35).map fun c => DV.str (tx [c]) := by rw [List.map_map]; rfl
      rw [em]
      simp! [eN]
      rw [joinA_signs (by simp; omega)]
      have bl := box_len (c := ps) (a := a) (b := b) (h := hh) (w := w)
      have at_ : (boxF ps a b hh w)[i]? = some ((List.range (w + 1)).map fun j => if (a + i, b + j) ∈ ps then 46 else 35) := by
        unfold boxF
        rw [List.getElem?_map, List.getElem?_range hi]; rfl
      simp! [↓lmB_of updL_same]
      refine ⟨by simp [sizeLine_eq]; omega, _, rfl, ?_⟩
      rw [take_more at_, List.map_append]
      rfl
  · rintro ρ' L' ⟨v5, rfl, rfl⟩
    simp! []
    rw [← box_len (c := ps) (a := a) (b := b) (h := hh) (w := w), List.take_length]
    exact newL_fin (.inr h) haf (Sub.refl L) haf
def tb_Floor_parts (G : Gx) : AS := (aSeq (aSet 1 (aMeth G.Floor (sp_Floor_free G) [] (aVar 0) aNil)) (aSeq (aSet 2 (aLstN newR aNil)) (aSeq (aWhile (aTru (aVar 1)) (aSeq (aSet 3 (aCall (sp_joined G) [] (aCons (aVar 1) aNil))) (aSeq (aSet 1 (aLcN newD (iSeq (aVar 1)) (gN 4) (aTest (aBin (oInD true) (aVar 4) (aVar 3))) (aVar 4) [4])) (aIf (aTest (aBin oGt (aCB bLen (aCons (aVar 3) aNil)) (aC (.int 1)))) (aDrop (aLm mAppend (aVar 2) (aCons (aMake (mk1_Floor_init G) (aCons (aCall (sp_clipped G) [] (aCons (aVar 3) aNil)) aNil)) aNil))) aNext)))) (aRet (aFrz G.k (aVar 2))))))
section
open Classical
theorem rd_Floor_parts (G : Gx) : Reads 5 (sp_Floor_parts G) (tb_Floor_parts G) := by
  rintro ds L P R ⟨rs, rfl, ok, h⟩
  unfold tb_Floor_parts
  have l36 := freeF_len ok
  have en : ∀ p : Nat × Nat, plS 1 (cellD p) := by
    intro p y hy
    simp at hy
    rcases hy with rfl | rfl <;> trivial
  have cm : ∀ {q : Nat × Nat} {l : List (Nat × Nat)}, cellD q ∈ l.map cellD ↔ q ∈ l := fun {q l} => cellD_mem
  simp! []
  refine ⟨rs, rfl, ok, .inr ?_⟩
  simp! []
  intro af haf
  refine ⟨fun m ρ' L' => ∃ (l : List (Nat × Nat)) (F : List Flo) (n : Nat) (v3 v4 : Option DV) (L0 : Led), ρ' = [some (floorD G rs), some (.lst (l.map cellD)), some (.ref af), v3, v4] ∧ L' = updL L0 af (.lst (F.map (floorD G))) ∧ Sub L L0 ∧ L0 af = none ∧ l.Nodup ∧ l.length ≤ n ∧ n ≤ 36 ∧ F.length + n ≤ 36 ∧ (∀ q ∈ l, q.1 < 6 ∧ q.2 < 6) ∧ partsF rs = F ++ ((splitF n l).filter fun c => decide (1 < c.length)).map clipF ∧ m = n, ⟨36, freeF rs, [], 36, _, _, L, rfl, rfl, Sub.refl L, haf, free_nodup, l36, Nat.le_refl _, Nat.le_refl _, free_small ok, rfl, rfl⟩, ?_⟩
  rintro m ρ' L' ⟨l, F, n, v3, v4, L0, rfl, rfl, sb, h0, nd, ln, n36, lF, sm, ep, rfl⟩
  simp! []
  cases l with
  | nil =>
    refine ⟨fun z => (nomatch z), fun _ => ?_⟩
    have e0 : splitF m [] = [] := by cases m <;> rfl
    rw [e0, List.filter_nil, List.map_nil, List.append_nil] at ep
    rw [ep] at h
    exact newL_fin h haf sb h0
  | cons p r =>
    refine ⟨fun _ => ?_, fun z => (nomatch z)⟩
    obtain ⟨n, rfl⟩ : ∃ n, m = n + 1 := ⟨m - 1, by rw [List.length_cons] at ln; omega⟩
    generalize el : p :: r = l at *
    refine ⟨l, p, r, rfl, el.symm, by omega, fun fs fnd fm => .inr ?_⟩
    have pm : (compF l p).Perm fs := (List.perm_ext_iff_of_nodup (nd.filter _) fnd).mpr fun q => (comp_memF (cs := l) (p := p)).trans (fm q).symm
    have lfs : fs.length = (compF l p).length := pm.length_eq.symm
    have lc : (compF l p).length ≤ 36 := Nat.le_trans (List.length_filter_le _ _) (by omega)
    have ne : compF l p ≠ [] := fun e => by
      have := comp_memF.mpr (LnkF.here (cs := l) (p := p) (by rw [← el]; exact List.mem_cons_self ..))
      rw [e] at this; cases this
    have sc : ∀ q ∈ compF l p, q.1 < 6 ∧ q.2 < 6 := fun q hq => sm q (comp_memF.mp hq).mem.2
    have es : splitF (n + 1) l = compF l p :: splitF n (restF l p) := by rw [← el]; rfl
    have lr : (restF l p).length ≤ n := by
      have := rest_len (p := p) (r := r)
      rw [el] at this
      rw [← el, List.length_cons] at ln
      omega
    rw [es] at ep
    simp! []
    refine lc_filt l cellD (fun q => !decide (LnkF l p q)) cellD (by rw [sizeLine_eq]; omega) trivial (fun q hq K1 K0 g1 g0 => ?_) ?_
    · simp! []
      refine inDA_l (n := 1) (en q) (fun y hy => by obtain ⟨z, _, rfl⟩ := List.mem_map.mp hy; exact en z) (by omega) ?_
      simp only [cm, fm]
      simp! []
      refine ⟨fun z => g1 (by rw [decide_eq_false z]; rfl), fun z => g0 (by rw [decide_eq_true z]; rfl)⟩
    · rw [show l.filter (fun q => !decide (LnkF l p q)) = restF l p from rfl]
      have smr : ∀ q ∈ restF l p, q.1 < 6 ∧ q.2 < 6 := fun q hq => sm q (rest_memF.mp hq).1
      simp! []
      refine ⟨fun z => ?_, fun z => ⟨n, by omega, restF l p, F, n, _, _, L0, rfl, rfl, sb, h0, nd.filter _, lr, by omega, by omega, smr, ?_, rfl⟩⟩
      · have nf : fs ≠ [] := fun e => by rw [e] at z; simp at z
        have sf : ∀ q ∈ fs, q.1 < 6 ∧ q.2 < 6 := fun q hq => sc q (pm.mem_iff.mpr hq)
        refine ⟨fs, rfl, nf, sf, by omega, ?_⟩
        have ec : clipF fs = clipF (compF l p) := (clip_congr ne sc fun q => pm.mem_iff).symm
        rw [ec]
        refine mk_floor (l1 := .mk) (l2 := .mk) (clip_ok ne sc) ?_
        simp! [↓lmB_of updL_same]
        refine ⟨by rw [sizeLine_eq]; omega, n, by omega, restF l p, F ++ [clipF (compF l p)], n, _, _, L0, rfl, ?_, sb, h0, nd.filter _, lr, by omega, by rw [List.length_append, List.length_singleton]; omega, smr, ?_, rfl⟩
        · rw [List.map_append]; rfl
        · rw [ep, List.filter_cons, if_pos (decide_eq_true (by omega)), List.map_cons, List.append_assoc]; rfl
      · rw [ep, List.filter_cons, if_neg (by simp; omega)]

end
def tb_law_covered_27bf77b2 (G : Gx) : AS := (aSeq (aSet 3 (aBin oIx (aVar 0) (aVar 1))) (aRet (aBin (oAddN newS) (aBin (oAddN newD) (aSlN newD (aVar 0) aNoPart (aPart (aVar 1))) (aTup (aCons (aBin (oAddN newD) (aBin (oAddN newD) (aSlN newD (aVar 3) aNoPart (aPart (aVar 2))) (aC (.str "#"))) (aSlN newD (aVar 3) (aPart (aBin (oAddN newD) (aVar 2) (aC (.int 1)))) aNoPart)) aNil))) (aSlN newD (aVar 0) (aPart (aBin (oAddN newD) (aVar 1) (aC (.int 1)))) aNoPart))))
theorem rd_law_covered_27bf77b2 (G : Gx) : Reads 4 (sp_law_covered_27bf77b2 G) (tb_law_covered_27bf77b2 G) := by
  rintro ds L P R ⟨rs, i, j, rfl, ok, hi, hj, h⟩
  unfold tb_law_covered_27bf77b2
  have e : (rs.map rowF)[i]? = some (rowF (rs.getD i [])) := by rw [List.getElem?_map, getD_row hi, List.getElem?_eq_getElem hi]; rfl
  have e35 : ("#" : Str) = tx [35] := by decide +kernel
  obtain ⟨hl, _⟩ := ok.row hi
  have := ok.h
  have := ok.w
  have hl2 : (rs.getD i []).length ≤ 6 := by omega
  simp! [↓ixA_nat e, rowF, e35]
  have e1 : List.take j (List.getD rs i []) ++ [35] ++ List.drop (j + 1) (List.getD rs i []) = (rs.getD i []).set j 35 := by
    rw [List.set_eq_take_append_cons_drop, if_pos (by omega)]; simp
  have e2 : List.take i (List.map rowF rs) ++ [DV.str (tx ((rs.getD i []).set j 35))] ++ List.drop (i + 1) (List.map rowF rs) = (cover rs i j).map rowF := by
    unfold cover
    generalize (rs.getD i []).set j 35 = r'
    rw [List.map_set, List.set_eq_take_append_cons_drop, if_pos (by simpa using hi)]; simp [rowF]
  rw [e1, e2]
  refine ⟨by rw [sizeLine_eq]; omega, by rw [sizeLine_eq, List.length_take]; omega, by rw [sizeLine_eq]; omega, by rw [sizeLine_eq, List.length_take, List.length_drop]; omega, by dsimp! [], by dsimp! [], h⟩
def tb_law_floor_moves_d092ad0b_1 (G : Gx) : AS := (aSeq (aSet 3 (aLstN newR aNil)) (aSeq (aFor (iRng rng1 (aCons (aBin oSub (aCB bLen (aCons (aVar 0) aNil)) (aVar 2)) aNil)) (gN 4) (aFor (iRng rng1 (aCons (aBin (oAddN newD) (aBin oSub (aCB bLen (aCons (aBin oIx (aVar 0) (aC (.int 0))) aNil)) (aC (.int 1))) (aVar 2)) aNil)) (gN 5) (aIf (aAnd (aTest (aBin oEq (aBin oIx (aBin oIx (aVar 0) (aVar 4)) (aVar 5)) (aC (.str ".")))) (aTest (aBin oEq (aBin oIx (aBin oIx (aVar 0) (aBin (oAddN newD) (aVar 4) (aVar 2))) (aBin oSub (aBin (oAddN newD) (aVar 5) (aC (.int 1))) (aVar 2))) (aC (.str "."))))) (aSeq (aSet 6 (aCall (sp_law_covered_27bf77b2 G) [] (aCons (aVar 0) (aCons (aVar 4) (aCons (aVar 5) aNil))))) (aDrop (aLm mAppend (aVar 3) (aCons (aTup (aCons (aC (.str "floor")) (aCons (aCall (sp_law_covered_27bf77b2 G) [] (aCons (aVar 6) (aCons (aBin (oAddN newD) (aVar 4) (aVar 2)) (aCons (aBin oSub (aBin (oAddN newD) (aVar 5) (aC (.int 1))) (aVar 2)) aNil)))) aNil))) aNil)))) aNext))) (aRet (aFrz G.k (aVar 3)))))
def tb_law_floor_moves_d092ad0b (G : Gx) : AS := (aSeq (aSet 2 (aIfE (aTest (aBin oEq (aVar 1) (aC (.str "left")))) (aC (.int 1)) (aC (.int 0)))) (tb_law_floor_moves_d092ad0b_1 G))
/-- the moves of the first n rows, then of k cells of the next row -/
def lawTo (b : Bool) (rs : Flo) (ps : List (Nat × Nat)) : List Flo := (ps.filter fun p => isFree rs p && isFree rs (nextC b p)).map (layF rs b)
theorem lawTo_app {b : Bool} {rs : Flo} {ps qs : List (Nat × Nat)} : lawTo b rs (ps ++ qs) = lawTo b rs ps ++ lawTo b rs qs := by
  unfold lawTo; rw [List.filter_append, List.map_append]
theorem lawTo_one {b : Bool} {rs : Flo} {p : Nat × Nat} : lawTo b rs [p] = if isFree rs p = true ∧ isFree rs (nextC b p) = true then [layF rs b p] else [] := by
  unfold lawTo
  by_cases h1 : isFree rs p <;> by_cases h2 : isFree rs (nextC b p) <;> simp [List.filter, h1, h2]
def rowC (i w : Nat) : List (Nat × Nat) := (List.range w).map fun j => (i, j)
theorem rowC_succ {i w : Nat} : rowC i (w + 1) = rowC i w ++ [(i, w)] := by unfold rowC; rw [List.range_succ, List.map_append]; rfl
theorem cells_succ {h w : Nat} : cells (h + 1) w = cells h w ++ rowC h w := by
  unfold cells rowC; rw [List.range_succ, List.flatMap_append]; simp
theorem lawTo_none {b : Bool} {rs : Flo} {ps : List (Nat × Nat)} (h : ∀ p ∈ ps, isFree rs (nextC b p) = false) : lawTo b rs ps = [] := by
  unfold lawTo
  rw [List.filter_eq_nil_iff.mpr fun p hp => by rw [h p hp]; simp]; rfl
theorem lawTo_all {b : Bool} {rs : Flo} : lawTo b rs (cells rs.length (wide rs)) = floorMoves b rs := by
  unfold lawTo floorMoves freeF
  rw [List.filter_filter]
  congr 1
  apply List.filter_congr
  intro p _
  exact Bool.and_comm ..
theorem notFree {rs : Flo} (ok : okFloor rs) {p : Nat × Nat} (h : rs.length ≤ p.1 ∨ wide rs ≤ p.2) : isFree rs p = false := by
  cases e : isFree rs p with
  | false => rfl
  | true => have := isFree_in ok e; omega
theorem law_cells {b : Bool} {rs : Flo} (ok : okFloor rs) : lawTo b rs (cells (rs.length - downF b) (wide rs - 1 + downF b)) = floorMoves b rs := by
  have hh := ok.h
  have hw := ok.w
  rw [← lawTo_all]
  cases b
  · show lawTo false rs (cells (rs.length - 0) (wide rs - 1 + 0)) = _
    have hr : ∀ n, lawTo false rs (cells n (wide rs - 1)) = lawTo false rs (cells n (wide rs)) := by
      intro n
      induction n with
      | zero => rfl
      | succ n ih =>
        rw [cells_succ, cells_succ, lawTo_app, lawTo_app, ih]
        congr 1
        obtain ⟨w, e⟩ : ∃ w, wide rs = w + 1 := ⟨wide rs - 1, by omega⟩
        rw [e, Nat.add_sub_cancel, rowC_succ, lawTo_app, lawTo_none (ps := [(n, w)]), List.append_nil]
        intro p hp
        rw [List.mem_singleton] at hp
        subst hp
        exact notFree ok (.inr (by show wide rs ≤ w + 1; omega))
    exact hr _
  · show lawTo true rs (cells (rs.length - 1) (wide rs - 1 + 1)) = _
    obtain ⟨n, e⟩ : ∃ n, rs.length = n + 1 := ⟨rs.length - 1, by omega⟩
    rw [Nat.sub_add_cancel hw.1, e, Nat.add_sub_cancel, cells_succ, lawTo_app, lawTo_none (ps := rowC n (wide rs)), List.append_nil]
    intro p hp
    obtain ⟨j, _, rfl⟩ := List.mem_map.mp hp
    exact notFree ok (.inl (by show rs.length ≤ n + 1; omega))
theorem rd_law_floor_moves_d092ad0b (G : Gx) : Reads 7 (sp_law_floor_moves_d092ad0b G) (tb_law_floor_moves_d092ad0b G) := by
  rintro ds L P R ⟨rs, b, rfl, ok, h⟩
  unfold tb_law_floor_moves_d092ad0b
  have hh := ok.h
  have hw := ok.w
  have e46 : ("." : Str) = tx [46] := by decide +kernel
  have er0 : (rs.map rowF)[0]? = some (rowF (rs.getD 0 [])) := by rw [List.getElem?_map, getD_row (by omega), List.getElem?_eq_getElem (by omega)]; rfl
  have hl0 : (rs.getD 0 []).length = wide rs := (ok.row (by omega)).1
  have go : ∀ AD, AD = ⟨fun _ L => P .non L, P, fun _ _ => False, fun _ _ => False, fun c _ L => R c L⟩ → tb_law_floor_moves_d092ad0b_1 G AD [some (.tup (rs.map rowF)), some (.str (sideS b)), some (.int (downF b : Nat)), none, none, none, none] L := by
    rintro AD rfl
    unfold tb_law_floor_moves_d092ad0b_1
    have hd : downF b ≤ 1 := by unfold downF; split <;> omega
    simp! []
    intro a ha
    refine ⟨by omega, ?_⟩
    rw [show ((rs.length : Int) - (downF b : Nat)).toNat = rs.length - downF b by omega]
    refine for_rng _ _ (fun i ρ' L' => ∃ u v w L0, ρ' = [some (.tup (rs.map rowF)), some (.str (sideS b)), some (.int (downF b : Nat)), some (.ref a), u, v, w] ∧ L' = updL L0 a (.lst ((lawTo b rs (cells i (wide rs - 1 + downF b))).map floorV)) ∧ Sub L L0 ∧ L0 a = none) ⟨none, none, none, L, rfl, rfl, Sub.refl L, ha⟩ (fun _ _ _ _ => trivial) ?_ ?_
    · rintro i ρ' L' hi ⟨u, v, w, L0, rfl, rfl, hs, h0⟩
      have ex0 : ∀ (L : Led) (P : PD) (lk : Lk P), ixA (rs.map rowF) 0 L P lk = P (rowF (rs.getD 0 [])) L := fun L P lk => ixA_nat (j := 0) er0
      have exi : ∀ (n : Nat) (L : Led) (P : PD) (lk : Lk P), n < rs.length → ixA (rs.map rowF) (n : Nat) L P lk = P (rowF (rs.getD n [])) L := fun n L P lk hn => ixA_nat (by rw [List.getElem?_map, getD_row hn, List.getElem?_eq_getElem hn]; rfl)
      simp! [↓ex0, rowF]
      rw [hl0]
      refine ⟨by rw [sizeLine_eq]; omega, by omega, ?_⟩
      rw [show ((wide rs : Int) - 1 + (downF b : Nat)).toNat = wide rs - 1 + downF b by omega]
      refine for_rng _ _ (fun k ρ' L' => ∃ v w L0, ρ' = [some (.tup (rs.map rowF)), some (.str (sideS b)), some (.int (downF b : Nat)), some (.ref a), some (.int (i : Nat)), v, w] ∧ L' = updL L0 a (.lst ((lawTo b rs (cells i (wide rs - 1 + downF b) ++ rowC i k)).map floorV)) ∧ Sub L L0 ∧ L0 a = none) ⟨_, _, L0, rfl, by simp [rowC], hs, h0⟩ (fun _ _ _ _ => trivial) ?_ ?_
      · rintro k ρ' L' hk ⟨v, w, L0, rfl, rfl, hs, h0⟩
        have hli := (ok.row (i := i) (by omega)).1
        have hld := (ok.row (i := i + downF b) (by omega)).1
        simp! [↓exi i _ _ _ (by omega), rowF]
        have o1 : ∀ a : Nat, ([a] = [46]) = (a = 46) := fun a => by simp
        have gx : ∀ (n m : Nat) (L : Led) (P : PD) (lk : Lk P), n < rs.length → m < wide rs → sxA (rs.getD n []) (m : Nat) L P lk = P (.str (tx [cellFl rs n m])) L := fun n m L P lk hn hm => by
          have hl := (ok.row hn).1
          exact sxA_of (by omega) (at_nat (by unfold cellFl; rw [List.getD_eq_getElem?_getD (l := rs.getD n []), List.getElem?_eq_getElem (by omega)]; rfl))
        rw [gx i k _ _ _ (by omega) (by omega)]
        simp! [e46, tx_inj, o1]
        have stop : ¬ (isFree rs (i, k) = true ∧ isFree rs (nextC b (i, k)) = true) → lawTo b rs (cells i (wide rs - 1 + downF b) ++ rowC i k) = lawTo b rs (cells i (wide rs - 1 + downF b) ++ rowC i (k + 1)) := fun z => by
          rw [rowC_succ, ← List.append_assoc, lawTo_app (qs := [(i, k)]), lawTo_one, if_neg z, List.append_nil]
        have hfr : ∀ p, isFree rs p = true ↔ cellFl rs p.1 p.2 = 46 := fun p => by simp [isFree]
        refine ⟨fun q1 => ?_, fun q1 => ⟨_, _, L0, rfl, by rw [stop fun z => q1 ((hfr _).mp z.1)], hs, h0⟩⟩
        rw [← Int.natCast_add, exi (i + downF b) _ _ _ (by omega)]
        rw [show ((k : Int) + 1 - (downF b : Nat)) = ((k + (1 - downF b) : Nat) : Int) by omega]
        simp! [rowF]
        rw [gx (i + downF b) (k + (1 - downF b)) _ _ _ (by omega) (by omega)]
        simp! [e46, tx_inj, o1]
        refine ⟨fun q2 => ?_, fun q2 => ⟨_, _, L0, rfl, by rw [stop fun z => q2 ((hfr _).mp z.2)], hs, h0⟩⟩
        refine ⟨rs, i, k, rfl, ok, by omega, by omega, ?_⟩
        have eI : ((i : Int) + (downF b : Nat)) = ((i + downF b : Nat) : Int) := by omega
        have eK : ((k : Int) + 1 - (downF b : Nat)) = ((k + (1 - downF b) : Nat) : Int) := by omega
        have hli2 : i + downF b < (cover rs i k).length := by simp [cover]; omega
        simp! []
        refine ⟨cover rs i k, i + downF b, k + (1 - downF b), by rw [eI, eK], ok.cov _ _, hli2, by rw [wide_cover]; omega, ?_⟩
        have hln : (lawTo b rs (cells i (wide rs - 1 + downF b) ++ rowC i k)).length ≤ 42 := by
          have h1 := List.length_filter_le (fun p => isFree rs p && isFree rs (nextC b p)) (cells i (wide rs - 1 + downF b) ++ rowC i k)
          rw [List.length_append, cells_len] at h1
          have h2 : (rowC i k).length = k := by simp [rowC]
          have h3 := Nat.mul_le_mul (show i ≤ 6 by omega) (show wide rs - 1 + downF b ≤ 6 by omega)
          unfold lawTo; rw [List.length_map]; omega
        simp! [↓lmB_of updL_same]
        refine ⟨by rw [sizeLine_eq]; omega, _, _, L0, rfl, ?_, hs, h0⟩
        rw [rowC_succ, ← List.append_assoc, lawTo_app (qs := [(i, k)]), lawTo_one, if_pos ⟨(hfr _).mpr q1, (hfr _).mpr q2⟩, List.map_append]
        rfl
      · rintro ρ' L' ⟨v, w, L0, rfl, rfl, hs, h0⟩
        exact ⟨_, _, _, L0, rfl, by rw [cells_succ], hs, h0⟩
    · rintro ρ' L' ⟨u, v, w, L0, rfl, rfl, hs, h0⟩
      simp! []
      refine newL_fin ?_ ha hs h0
      rw [law_cells ok]; exact h
  simp! []
  cases b
  · simp! [sideS, ne_rl, eF]; exact go _ rfl
  · simp! [sideS, eT]; exact go _ rfl
def tb_covered (G : Gx) : AS := (aSeq (aSet 2 (aLstN newR aNil)) (aSeq (aFor (iEnB (aCons (aVar 0) aNil)) (gT [3, 4]) (aSeq (aSet 5 (aCB (bListT newR) (aCons (aVar 4) aNil))) (aSeq (aFor (iSeq (aVar 1)) (gT [6, 7]) (aIf (aTest (aBin oEq (aVar 6) (aVar 3))) (aSetIx (aVar 5) (aVar 7) (aC (.str "#"))) aNext)) (aDrop (aLm mAppend (aVar 2) (aCons (aSm1 sJoin (aC (.str "")) (aVar 5)) aNil)))))) (aRet (aFrz G.k (aVar 2)))))
theorem rd_covered (G : Gx) : Reads 8 (sp_covered G) (tb_covered G) := by
  rintro ds L P R ⟨rs, ps, rfl, ok, hp, hn, h⟩
  unfold tb_covered
  have hh := ok.h
  have hw := ok.w
  have eH : ("#" : Str) = tx [35] := by decide +kernel
  have eNil : ("" : Str) = tx [] := by decide +kernel
  simp! []
  intro a ha
  refine for_enu rs _ (fun i ρ' L' => ∃ u v w x y L0, ρ' = [some (.tup (rs.map rowF)), some (.lst (ps.map cellD)), some (.ref a), u, v, w, x, y] ∧ L' = updL L0 a (.lst ((coverTo rs ps i).map rowF)) ∧ Sub L L0 ∧ L0 a = none) ⟨none, none, none, none, none, L, rfl, rfl, Sub.refl L, ha⟩ (fun _ _ _ _ => trivial) ?_ ?_
  · rintro i r ρ' L' hr ⟨u, v, w, x, y, L0, rfl, rfl, hs, h0⟩
    obtain ⟨hi, rfl⟩ := List.getElem?_eq_some_iff.mp hr
    have hl := (ok.row hi).1
    rw [getD_row hi] at hl
    simp! [rowF]
    refine ⟨by rw [sizeLine_eq]; omega, fun a1 h1 => ?_⟩
    have ne : a1 ≠ a := fun z => by subst z; rw [updL_same] at h1; cases h1
    rw [updL_ne ne] at h1
    refine for_ix ps cellD (fun k ρ' L' => ∃ x y, ρ' = [some (.tup (rs.map rowF)), some (.lst (ps.map cellD)), some (.ref a), some (.int (i : Nat)), some (.str (tx rs[i])), some (.ref a1), x, y] ∧ L' = updL (updL L0 a (.lst ((coverTo rs ps i).map rowF))) a1 (.lst ((covRow i (ps.take k) rs[i]).map fun c => DV.str (tx [c])))) ⟨_, _, rfl, rfl⟩ (fun _ _ _ _ => trivial) ?_ ?_
    · rintro k p ρ' L' hk ⟨x, y, rfl, rfl⟩
      have hpm := hp p (List.mem_of_getElem? hk)
      simp! [cellD]
      refine ⟨fun q => ?_, fun q => ⟨_, _, rfl, ?_⟩⟩
      · have q : p.1 = i := by omega
        rw [setA_upd (by omega) (by rw [List.length_map, covRow_len]; omega), eH]
        simp only [Int.toNat_natCast]
        refine ⟨_, _, rfl, ?_⟩
        rw [take_more hk, covRow_more, if_pos q, List.map_set]
        try rw [updL_updL]
      · have q : ¬ p.1 = i := by omega
        rw [take_more hk, covRow_more, if_neg q]
    · rintro ρ' L' ⟨x, y, rfl, rfl⟩
      rw [List.take_length]
      have hx : (updL (updL L0 a (.lst ((coverTo rs ps i).map rowF))) a1 (.lst ((covRow i ps rs[i]).map fun c => DV.str (tx [c])))) a = some (.lst ((coverTo rs ps i).map rowF)) := by rw [updL_ne (Ne.symm ne)]; exact updL_same
      simp! [↓lmR_of hx, eNil]
      rw [joinA_signs (by rw [covRow_len]; omega)]
      simp! [↓lmB_of hx]
      refine ⟨by simp [coverTo, sizeLine_eq]; omega, _, _, _, _, _, updL L0 a1 (.lst ((covRow i ps rs[i]).map fun c => DV.str (tx [c]))), rfl, ?_, hs.over ?_, by rw [updL_ne (Ne.symm ne)]; exact h0⟩
      · rw [updL_comm (Ne.symm ne), updL_updL, coverTo_succ, getD_row hi]
        simp [rowF]
      · cases q : L a1 with
        | none => rfl
        | some mo => rw [hs _ _ q] at h1; cases h1
  · rintro ρ' L' ⟨u, v, w, x, y, L0, rfl, rfl, hs, h0⟩
    simp! []
    exact newL_fin h ha hs h0
def tb_Floor_moves (G : Gx) : AS := (aSeq (aSet 2 (aMeth G.Floor (sp_Floor_free G) [] (aVar 0) aNil)) (aSeq (aSet 3 (aLstN newR aNil)) (aSeq (aFor (iSeq (aVar 2)) (gT [4, 5]) (aSeq (aSet 6 (aTup (aCons (aBin (oAddN newD) (aVar 4) (aBin oIx (aBin (oKd G.k) (aC (.ref G.kSTEPD)) (aVar 1)) (aC (.int 0)))) (aCons (aBin (oAddN newD) (aVar 5) (aBin oIx (aBin (oKd G.k) (aC (.ref G.kSTEPD)) (aVar 1)) (aC (.int 1)))) aNil)))) (aIf (aTest (aBin (oInD false) (aVar 6) (aVar 2))) (aDrop (aLm mAppend (aVar 3) (aCons (aMake (mk1_Floor_init G) (aCons (aCall (sp_covered G) [] (aCons (aFld "_rows" 0 (aVar 0)) (aCons (aLstN newD (aCons (aTup (aCons (aVar 4) (aCons (aVar 5) aNil))) (aCons (aVar 6) aNil))) aNil))) aNil)) aNil))) aNext))) (aRet (aFrz G.k (aVar 3))))))
def movesTo (b : Bool) (rs : Flo) (n : Nat) : List Flo := (((freeF rs).take n).filter fun p => isFree rs (nextC b p)).map (layF rs b)
theorem movesTo_succ {b : Bool} {rs : Flo} {n : Nat} {p : Nat × Nat} (h : (freeF rs)[n]? = some p) : movesTo b rs (n + 1) = movesTo b rs n ++ (if isFree rs (nextC b p) then [layF rs b p] else []) := by
  unfold movesTo
  rw [take_more h, List.filter_append, List.map_append]
  congr 1
  by_cases q : isFree rs (nextC b p) <;> simp [List.filter, q]
theorem rd_Floor_moves (G : Gx) (k1 : KdV G.k G.kSTEPD "left" (.tup [.int 1, .int 0])) (k2 : KdV G.k G.kSTEPD "right" (.tup [.int 0, .int 1])) : Reads 7 (sp_Floor_moves G) (tb_Floor_moves G) := by
  rintro ds L P R ⟨rs, b, rfl, ok, h⟩
  unfold tb_Floor_moves
  have hfl := freeF_len ok
  have st : KdV G.k G.kSTEPD (sideS b) (.tup [.int (downF b : Nat), .int ((1 - downF b : Nat) : Nat)]) := by cases b <;> assumption
  simp! []
  refine ⟨rs, rfl, ok, .inr ?_⟩
  simp! []
  intro a ha
  refine for_ix (freeF rs) cellD (fun i ρ' L' => ∃ u v w L0, ρ' = [some (floorD G rs), some (.str (sideS b)), some (.lst ((freeF rs).map cellD)), some (.ref a), u, v, w] ∧ L' = updL L0 a (.lst ((movesTo b rs i).map (floorD G))) ∧ Sub L L0 ∧ L0 a = none) ⟨none, none, none, L, rfl, rfl, Sub.refl L, ha⟩ (fun _ _ _ _ => trivial) ?_ ?_
  · rintro i p ρ' L' hi ⟨u, v, w, L0, rfl, rfl, hs, h0⟩
    have hil : i < (freeF rs).length := (List.getElem?_eq_some_iff.mp hi).1
    simp! [cellD]
    refine kd_ok st ?_
    simp! []
    refine kd_ok st ?_
    simp! []
    have en : ∀ a b : Nat, plS 1 (.tup [.int a, .int b]) := by
      intro a b y hy
      simp at hy
      rcases hy with rfl | rfl <;> trivial
    rw [← Int.natCast_add, ← Int.natCast_add]
    refine inDA_l (n := 1) (en _ _) (fun y hy => by obtain ⟨q, _, rfl⟩ := List.mem_map.mp hy; exact en _ _) (by omega) ?_
    simp only [cellD_mem, mem_free ok]
    have hpf : isFree rs p = true := (mem_free ok).mp (List.mem_of_getElem? hi)
    have hpi := isFree_in ok hpf
    simp! []
    refine ⟨fun q => ?_, fun q => ⟨_, _, _, L0, rfl, ?_, hs, h0⟩⟩
    · have hni := isFree_in ok q
      refine ⟨rs, [p, nextC b p], rfl, ok, ?_, by simp, .inr ?_⟩
      · intro z hz
        simp at hz
        rcases hz with rfl | rfl
        · exact hpi.2
        · exact hni.2
      rw [coverTo_two]
      refine mk_floor (l1 := .mk) (l2 := .mk) (ok.lay b p) ?_
      have hml : (movesTo b rs i).length ≤ 36 := by
        have h1 := List.length_filter_le (fun p => isFree rs (nextC b p)) ((freeF rs).take i)
        rw [List.length_take] at h1
        unfold movesTo; rw [List.length_map]; omega
      simp! [↓lmB_of updL_same]
      refine ⟨by rw [sizeLine_eq]; omega, _, _, _, L0, rfl, ?_, hs, h0⟩
      rw [movesTo_succ hi, if_pos (show isFree rs (nextC b p) = true from q), List.map_append]; rfl
    · rw [movesTo_succ hi, if_neg (show ¬ isFree rs (nextC b p) = true from q), List.append_nil]
  · rintro ρ' L' ⟨u, v, w, L0, rfl, rfl, hs, h0⟩
    simp! []
    refine newL_fin ?_ ha hs h0
    have : movesTo b rs (freeF rs).length = floorMoves b rs := by unfold movesTo floorMoves; rw [List.take_length]
    rw [this]; exact h
def tb_law_counts_ea32dc8c (G : Gx) : AS := (aSeq (aSet 3 (aCB bLen (aCons (aCall (sp_law_floor_moves_d092ad0b G) [] (aCons (aVar 1) (aCons (aVar 2) aNil))) aNil))) (aRet (aAndV (aBin oEq (aCB bLen (aCons (aMeth G.Floor (sp_Floor_moves G) [] (aVar 0) (aCons (aVar 2) aNil)) aNil)) (aVar 3)) (aBin oEq (aCB bSum (aCons (aLcN newD (iSeq (aMeth G.Floor (sp_Floor_parts G) [] (aVar 0) aNil)) (gN 4) aYes (aCB bLen (aCons (aMeth G.Floor (sp_Floor_moves G) [] (aVar 4) (aCons (aVar 2) aNil)) aNil)) [4]) aNil)) (aVar 3)))))
theorem rd_law_counts_ea32dc8c (G : Gx) : Reads 5 (sp_law_counts_ea32dc8c G) (tb_law_counts_ea32dc8c G) := by
  rintro ds L P R ⟨rs, b, rfl, ok, h⟩
  unfold tb_law_counts_ea32dc8c
  simp! []
  refine ⟨rs, b, rfl, ok, .inr ?_⟩
  simp! []
  refine ⟨rs, b, rfl, ok, .inr ?_⟩
  simp! []
  refine ⟨rs, rfl, ok, .inr ?_⟩
  have lp := parts_len (rs := rs)
  simp! []
  refine lc_map (partsF rs) (floorD G) (fun g => .int ((floorMoves b g).length : Nat)) (by rw [sizeLine_eq]; omega) trivial (fun g hg K1 k1 => ?_) ?_
  · simp! []
    refine ⟨g, b, rfl, parts_ok ok g hg, .inr ?_⟩
    simp! []
    exact k1
  · simp! []
    have e := parts_cnt ok (freeF_len ok) (b := b)
    have cs : ∀ l : List Flo, (List.map (fun x => (((floorMoves b x).length : Nat) : Int)) l).sum = (((l.map fun g => (floorMoves b g).length).sum : Nat) : Int) := fun l => by
      induction l with
      | nil => rfl
      | cons g l ih => rw [List.map_cons, List.map_cons, List.sum_cons, List.sum_cons, ih, Int.natCast_add]
    rw [cs, e, decide_eq_true rfl]
    exact h
def tb_law_a52aaa2a (G : Gx) : AS := (aSeq (aSet 1 (aCB bTuple (aCons (aCall (sp_law_rows_3c71d864 G) [] (aCons (aCall (sp_law_cell_4bc9b38b G) [] (aCons (aVar 0) (aCons (aC (.int 0)) aNil))) aNil)) aNil))) (aSeq (aSet 2 (aMake (mk1_Floor_init G) (aCons (aCB (bListN newD) (aCons (aVar 1) aNil)) aNil))) (aSeq (aSet 3 (aCall (sp_law_floor_parts_da8a0049 G) [] (aCons (aVar 1) aNil))) (aSeq (aIf (aOr (aNot (aTru (aCall (sp_law_told_87c2cc6e G) [] (aCons (aMeth G.Floor (sp_Floor_parts G) [] (aVar 2) aNil) (aCons (aVar 3) aNil))))) (aNot (aTru (aCall (sp_law_told_87c2cc6e G) [] (aCons (aMeth G.Floor (sp_Floor_parts G) [] (aVar 2) aNil) (aCons (aVar 3) aNil)))))) (aRet (aC (.bl false))) aNext) (aSeq (aFor (iSeq (aMeth G.Floor (sp_Floor_parts G) [] (aVar 2) aNil)) (gN 4) (aIf (aNot (aTru (aCall (sp_law_told_87c2cc6e G) [] (aCons (aMeth G.Floor (sp_Floor_parts G) [] (aVar 4) aNil) (aCons (aLstN newD (aCons (aMeth G.Floor (sp_Floor_value G) [] (aVar 4) aNil) aNil)) aNil))))) (aRet (aC (.bl false))) aNext)) (aSeq (aIf (aOr (aNot (aTru (aCall (sp_law_counts_ea32dc8c G) [] (aCons (aVar 2) (aCons (aVar 1) (aCons (aC (.str "left")) aNil)))))) (aNot (aTru (aCall (sp_law_counts_ea32dc8c G) [] (aCons (aVar 2) (aCons (aVar 1) (aCons (aC (.str "right")) aNil))))))) (aRet (aC (.bl false))) aNext) (aSeq (aIf (aAnd (aTest (aBin oEqX (aMeth G.Floor (sp_Floor_moves G) [] (aVar 2) (aCons (aC (.str "left")) aNil)) (aLstN newD aNil))) (aAnd (aTest (aBin oEqX (aMeth G.Floor (sp_Floor_moves G) [] (aVar 2) (aCons (aC (.str "right")) aNil)) (aLstN newD aNil))) (aTest (aBin oGt (aCB bLen (aCons (aVar 3) aNil)) (aC (.int 0)))))) (aRet (aC (.bl false))) aNext) (aRet (aCall (sp_law_same_04c10c30 6 G) [] (aCons (aMeth G.Floor (sp_Floor_value G) [] (aVar 2) aNil) (aCons (aTup (aCons (aC (.str "floor")) (aCons (aVar 1) aNil))) aNil)))))))))))
theorem rd_law_a52aaa2a (G : Gx) : Reads 5 (sp_law_a52aaa2a G) (tb_law_a52aaa2a G) := by
  intro ds L P R h
  unfold sp_law_a52aaa2a spLawT at h
  split at h
  · obtain ⟨⟨ns, _, rfl⟩, h⟩ := h
    unfold tb_law_a52aaa2a
    simp! []
    refine cell_ok ?_
    simp! []
    refine ⟨_, rfl, .inr ?_⟩
    simp! []
    have ok := rowsFl_ok (cellF ns 0)
    generalize rowsFl (cellF ns 0) = rs at ok ⊢
    refine mk_floor (l1 := .mk) (l2 := .mk) ok ?_
    simp! []
    refine ⟨rs, rfl, ok, ?_⟩
    simp! []
    have lp := parts_len (rs := rs)
    have pok := parts_ok ok
    refine ⟨rs, rfl, ok, .inl fun a1 h1 => ?_⟩
    simp! []
    refine ⟨partsF rs, a1, L, rfl, updL_same, Sub.new h1, h1, pok, by omega, ?_⟩
    simp! []
    refine ⟨rs, rfl, ok, .inl fun a2 h2 => ?_⟩
    simp! []
    refine ⟨partsF rs, a2, L, rfl, updL_same, Sub.new h2, h2, pok, by omega, ?_⟩
    simp! []
    refine ⟨rs, rfl, ok, .inr ?_⟩
    simp! []
    refine for_pre (partsF rs) (floorD G) (fun done ρ' L' => ∃ v4, ρ' = [some (.wl (ns.map .int)), some (.tup (rs.map rowF)), some (floorD G rs), some (.lst ((partsF rs).map floorV)), v4] ∧ L' = L) ⟨_, rfl, rfl⟩ (fun _ _ _ _ => trivial) ?_ ?_
    · rintro done g rest ρ' L' ej ⟨v4, rfl, rfl⟩
      have hg : g ∈ partsF rs := by rw [ej]; simp
      have okg := pok g hg
      have pg := parts_part ok g hg
      simp! []
      refine ⟨g, rfl, okg, .inl fun a3 h3 => ?_⟩
      rw [pg]
      simp! []
      refine value_floor ?_
      simp! []
      refine ⟨[g], a3, L', rfl, updL_same, Sub.new h3, h3, fun v hv => (by rw [List.mem_singleton.mp hv]; exact okg), (by simp), ?_⟩
      simp! []
      (first | exact ⟨_, rfl, rfl⟩ | exact ⟨_, rfl⟩ | exact ⟨_, _, rfl, rfl⟩ | exact ⟨_, _, rfl⟩ | exact ⟨_, _, _, rfl, rfl⟩ | exact ⟨_, _, _, rfl⟩ | exact ⟨_, _, _, _, rfl, rfl⟩ | exact ⟨_, _, _, _, rfl⟩)
    · rintro ρ' L' ⟨v4, rfl, rfl⟩
      simp! []
      refine ⟨rs, true, rfl, ok, ?_⟩
      simp! []
      refine ⟨rs, false, rfl, ok, ?_⟩
      simp! []
      refine ⟨rs, true, rfl, ok, .inr ?_⟩
      simp! []
      rw [oEqX_e]
      refine eqX_nil ?_
      have fin : P (.bl true) L' → callA (sp_Floor_value G) [floorD G rs] L' (fun x L1 => callA (sp_law_same_04c10c30 6 G) [x, .tup [.str "floor", .tup (rs.map rowF)]] L1 P (fun c L => R c L) .mk .mk) (fun c L => R c L) .mk .mk := fun q => value_floor (by
        simp! []
        exact same_ok (G := G) (floorV_deep _ _ ok) q)
      simp only [List.map_eq_nil_iff]
      simp! []
      refine ⟨fun z1 => ?_, fun z1 => ?_⟩
      · refine ⟨rs, false, rfl, ok, .inr ?_⟩
        simp! []
        rw [oEqX_e]
        refine eqX_nil ?_
        simp only [List.map_eq_nil_iff]
        simp! []
        refine ⟨fun z2 => ?_, fun z2 => ?_⟩
        · rw [parts_none ok z1 z2]
          simp! []
          exact ⟨fun z => absurd z (by decide), fun _ => fin h⟩
        · exact fin h
      · exact fin h
  · exact h.elim
abbrev lawPr : Program := PySem.Challenge.pw_sumsplay_k59_parts_of_floors
def topS (i : Nat) : Stmt := lawPr.main.body.getD i (.Pass ⟨0, 0, 0, 0⟩)
abbrev s_law_digits_b31862c4 : Stmt := (topS 13)
theorem sc_law_digits_b31862c4 : FnScope ["_law_cell_here", "_law_count", "_law_row", "_law_k", "_law_seed"] ["_law_cell_here", "_law_count"] (defScope s_law_digits_b31862c4) := ⟨rfl, rfl, rfl, by decide +kernel, rfl, by decide +kernel, by decide +kernel⟩
abbrev s_law_rows_3c71d864 : Stmt := (topS 19)
theorem sc_law_rows_3c71d864 : FnScope ["_law_cell_here", "_law_digits_here", "_law_wide", "_law_often", "_law_rows_here", "_law_line", "_law_k"] ["_law_cell_here"] (defScope s_law_rows_3c71d864) := ⟨rfl, rfl, rfl, by decide +kernel, rfl, by decide +kernel, by decide +kernel⟩
abbrev s_law_cell_4bc9b38b : Stmt := (topS 12)
theorem sc_law_cell_4bc9b38b : FnScope ["_law_script", "_law_k", "_law_mixed", "_law_cell_here"] ["_law_script", "_law_k"] (defScope s_law_cell_4bc9b38b) := ⟨rfl, rfl, rfl, by decide +kernel, rfl, by decide +kernel, by decide +kernel⟩
abbrev s_Floor_init : Stmt := (inClass (topS 10) 0)
theorem sc_Floor_init : FnScope ["self", "rows", "row", "sign"] ["self", "rows"] (defScope s_Floor_init) := ⟨rfl, rfl, rfl, by decide +kernel, rfl, by decide +kernel, by decide +kernel⟩
abbrev s_law_clipped_ce61efcc : Stmt := (topS 17)
theorem sc_law_clipped_ce61efcc : FnScope ["_law_cells", "_law_cell_here", "_law_lines", "_law_columns", "_law_rows_here", "_law_line", "_law_row", "_law_column"] ["_law_cells"] (defScope s_law_clipped_ce61efcc) := ⟨rfl, rfl, rfl, by decide +kernel, rfl, by decide +kernel, by decide +kernel⟩
abbrev s_law_floor_parts_da8a0049 : Stmt := (topS 18)
theorem sc_law_floor_parts_da8a0049 : FnScope ["_law_rows_here", "_law_k", "_law_cells", "_law_cell_here", "_law_found", "_law_taken", "_law_first", "_law_part", "_law_turn", "_law_many", "_law_other", "_law_beside"] ["_law_rows_here"] (defScope s_law_floor_parts_da8a0049) := ⟨rfl, rfl, rfl, by decide +kernel, rfl, by decide +kernel, by decide +kernel⟩
abbrev s_law_same_04c10c30 : Stmt := (topS 14)
theorem sc_law_same_04c10c30 : FnScope ["_law_told_here", "_law_due", "_law_k"] ["_law_told_here", "_law_due"] (defScope s_law_same_04c10c30) := ⟨rfl, rfl, rfl, by decide +kernel, rfl, by decide +kernel, by decide +kernel⟩
abbrev s_Floor_value : Stmt := (inClass (topS 10) 2)
theorem sc_Floor_value : FnScope ["self"] ["self"] (defScope s_Floor_value) := ⟨rfl, rfl, rfl, by decide +kernel, rfl, by decide +kernel, by decide +kernel⟩
abbrev s_law_told_87c2cc6e : Stmt := (topS 20)
theorem sc_law_told_87c2cc6e : FnScope ["_law_boards", "_law_dues", "_law_k"] ["_law_boards", "_law_dues"] (defScope s_law_told_87c2cc6e) := ⟨rfl, rfl, rfl, by decide +kernel, rfl, by decide +kernel, by decide +kernel⟩
abbrev s_Floor_free : Stmt := (inClass (topS 10) 4)
theorem sc_Floor_free : FnScope ["self", "found", "line", "row", "column", "sign"] ["self"] (defScope s_Floor_free) := ⟨rfl, rfl, rfl, by decide +kernel, rfl, by decide +kernel, by decide +kernel⟩
abbrev s_around : Stmt := (topS 7)
theorem sc_around : FnScope ["cell", "line", "column"] ["cell"] (defScope s_around) := ⟨rfl, rfl, rfl, by decide +kernel, rfl, by decide +kernel, by decide +kernel⟩
abbrev s_joined : Stmt := (topS 8)
theorem sc_joined : FnScope ["cells", "found", "open_ones", "other"] ["cells"] (defScope s_joined) := ⟨rfl, rfl, rfl, by decide +kernel, rfl, by decide +kernel, by decide +kernel⟩
abbrev s_clipped : Stmt := (topS 9)
theorem sc_clipped : FnScope ["cells", "cell", "lines", "columns", "found", "line", "column"] ["cells"] (defScope s_clipped) := ⟨rfl, rfl, rfl, by decide +kernel, rfl, by decide +kernel, by decide +kernel⟩
abbrev s_Floor_parts : Stmt := (inClass (topS 10) 3)
theorem sc_Floor_parts : FnScope ["self", "left", "found", "part", "cell"] ["self"] (defScope s_Floor_parts) := ⟨rfl, rfl, rfl, by decide +kernel, rfl, by decide +kernel, by decide +kernel⟩
abbrev s_law_covered_27bf77b2 : Stmt := (topS 15)
theorem sc_law_covered_27bf77b2 : FnScope ["_law_rows_here", "_law_line", "_law_column", "_law_row"] ["_law_rows_here", "_law_line", "_law_column"] (defScope s_law_covered_27bf77b2) := ⟨rfl, rfl, rfl, by decide +kernel, rfl, by decide +kernel, by decide +kernel⟩
abbrev s_law_floor_moves_d092ad0b : Stmt := (topS 16)
theorem sc_law_floor_moves_d092ad0b : FnScope ["_law_rows_here", "_law_side", "_law_down", "_law_found", "_law_line", "_law_column", "_law_one"] ["_law_rows_here", "_law_side"] (defScope s_law_floor_moves_d092ad0b) := ⟨rfl, rfl, rfl, by decide +kernel, rfl, by decide +kernel, by decide +kernel⟩
abbrev s_covered : Stmt := (topS 6)
theorem sc_covered : FnScope ["rows", "cells", "found", "place", "row", "signs", "line", "column"] ["rows", "cells"] (defScope s_covered) := ⟨rfl, rfl, rfl, by decide +kernel, rfl, by decide +kernel, by decide +kernel⟩
abbrev s_Floor_moves : Stmt := (inClass (topS 10) 1)
theorem sc_Floor_moves : FnScope ["self", "side", "free", "found", "line", "column", "other"] ["self", "side"] (defScope s_Floor_moves) := ⟨rfl, rfl, rfl, by decide +kernel, rfl, by decide +kernel, by decide +kernel⟩
abbrev s_law_counts_ea32dc8c : Stmt := (topS 21)
theorem sc_law_counts_ea32dc8c : FnScope ["_law_board", "_law_rows_here", "_law_side", "_law_due", "_law_part"] ["_law_board", "_law_rows_here", "_law_side"] (defScope s_law_counts_ea32dc8c) := ⟨rfl, rfl, rfl, by decide +kernel, rfl, by decide +kernel, by decide +kernel⟩
abbrev s_law_a52aaa2a : Stmt := (topS 22)
theorem sc_law_a52aaa2a : FnScope ["_law_script", "_law_rows_here", "_law_board", "_law_dues", "_law_part"] ["_law_script"] (defScope s_law_a52aaa2a) := ⟨rfl, rfl, rfl, by decide +kernel, rfl, by decide +kernel, by decide +kernel⟩
structure Ad where
  f_law_digits_b31862c4 : Addr
  fd_law_digits_b31862c4 : FuncData
  f_law_rows_3c71d864 : Addr
  fd_law_rows_3c71d864 : FuncData
  f_law_cell_4bc9b38b : Addr
  fd_law_cell_4bc9b38b : FuncData
  f_Floor_init : Addr
  fd_Floor_init : FuncData
  f_law_clipped_ce61efcc : Addr
  fd_law_clipped_ce61efcc : FuncData
  f_law_floor_parts_da8a0049 : Addr
  fd_law_floor_parts_da8a0049 : FuncData
  f_law_same_04c10c30 : Addr
  fd_law_same_04c10c30 : FuncData
  f_Floor_value : Addr
  fd_Floor_value : FuncData
  f_law_told_87c2cc6e : Addr
  fd_law_told_87c2cc6e : FuncData
  f_Floor_free : Addr
  fd_Floor_free : FuncData
  f_around : Addr
  fd_around : FuncData
  f_joined : Addr
  fd_joined : FuncData
  f_clipped : Addr
  fd_clipped : FuncData
  f_Floor_parts : Addr
  fd_Floor_parts : FuncData
  f_law_covered_27bf77b2 : Addr
  fd_law_covered_27bf77b2 : FuncData
  f_law_floor_moves_d092ad0b : Addr
  fd_law_floor_moves_d092ad0b : FuncData
  f_covered : Addr
  fd_covered : FuncData
  f_Floor_moves : Addr
  fd_Floor_moves : FuncData
  f_law_counts_ea32dc8c : Addr
  fd_law_counts_ea32dc8c : FuncData
  f_law_a52aaa2a : Addr
  fd_law_a52aaa2a : FuncData
structure Txt (G : Gx) (mg : Str → Option Value) (A : Ad) : Prop where
  g_Floor : mg "Floor" = some (.ref G.Floor)
  cl_Floor : Cls G.k.K G.Floor
  fo_Floor : FOk G.k.K G.Floor []
  no_Floor__rows : NoAttr G.k.K G.Floor "_rows"
  mk_Floor : Mk G.k.K G.Floor A.f_Floor_init
  g_BadValue : mg "BadValue" = some (.ref G.BadValue)
  x_BadValue : PySem.W.excIn G.k.K G.BadValue [.type "ValueError", .type "Exception", .type "BaseException", .type "object"] "ValueError.__new__" = true
  k_BadValue : PySem.W.keepIn G.k.K (.ref G.BadValue) = true
  eb_BadValue : PySem.W.subIn G.k.K (.ref G.BadValue) (.type "BaseException") = some true
  et_BadValue : PySem.W.typeIn G.k.K (.ref G.BadValue) = some (.type "type")
  g_SIDE_MOST : ∃ tk_SIDE_MOST : Tok, mg "SIDE_MOST" = some (.int 6 tk_SIDE_MOST)
  g_STEPS : mg "STEPS" = some (.ref G.kSTEPD)
  kd_STEPS_left : KdV G.k G.kSTEPD "left" (.tup [(.int 1), (.int 0)])
  kd_STEPS_right : KdV G.k G.kSTEPD "right" (.tup [(.int 0), (.int 1)])
  n_abs : mg "abs" = none
  n_all : mg "all" = none
  n_bool : mg "bool" = none
  n_enumerate : mg "enumerate" = none
  n_int : mg "int" = none
  n_isinstance : mg "isinstance" = none
  n_len : mg "len" = none
  n_list : mg "list" = none
  n_max : mg "max" = none
  n_min : mg "min" = none
  n_range : mg "range" = none
  n_str : mg "str" = none
  n_sum : mg "sum" = none
  n_tuple : mg "tuple" = none
  m_law_digits_b31862c4 : mg "_law_digits" = some (.ref A.f_law_digits_b31862c4)
  F_law_digits_b31862c4 : Fun G.k.K "_law_digits" "_law_digits" s_law_digits_b31862c4 A.f_law_digits_b31862c4 A.fd_law_digits_b31862c4
  b_law_digits_b31862c4 : Binds G.k.K A.fd_law_digits_b31862c4 ["_law_cell_here", "_law_count"] []
  m_law_rows_3c71d864 : mg "_law_rows" = some (.ref A.f_law_rows_3c71d864)
  F_law_rows_3c71d864 : Fun G.k.K "_law_rows" "_law_rows" s_law_rows_3c71d864 A.f_law_rows_3c71d864 A.fd_law_rows_3c71d864
  b_law_rows_3c71d864 : Binds G.k.K A.fd_law_rows_3c71d864 ["_law_cell_here"] []
  m_law_cell_4bc9b38b : mg "_law_cell" = some (.ref A.f_law_cell_4bc9b38b)
  F_law_cell_4bc9b38b : Fun G.k.K "_law_cell" "_law_cell" s_law_cell_4bc9b38b A.f_law_cell_4bc9b38b A.fd_law_cell_4bc9b38b
  b_law_cell_4bc9b38b : Binds G.k.K A.fd_law_cell_4bc9b38b ["_law_script", "_law_k"] []
  F_Floor_init : Fun G.k.K "__init__" "Floor.__init__" s_Floor_init A.f_Floor_init A.fd_Floor_init
  b_Floor_init : Binds G.k.K A.fd_Floor_init ["self", "rows"] []
  m_law_clipped_ce61efcc : mg "_law_clipped" = some (.ref A.f_law_clipped_ce61efcc)
  F_law_clipped_ce61efcc : Fun G.k.K "_law_clipped" "_law_clipped" s_law_clipped_ce61efcc A.f_law_clipped_ce61efcc A.fd_law_clipped_ce61efcc
  b_law_clipped_ce61efcc : Binds G.k.K A.fd_law_clipped_ce61efcc ["_law_cells"] []
  m_law_floor_parts_da8a0049 : mg "_law_floor_parts" = some (.ref A.f_law_floor_parts_da8a0049)
  F_law_floor_parts_da8a0049 : Fun G.k.K "_law_floor_parts" "_law_floor_parts" s_law_floor_parts_da8a0049 A.f_law_floor_parts_da8a0049 A.fd_law_floor_parts_da8a0049
  b_law_floor_parts_da8a0049 : Binds G.k.K A.fd_law_floor_parts_da8a0049 ["_law_rows_here"] []
  m_law_same_04c10c30 : mg "_law_same" = some (.ref A.f_law_same_04c10c30)
  F_law_same_04c10c30 : Fun G.k.K "_law_same" "_law_same" s_law_same_04c10c30 A.f_law_same_04c10c30 A.fd_law_same_04c10c30
  b_law_same_04c10c30 : Binds G.k.K A.fd_law_same_04c10c30 ["_law_told_here", "_law_due"] []
  Mt_Floor_value : Meth G.k.K G.Floor "value" A.f_Floor_value
  F_Floor_value : Fun G.k.K "value" "Floor.value" s_Floor_value A.f_Floor_value A.fd_Floor_value
  b_Floor_value : Binds G.k.K A.fd_Floor_value ["self"] []
  m_law_told_87c2cc6e : mg "_law_told" = some (.ref A.f_law_told_87c2cc6e)
  F_law_told_87c2cc6e : Fun G.k.K "_law_told" "_law_told" s_law_told_87c2cc6e A.f_law_told_87c2cc6e A.fd_law_told_87c2cc6e
  b_law_told_87c2cc6e : Binds G.k.K A.fd_law_told_87c2cc6e ["_law_boards", "_law_dues"] []
  Mt_Floor_free : Meth G.k.K G.Floor "_free" A.f_Floor_free
  F_Floor_free : Fun G.k.K "_free" "Floor._free" s_Floor_free A.f_Floor_free A.fd_Floor_free
  b_Floor_free : Binds G.k.K A.fd_Floor_free ["self"] []
  m_around : mg "around" = some (.ref A.f_around)
  F_around : Fun G.k.K "around" "around" s_around A.f_around A.fd_around
  b_around : Binds G.k.K A.fd_around ["cell"] []
  m_joined : mg "joined" = some (.ref A.f_joined)
  F_joined : Fun G.k.K "joined" "joined" s_joined A.f_joined A.fd_joined
  b_joined : Binds G.k.K A.fd_joined ["cells"] []
  m_clipped : mg "clipped" = some (.ref A.f_clipped)
  F_clipped : Fun G.k.K "clipped" "clipped" s_clipped A.f_clipped A.fd_clipped
  b_clipped : Binds G.k.K A.fd_clipped ["cells"] []
  Mt_Floor_parts : Meth G.k.K G.Floor "parts" A.f_Floor_parts
  F_Floor_parts : Fun G.k.K "parts" "Floor.parts" s_Floor_parts A.f_Floor_parts A.fd_Floor_parts
  b_Floor_parts : Binds G.k.K A.fd_Floor_parts ["self"] []
  m_law_covered_27bf77b2 : mg "_law_covered" = some (.ref A.f_law_covered_27bf77b2)
  F_law_covered_27bf77b2 : Fun G.k.K "_law_covered" "_law_covered" s_law_covered_27bf77b2 A.f_law_covered_27bf77b2 A.fd_law_covered_27bf77b2
  b_law_covered_27bf77b2 : Binds G.k.K A.fd_law_covered_27bf77b2 ["_law_rows_here", "_law_line", "_law_column"] []
  m_law_floor_moves_d092ad0b : mg "_law_floor_moves" = some (.ref A.f_law_floor_moves_d092ad0b)
  F_law_floor_moves_d092ad0b : Fun G.k.K "_law_floor_moves" "_law_floor_moves" s_law_floor_moves_d092ad0b A.f_law_floor_moves_d092ad0b A.fd_law_floor_moves_d092ad0b
  b_law_floor_moves_d092ad0b : Binds G.k.K A.fd_law_floor_moves_d092ad0b ["_law_rows_here", "_law_side"] []
  m_covered : mg "covered" = some (.ref A.f_covered)
  F_covered : Fun G.k.K "covered" "covered" s_covered A.f_covered A.fd_covered
  b_covered : Binds G.k.K A.fd_covered ["rows", "cells"] []
  Mt_Floor_moves : Meth G.k.K G.Floor "moves" A.f_Floor_moves
  F_Floor_moves : Fun G.k.K "moves" "Floor.moves" s_Floor_moves A.f_Floor_moves A.fd_Floor_moves
  b_Floor_moves : Binds G.k.K A.fd_Floor_moves ["self", "side"] []
  m_law_counts_ea32dc8c : mg "_law_counts" = some (.ref A.f_law_counts_ea32dc8c)
  F_law_counts_ea32dc8c : Fun G.k.K "_law_counts" "_law_counts" s_law_counts_ea32dc8c A.f_law_counts_ea32dc8c A.fd_law_counts_ea32dc8c
  b_law_counts_ea32dc8c : Binds G.k.K A.fd_law_counts_ea32dc8c ["_law_board", "_law_rows_here", "_law_side"] []
  m_law_a52aaa2a : mg "law" = some (.ref A.f_law_a52aaa2a)
  F_law_a52aaa2a : Fun G.k.K "law" "law" s_law_a52aaa2a A.f_law_a52aaa2a A.fd_law_a52aaa2a
  b_law_a52aaa2a : Binds G.k.K A.fd_law_a52aaa2a ["_law_script"] []
theorem ok_law_digits_b31862c4 {G : Gx} {mg : Str → Option Value} {A : Ad} {base : Heap} (T : Txt G mg A) : FnOk G.k.P G.k.w G.k.K mg base (L2.CX G.k.P G.k.w) 1 A.f_law_digits_b31862c4 A.fd_law_digits_b31862c4 ["_law_cell_here", "_law_count"] (liftSp G.k (sp_law_digits_b31862c4 G)) :=
  fun_ok (k := 0) (tb := tb_law_digits_b31862c4 G) T.F_law_digits_b31862c4 sc_law_digits_b31862c4 (by intro ds L Q R h; unfold sp_law_digits_b31862c4 at h; first | (rcases h with h | h <;> (first | (obtain ⟨rfl, _⟩ := h; rfl) | (obtain ⟨_, _, _, rfl, _, _, rfl, _⟩ := h; rfl) | (obtain ⟨_, _, _, rfl, _, _, _, rfl, _⟩ := h; rfl) | (obtain ⟨_, rfl, _⟩ := h; rfl) | (obtain ⟨_, _, rfl, _⟩ := h; rfl) | (obtain ⟨_, _, _, rfl, _⟩ := h; rfl) | (obtain ⟨_, _, _, _, rfl, _⟩ := h; rfl) | (obtain ⟨_, _, _, _, _, rfl, _⟩ := h; rfl) | (obtain ⟨_, _, _, _, _, _, rfl, _⟩ := h; rfl) | (obtain ⟨_, _, _, _, _, _, _, rfl, _⟩ := h; rfl) | (obtain ⟨_, _, _, _, _, _, _, _, rfl, _⟩ := h; rfl) | (obtain ⟨_, _, _, _, _, _, _, _, _, rfl, _⟩ := h; rfl) | (obtain ⟨_, _, _, _, _, _, _, _, _, _, rfl, _⟩ := h; rfl) | (obtain ⟨_, _, _, _, _, _, _, _, _, _, _, rfl, _⟩ := h; rfl) | (obtain ⟨_, _, _, _, _, _, _, _, _, _, _, _, rfl, _⟩ := h; rfl) | (obtain ⟨_, _, _, _, _, _, _, _, _, _, _, _, _, rfl, _⟩ := h; rfl) | (obtain ⟨_, _, _, _, _, _, _, _, _, _, _, _, _, _, rfl, _⟩ := h; rfl) | (obtain ⟨_, _, _, _, _, _, _, _, _, _, _, _, _, _, _, rfl, _⟩ := h; rfl) | (split at h <;> first | rfl | exact h.elim)); done) | (first | (obtain ⟨rfl, _⟩ := h; rfl) | (obtain ⟨_, _, _, rfl, _, _, rfl, _⟩ := h; rfl) | (obtain ⟨_, _, _, rfl, _, _, _, rfl, _⟩ := h; rfl) | (obtain ⟨_, rfl, _⟩ := h; rfl) | (obtain ⟨_, _, rfl, _⟩ := h; rfl) | (obtain ⟨_, _, _, rfl, _⟩ := h; rfl) | (obtain ⟨_, _, _, _, rfl, _⟩ := h; rfl) | (obtain ⟨_, _, _, _, _, rfl, _⟩ := h; rfl) | (obtain ⟨_, _, _, _, _, _, rfl, _⟩ := h; rfl) | (obtain ⟨_, _, _, _, _, _, _, rfl, _⟩ := h; rfl) | (obtain ⟨_, _, _, _, _, _, _, _, rfl, _⟩ := h; rfl) | (obtain ⟨_, _, _, _, _, _, _, _, _, rfl, _⟩ := h; rfl) | (obtain ⟨_, _, _, _, _, _, _, _, _, _, rfl, _⟩ := h; rfl) | (obtain ⟨_, _, _, _, _, _, _, _, _, _, _, rfl, _⟩ := h; rfl) | (obtain ⟨_, _, _, _, _, _, _, _, _, _, _, _, rfl, _⟩ := h; rfl) | (obtain ⟨_, _, _, _, _, _, _, _, _, _, _, _, _, rfl, _⟩ := h; rfl) | (obtain ⟨_, _, _, _, _, _, _, _, _, _, _, _, _, _, rfl, _⟩ := h; rfl) | (obtain ⟨_, _, _, _, _, _, _, _, _, _, _, _, _, _, _, rfl, _⟩ := h; rfl) | (split at h <;> first | rfl | exact h.elim))) (fun cdv A_ outer s H E hr => by
    have sc := sc_law_digits_b31862c4
    exact (b_cons (s_set (i := 2) sc.nd (a_lst g_nil)) (b_cons (s_if (t_ge (av 0) (a_pow a_int a_int)) (b_cons (s_for (passes_of rfl) rfl (i_rng1 rfl T.n_range (g_cons (av 1) g_nil)) (g_name 3 sc.nd) (gok_name 3) (b_cons (s_expr (a_append (av 2) (g_cons (a_mod (a_intc rfl T.n_int (g_cons (av 0) g_nil)) a_int) g_nil))) (b_one (s_set (i := 0) sc.nd (a_div (av 0) a_int))))) (b_one (s_ret (a_frz (av 2))))) b_nil) (b_cons (s_set (i := 4) sc.nd (a_mod (a_intc rfl T.n_int (g_cons (a_add (a_mul (av 0) a_int) a_int) g_nil)) a_int)) (b_cons (s_for (passes_of rfl) rfl (i_rng1 rfl T.n_range (g_cons (av 1) g_nil)) (g_name 3 sc.nd) (gok_name 3) (b_cons (s_set (i := 4) sc.nd (a_mod (a_intc rfl T.n_int (g_cons (a_add (a_add (a_mul (av 4) a_int) (a_mul a_int (av 3))) a_int) g_nil)) a_int)) (b_one (s_expr (a_append (av 2) (g_cons (a_mod (a_intc rfl T.n_int (g_cons (a_div (av 4) a_int) g_nil)) a_int) g_nil)))))) (b_one (s_ret (a_frz (av 2))))))))) (rd_law_digits_b31862c4 G)
theorem ok_law_rows_3c71d864 {G : Gx} {mg : Str → Option Value} {A : Ad} {base : Heap} (T : Txt G mg A) : FnOk G.k.P G.k.w G.k.K mg base (L2.CX G.k.P G.k.w) 2 A.f_law_rows_3c71d864 A.fd_law_rows_3c71d864 ["_law_cell_here"] (liftSp G.k (sp_law_rows_3c71d864 G)) :=
  fun_ok (k := 1) (tb := tb_law_rows_3c71d864 G) T.F_law_rows_3c71d864 sc_law_rows_3c71d864 (by intro ds L Q R h; unfold sp_law_rows_3c71d864 at h; first | (rcases h with h | h <;> (first | (obtain ⟨rfl, _⟩ := h; rfl) | (obtain ⟨_, _, _, rfl, _, _, rfl, _⟩ := h; rfl) | (obtain ⟨_, _, _, rfl, _, _, _, rfl, _⟩ := h; rfl) | (obtain ⟨_, rfl, _⟩ := h; rfl) | (obtain ⟨_, _, rfl, _⟩ := h; rfl) | (obtain ⟨_, _, _, rfl, _⟩ := h; rfl) | (obtain ⟨_, _, _, _, rfl, _⟩ := h; rfl) | (obtain ⟨_, _, _, _, _, rfl, _⟩ := h; rfl) | (obtain ⟨_, _, _, _, _, _, rfl, _⟩ := h; rfl) | (obtain ⟨_, _, _, _, _, _, _, rfl, _⟩ := h; rfl) | (obtain ⟨_, _, _, _, _, _, _, _, rfl, _⟩ := h; rfl) | (obtain ⟨_, _, _, _, _, _, _, _, _, rfl, _⟩ := h; rfl) | (obtain ⟨_, _, _, _, _, _, _, _, _, _, rfl, _⟩ := h; rfl) | (obtain ⟨_, _, _, _, _, _, _, _, _, _, _, rfl, _⟩ := h; rfl) | (obtain ⟨_, _, _, _, _, _, _, _, _, _, _, _, rfl, _⟩ := h; rfl) | (obtain ⟨_, _, _, _, _, _, _, _, _, _, _, _, _, rfl, _⟩ := h; rfl) | (obtain ⟨_, _, _, _, _, _, _, _, _, _, _, _, _, _, rfl, _⟩ := h; rfl) | (obtain ⟨_, _, _, _, _, _, _, _, _, _, _, _, _, _, _, rfl, _⟩ := h; rfl) | (split at h <;> first | rfl | exact h.elim)); done) | (first | (obtain ⟨rfl, _⟩ := h; rfl) | (obtain ⟨_, _, _, rfl, _, _, rfl, _⟩ := h; rfl) | (obtain ⟨_, _, _, rfl, _, _, _, rfl, _⟩ := h; rfl) | (obtain ⟨_, rfl, _⟩ := h; rfl) | (obtain ⟨_, _, rfl, _⟩ := h; rfl) | (obtain ⟨_, _, _, rfl, _⟩ := h; rfl) | (obtain ⟨_, _, _, _, rfl, _⟩ := h; rfl) | (obtain ⟨_, _, _, _, _, rfl, _⟩ := h; rfl) | (obtain ⟨_, _, _, _, _, _, rfl, _⟩ := h; rfl) | (obtain ⟨_, _, _, _, _, _, _, rfl, _⟩ := h; rfl) | (obtain ⟨_, _, _, _, _, _, _, _, rfl, _⟩ := h; rfl) | (obtain ⟨_, _, _, _, _, _, _, _, _, rfl, _⟩ := h; rfl) | (obtain ⟨_, _, _, _, _, _, _, _, _, _, rfl, _⟩ := h; rfl) | (obtain ⟨_, _, _, _, _, _, _, _, _, _, _, rfl, _⟩ := h; rfl) | (obtain ⟨_, _, _, _, _, _, _, _, _, _, _, _, rfl, _⟩ := h; rfl) | (obtain ⟨_, _, _, _, _, _, _, _, _, _, _, _, _, rfl, _⟩ := h; rfl) | (obtain ⟨_, _, _, _, _, _, _, _, _, _, _, _, _, _, rfl, _⟩ := h; rfl) | (obtain ⟨_, _, _, _, _, _, _, _, _, _, _, _, _, _, _, rfl, _⟩ := h; rfl) | (split at h <;> first | rfl | exact h.elim))) (fun cdv A_ outer s H E hr => by
    have sc := sc_law_rows_3c71d864
    exact (b_cons (s_set (i := 1) sc.nd (a_call (ok_law_digits_b31862c4 T) (hr.mono (by decide)) rfl T.m_law_digits_b31862c4 T.F_law_digits_b31862c4.kp T.b_law_digits_b31862c4 .nil (fun _ => .nil) (takes_of rfl rfl rfl rfl) (args1 (g_cons (av 0) (g_cons a_int g_nil))))) (b_cons (s_set (i := 2) sc.nd (a_addN newD_ok a_int (a_mod (a_intc rfl T.n_int (g_cons (a_item (av 1) a_int) g_nil)) a_int))) (b_cons (s_set (i := 3) sc.nd (a_addN newD_ok a_int (a_mod (a_intc rfl T.n_int (g_cons (a_item (av 1) a_int) g_nil)) a_int))) (b_cons (s_set (i := 4) sc.nd (a_lstN newR_ok g_nil)) (b_cons (s_for (passes_of rfl) rfl (i_rng1 rfl T.n_range (g_cons (a_addN newD_ok a_int (a_mod (a_intc rfl T.n_int (g_cons (a_item (av 1) a_int) g_nil)) a_int)) g_nil)) (g_name 5 sc.nd) (gok_name 5) (b_one (s_expr (a_append (av 4) (g_cons (a_join a_str (a_lcN (own := [("_law_k", 6)]) newD_ok rfl sc.nd (i_rng1 rfl T.n_range (g_cons (av 2) g_nil)) (blkOk_by (N := ["_law_cell_here", "_law_digits_here", "_law_wide", "_law_often", "_law_rows_here", "_law_line", "_law_k"]) (sc := defScope s_law_rows_3c71d864) (own := [("_law_k", 6)]) (by decide +kernel)) (gok_name 6) (by decide) (fun _ _ _ _ _ => (g_name 6 sc.nd)) (fun _ _ _ _ _ => t_yes) (fun _ _ _ _ _ => (a_ifE (t_eq hr.units (a_mod (a_intc rfl T.n_int (g_cons (a_item (av 1) (a_addN newD_ok (a_addN newD_ok a_int (a_mulT newD_ok a_int (av 5))) (av 6))) g_nil)) (av 3)) a_int) a_str a_str)))) g_nil))))) (b_one (s_ret (a_frz (av 4)))))))))) (rd_law_rows_3c71d864 G)
theorem ok_law_cell_4bc9b38b {G : Gx} {mg : Str → Option Value} {A : Ad} {base : Heap} (T : Txt G mg A) : FnOk G.k.P G.k.w G.k.K mg base (L2.CX G.k.P G.k.w) 1 A.f_law_cell_4bc9b38b A.fd_law_cell_4bc9b38b ["_law_script", "_law_k"] (liftSp G.k (sp_law_cell_4bc9b38b G)) :=
  fun_ok (k := 0) (tb := tb_law_cell_4bc9b38b G) T.F_law_cell_4bc9b38b sc_law_cell_4bc9b38b (by intro ds L Q R h; unfold sp_law_cell_4bc9b38b at h; first | (rcases h with h | h <;> (first | (obtain ⟨rfl, _⟩ := h; rfl) | (obtain ⟨_, _, _, rfl, _, _, rfl, _⟩ := h; rfl) | (obtain ⟨_, _, _, rfl, _, _, _, rfl, _⟩ := h; rfl) | (obtain ⟨_, rfl, _⟩ := h; rfl) | (obtain ⟨_, _, rfl, _⟩ := h; rfl) | (obtain ⟨_, _, _, rfl, _⟩ := h; rfl) | (obtain ⟨_, _, _, _, rfl, _⟩ := h; rfl) | (obtain ⟨_, _, _, _, _, rfl, _⟩ := h; rfl) | (obtain ⟨_, _, _, _, _, _, rfl, _⟩ := h; rfl) | (obtain ⟨_, _, _, _, _, _, _, rfl, _⟩ := h; rfl) | (obtain ⟨_, _, _, _, _, _, _, _, rfl, _⟩ := h; rfl) | (obtain ⟨_, _, _, _, _, _, _, _, _, rfl, _⟩ := h; rfl) | (obtain ⟨_, _, _, _, _, _, _, _, _, _, rfl, _⟩ := h; rfl) | (obtain ⟨_, _, _, _, _, _, _, _, _, _, _, rfl, _⟩ := h; rfl) | (obtain ⟨_, _, _, _, _, _, _, _, _, _, _, _, rfl, _⟩ := h; rfl) | (obtain ⟨_, _, _, _, _, _, _, _, _, _, _, _, _, rfl, _⟩ := h; rfl) | (obtain ⟨_, _, _, _, _, _, _, _, _, _, _, _, _, _, rfl, _⟩ := h; rfl) | (obtain ⟨_, _, _, _, _, _, _, _, _, _, _, _, _, _, _, rfl, _⟩ := h; rfl) | (split at h <;> first | rfl | exact h.elim)); done) | (first | (obtain ⟨rfl, _⟩ := h; rfl) | (obtain ⟨_, _, _, rfl, _, _, rfl, _⟩ := h; rfl) | (obtain ⟨_, _, _, rfl, _, _, _, rfl, _⟩ := h; rfl) | (obtain ⟨_, rfl, _⟩ := h; rfl) | (obtain ⟨_, _, rfl, _⟩ := h; rfl) | (obtain ⟨_, _, _, rfl, _⟩ := h; rfl) | (obtain ⟨_, _, _, _, rfl, _⟩ := h; rfl) | (obtain ⟨_, _, _, _, _, rfl, _⟩ := h; rfl) | (obtain ⟨_, _, _, _, _, _, rfl, _⟩ := h; rfl) | (obtain ⟨_, _, _, _, _, _, _, rfl, _⟩ := h; rfl) | (obtain ⟨_, _, _, _, _, _, _, _, rfl, _⟩ := h; rfl) | (obtain ⟨_, _, _, _, _, _, _, _, _, rfl, _⟩ := h; rfl) | (obtain ⟨_, _, _, _, _, _, _, _, _, _, rfl, _⟩ := h; rfl) | (obtain ⟨_, _, _, _, _, _, _, _, _, _, _, rfl, _⟩ := h; rfl) | (obtain ⟨_, _, _, _, _, _, _, _, _, _, _, _, rfl, _⟩ := h; rfl) | (obtain ⟨_, _, _, _, _, _, _, _, _, _, _, _, _, rfl, _⟩ := h; rfl) | (obtain ⟨_, _, _, _, _, _, _, _, _, _, _, _, _, _, rfl, _⟩ := h; rfl) | (obtain ⟨_, _, _, _, _, _, _, _, _, _, _, _, _, _, _, rfl, _⟩ := h; rfl) | (split at h <;> first | rfl | exact h.elim))) (fun cdv A_ outer s H E hr => by
    have sc := sc_law_cell_4bc9b38b
    exact (b_cons (s_if (t_lt (av 1) (a_len rfl T.n_len (g_cons (av 0) g_nil))) (b_one (s_ret (a_item (av 0) (av 1)))) b_nil) (b_cons (s_set (i := 2) sc.nd (a_add (a_mul a_int (av 1)) a_int)) (b_cons (s_for (passes_of rfl) rfl (i_seq (av 0)) (g_name 3 sc.nd) (gok_name 3) (b_one (s_set (i := 2) sc.nd (a_mod (a_intc rfl T.n_int (g_cons (a_add (a_mul (av 2) a_int) (av 3)) g_nil)) a_int)))) (b_one (s_ret (av 2))))))) (rd_law_cell_4bc9b38b G)
theorem ok_Floor_init {G : Gx} {mg : Str → Option Value} {A : Ad} {base : Heap} (T : Txt G mg A) : FnOk G.k.P G.k.w G.k.K mg base (L2.CX G.k.P G.k.w) 1 A.f_Floor_init A.fd_Floor_init ["self", "rows"] (liftSp G.k (sp_Floor_init G)) :=
  fun_ok (k := 0) (tb := tb_Floor_init G) T.F_Floor_init sc_Floor_init (by intro ds L Q R h; unfold sp_Floor_init at h; first | (rcases h with h | h <;> (first | (obtain ⟨rfl, _⟩ := h; rfl) | (obtain ⟨_, _, _, rfl, _, _, rfl, _⟩ := h; rfl) | (obtain ⟨_, _, _, rfl, _, _, _, rfl, _⟩ := h; rfl) | (obtain ⟨_, rfl, _⟩ := h; rfl) | (obtain ⟨_, _, rfl, _⟩ := h; rfl) | (obtain ⟨_, _, _, rfl, _⟩ := h; rfl) | (obtain ⟨_, _, _, _, rfl, _⟩ := h; rfl) | (obtain ⟨_, _, _, _, _, rfl, _⟩ := h; rfl) | (obtain ⟨_, _, _, _, _, _, rfl, _⟩ := h; rfl) | (obtain ⟨_, _, _, _, _, _, _, rfl, _⟩ := h; rfl) | (obtain ⟨_, _, _, _, _, _, _, _, rfl, _⟩ := h; rfl) | (obtain ⟨_, _, _, _, _, _, _, _, _, rfl, _⟩ := h; rfl) | (obtain ⟨_, _, _, _, _, _, _, _, _, _, rfl, _⟩ := h; rfl) | (obtain ⟨_, _, _, _, _, _, _, _, _, _, _, rfl, _⟩ := h; rfl) | (obtain ⟨_, _, _, _, _, _, _, _, _, _, _, _, rfl, _⟩ := h; rfl) | (obtain ⟨_, _, _, _, _, _, _, _, _, _, _, _, _, rfl, _⟩ := h; rfl) | (obtain ⟨_, _, _, _, _, _, _, _, _, _, _, _, _, _, rfl, _⟩ := h; rfl) | (obtain ⟨_, _, _, _, _, _, _, _, _, _, _, _, _, _, _, rfl, _⟩ := h; rfl) | (split at h <;> first | rfl | exact h.elim)); done) | (first | (obtain ⟨rfl, _⟩ := h; rfl) | (obtain ⟨_, _, _, rfl, _, _, rfl, _⟩ := h; rfl) | (obtain ⟨_, _, _, rfl, _, _, _, rfl, _⟩ := h; rfl) | (obtain ⟨_, rfl, _⟩ := h; rfl) | (obtain ⟨_, _, rfl, _⟩ := h; rfl) | (obtain ⟨_, _, _, rfl, _⟩ := h; rfl) | (obtain ⟨_, _, _, _, rfl, _⟩ := h; rfl) | (obtain ⟨_, _, _, _, _, rfl, _⟩ := h; rfl) | (obtain ⟨_, _, _, _, _, _, rfl, _⟩ := h; rfl) | (obtain ⟨_, _, _, _, _, _, _, rfl, _⟩ := h; rfl) | (obtain ⟨_, _, _, _, _, _, _, _, rfl, _⟩ := h; rfl) | (obtain ⟨_, _, _, _, _, _, _, _, _, rfl, _⟩ := h; rfl) | (obtain ⟨_, _, _, _, _, _, _, _, _, _, rfl, _⟩ := h; rfl) | (obtain ⟨_, _, _, _, _, _, _, _, _, _, _, rfl, _⟩ := h; rfl) | (obtain ⟨_, _, _, _, _, _, _, _, _, _, _, _, rfl, _⟩ := h; rfl) | (obtain ⟨_, _, _, _, _, _, _, _, _, _, _, _, _, rfl, _⟩ := h; rfl) | (obtain ⟨_, _, _, _, _, _, _, _, _, _, _, _, _, _, rfl, _⟩ := h; rfl) | (obtain ⟨_, _, _, _, _, _, _, _, _, _, _, _, _, _, _, rfl, _⟩ := h; rfl) | (split at h <;> first | rfl | exact h.elim))) (fun cdv A_ outer s H E hr => by
    have sc := sc_Floor_init
    exact (b_cons (s_if (PW.pt (w_or (t_not (t_tru (a_isi rfl T.n_isinstance (g_cons (av 1) (g_cons (a_bltn rfl T.n_list (by decide +kernel)) g_nil))))) (w_or1 (t_not (t_leLe a_int (a_len rfl T.n_len (g_cons (av 1) g_nil)) (a_glob rfl T.g_SIDE_MOST.choose_spec rel_int (fun _ => .int _))))))) (b_one (s_raise rfl (takes_of rfl rfl rfl rfl) PySem.F.excBase_ValueError T.x_BadValue T.g_BadValue T.k_BadValue (raises_own T.eb_BadValue T.et_BadValue) rfl)) b_nil) (b_cons (s_for (passes_of rfl) rfl (i_seq (av 1)) (g_name 2 sc.nd) (gok_name 2) (b_cons (s_if (PW.pt (w_or (t_not (t_tru (a_isi rfl T.n_isinstance (g_cons (av 2) (g_cons (a_bltn rfl T.n_str (by decide +kernel)) g_nil))))) (w_or (t_not (t_leLe a_int (a_len rfl T.n_len (g_cons (av 2) g_nil)) (a_glob rfl T.g_SIDE_MOST.choose_spec rel_int (fun _ => .int _)))) (w_or1 (t_ne hr.units (a_len rfl T.n_len (g_cons (av 2) g_nil)) (a_len rfl T.n_len (g_cons (a_item (av 1) a_int) g_nil))))))) (b_one (s_raise rfl (takes_of rfl rfl rfl rfl) PySem.F.excBase_ValueError T.x_BadValue T.g_BadValue T.k_BadValue (raises_own T.eb_BadValue T.et_BadValue) rfl)) b_nil) (b_one (s_if (t_not (t_tru (a_all rfl rfl T.n_all (g_cons (a_lcN (own := [("sign", 3)]) newD_ok rfl sc.nd (i_sig (av 2)) (blkOk_by (N := ["self", "rows", "row", "sign"]) (sc := defScope s_Floor_init) (own := [("sign", 3)]) (by decide +kernel)) (gok_name 3) (by decide) (fun _ _ _ _ _ => (g_name 3 sc.nd)) (fun _ _ _ _ _ => t_yes) (fun _ _ _ _ _ => (a_sin (av 3) a_str))) g_nil)))) (b_one (s_raise rfl (takes_of rfl rfl rfl rfl) PySem.F.excBase_ValueError T.x_BadValue T.g_BadValue T.k_BadValue (raises_own T.eb_BadValue T.et_BadValue) rfl)) b_nil)))) (b_one (s_fnew (av 0) (a_tuple rfl T.n_tuple (g_cons (av 1) g_nil)) T.no_Floor__rows))))) (rd_Floor_init G)
theorem ok_law_clipped_ce61efcc {G : Gx} {mg : Str → Option Value} {A : Ad} {base : Heap} (T : Txt G mg A) : FnOk G.k.P G.k.w G.k.K mg base (L2.CX G.k.P G.k.w) 1 A.f_law_clipped_ce61efcc A.fd_law_clipped_ce61efcc ["_law_cells"] (liftSp G.k (sp_law_clipped_ce61efcc G)) :=
  fun_ok (k := 0) (tb := tb_law_clipped_ce61efcc G) T.F_law_clipped_ce61efcc sc_law_clipped_ce61efcc (by intro ds L Q R h; unfold sp_law_clipped_ce61efcc at h; first | (rcases h with h | h <;> (first | (obtain ⟨rfl, _⟩ := h; rfl) | (obtain ⟨_, _, _, rfl, _, _, rfl, _⟩ := h; rfl) | (obtain ⟨_, _, _, rfl, _, _, _, rfl, _⟩ := h; rfl) | (obtain ⟨_, rfl, _⟩ := h; rfl) | (obtain ⟨_, _, rfl, _⟩ := h; rfl) | (obtain ⟨_, _, _, rfl, _⟩ := h; rfl) | (obtain ⟨_, _, _, _, rfl, _⟩ := h; rfl) | (obtain ⟨_, _, _, _, _, rfl, _⟩ := h; rfl) | (obtain ⟨_, _, _, _, _, _, rfl, _⟩ := h; rfl) | (obtain ⟨_, _, _, _, _, _, _, rfl, _⟩ := h; rfl) | (obtain ⟨_, _, _, _, _, _, _, _, rfl, _⟩ := h; rfl) | (obtain ⟨_, _, _, _, _, _, _, _, _, rfl, _⟩ := h; rfl) | (obtain ⟨_, _, _, _, _, _, _, _, _, _, rfl, _⟩ := h; rfl) | (obtain ⟨_, _, _, _, _, _, _, _, _, _, _, rfl, _⟩ := h; rfl) | (obtain ⟨_, _, _, _, _, _, _, _, _, _, _, _, rfl, _⟩ := h; rfl) | (obtain ⟨_, _, _, _, _, _, _, _, _, _, _, _, _, rfl, _⟩ := h; rfl) | (obtain ⟨_, _, _, _, _, _, _, _, _, _, _, _, _, _, rfl, _⟩ := h; rfl) | (obtain ⟨_, _, _, _, _, _, _, _, _, _, _, _, _, _, _, rfl, _⟩ := h; rfl) | (split at h <;> first | rfl | exact h.elim)); done) | (first | (obtain ⟨rfl, _⟩ := h; rfl) | (obtain ⟨_, _, _, rfl, _, _, rfl, _⟩ := h; rfl) | (obtain ⟨_, _, _, rfl, _, _, _, rfl, _⟩ := h; rfl) | (obtain ⟨_, rfl, _⟩ := h; rfl) | (obtain ⟨_, _, rfl, _⟩ := h; rfl) | (obtain ⟨_, _, _, rfl, _⟩ := h; rfl) | (obtain ⟨_, _, _, _, rfl, _⟩ := h; rfl) | (obtain ⟨_, _, _, _, _, rfl, _⟩ := h; rfl) | (obtain ⟨_, _, _, _, _, _, rfl, _⟩ := h; rfl) | (obtain ⟨_, _, _, _, _, _, _, rfl, _⟩ := h; rfl) | (obtain ⟨_, _, _, _, _, _, _, _, rfl, _⟩ := h; rfl) | (obtain ⟨_, _, _, _, _, _, _, _, _, rfl, _⟩ := h; rfl) | (obtain ⟨_, _, _, _, _, _, _, _, _, _, rfl, _⟩ := h; rfl) | (obtain ⟨_, _, _, _, _, _, _, _, _, _, _, rfl, _⟩ := h; rfl) | (obtain ⟨_, _, _, _, _, _, _, _, _, _, _, _, rfl, _⟩ := h; rfl) | (obtain ⟨_, _, _, _, _, _, _, _, _, _, _, _, _, rfl, _⟩ := h; rfl) | (obtain ⟨_, _, _, _, _, _, _, _, _, _, _, _, _, _, rfl, _⟩ := h; rfl) | (obtain ⟨_, _, _, _, _, _, _, _, _, _, _, _, _, _, _, rfl, _⟩ := h; rfl) | (split at h <;> first | rfl | exact h.elim))) (fun cdv A_ outer s H E hr => by
    have sc := sc_law_clipped_ce61efcc
    exact (b_cons (s_setLcN (own := [("_law_cell_here", 1)]) newD_ok (i := 2) rfl sc.nd rfl (show List.lookup ("_law_lines" : Str) (defScope s_law_clipped_ce61efcc).names = some NameKind.local from by first | rfl | decide +kernel) (sw_true rfl (show List.lookup ("_law_lines" : Str) (defScope s_law_clipped_ce61efcc).names = some NameKind.local from by first | rfl | decide +kernel) rfl (by decide +kernel)) (i_seq (av 0)) (blkOk_by (N := ["_law_cells", "_law_cell_here", "_law_lines", "_law_columns", "_law_rows_here", "_law_line", "_law_row", "_law_column"]) (sc := defScope s_law_clipped_ce61efcc) (own := [("_law_cell_here", 1)]) (by decide +kernel)) (gok_name 1) (by decide) (fun _ _ _ _ _ => (g_name 1 sc.nd)) (fun _ _ _ _ _ => t_yes) (fun _ _ _ _ _ => (a_item (av 1) a_int))) (b_cons (s_setLcN (own := [("_law_cell_here", 1)]) newD_ok (i := 3) rfl sc.nd rfl (show List.lookup ("_law_columns" : Str) (defScope s_law_clipped_ce61efcc).names = some NameKind.local from by first | rfl | decide +kernel) (sw_true rfl (show List.lookup ("_law_columns" : Str) (defScope s_law_clipped_ce61efcc).names = some NameKind.local from by first | rfl | decide +kernel) rfl (by decide +kernel)) (i_seq (av 0)) (blkOk_by (N := ["_law_cells", "_law_cell_here", "_law_lines", "_law_columns", "_law_rows_here", "_law_line", "_law_row", "_law_column"]) (sc := defScope s_law_clipped_ce61efcc) (own := [("_law_cell_here", 1)]) (by decide +kernel)) (gok_name 1) (by decide) (fun _ _ _ _ _ => (g_name 1 sc.nd)) (fun _ _ _ _ _ => t_yes) (fun _ _ _ _ _ => (a_item (av 1) a_int))) (b_cons (s_set (i := 4) sc.nd (a_lstN newR_ok g_nil)) (b_cons (s_for (passes_of rfl) rfl (i_rng2 rfl T.n_range (g_cons (a_minL rfl rfl T.n_min (g_cons (av 2) g_nil)) (g_cons (a_addN newD_ok (a_maxL rfl rfl T.n_max (g_cons (av 2) g_nil)) a_int) g_nil))) (g_name 5 sc.nd) (gok_name 5) (b_cons (s_set (i := 6) sc.nd a_str) (b_cons (s_for (passes_of rfl) rfl (i_rng2 rfl T.n_range (g_cons (a_minL rfl rfl T.n_min (g_cons (av 3) g_nil)) (g_cons (a_addN newD_ok (a_maxL rfl rfl T.n_max (g_cons (av 3) g_nil)) a_int) g_nil))) (g_name 7 sc.nd) (gok_name 7) (b_one (s_set (i := 6) sc.nd (a_addN newD_ok (av 6) (a_ifE (t_Din hr (a_tup (g_cons (av 5) (g_cons (av 7) g_nil))) (av 0)) a_str a_str))))) (b_one (s_expr (a_append (av 4) (g_cons (av 6) g_nil))))))) (b_one (s_ret (a_frz (a_tup (g_cons a_str (g_cons (a_tuple rfl T.n_tuple (g_cons (av 4) g_nil)) g_nil))))))))))) (rd_law_clipped_ce61efcc G)
theorem ok_law_floor_parts_da8a0049 {G : Gx} {mg : Str → Option Value} {A : Ad} {base : Heap} (T : Txt G mg A) : FnOk G.k.P G.k.w G.k.K mg base (L2.CX G.k.P G.k.w) 2 A.f_law_floor_parts_da8a0049 A.fd_law_floor_parts_da8a0049 ["_law_rows_here"] (liftSp G.k (sp_law_floor_parts_da8a0049 G)) :=
  fun_ok (k := 1) (tb := tb_law_floor_parts_da8a0049 G) T.F_law_floor_parts_da8a0049 sc_law_floor_parts_da8a0049 (by intro ds L Q R h; unfold sp_law_floor_parts_da8a0049 at h; first | (rcases h with h | h <;> (first | (obtain ⟨rfl, _⟩ := h; rfl) | (obtain ⟨_, _, _, rfl, _, _, rfl, _⟩ := h; rfl) | (obtain ⟨_, _, _, rfl, _, _, _, rfl, _⟩ := h; rfl) | (obtain ⟨_, rfl, _⟩ := h; rfl) | (obtain ⟨_, _, rfl, _⟩ := h; rfl) | (obtain ⟨_, _, _, rfl, _⟩ := h; rfl) | (obtain ⟨_, _, _, _, rfl, _⟩ := h; rfl) | (obtain ⟨_, _, _, _, _, rfl, _⟩ := h; rfl) | (obtain ⟨_, _, _, _, _, _, rfl, _⟩ := h; rfl) | (obtain ⟨_, _, _, _, _, _, _, rfl, _⟩ := h; rfl) | (obtain ⟨_, _, _, _, _, _, _, _, rfl, _⟩ := h; rfl) | (obtain ⟨_, _, _, _, _, _, _, _, _, rfl, _⟩ := h; rfl) | (obtain ⟨_, _, _, _, _, _, _, _, _, _, rfl, _⟩ := h; rfl) | (obtain ⟨_, _, _, _, _, _, _, _, _, _, _, rfl, _⟩ := h; rfl) | (obtain ⟨_, _, _, _, _, _, _, _, _, _, _, _, rfl, _⟩ := h; rfl) | (obtain ⟨_, _, _, _, _, _, _, _, _, _, _, _, _, rfl, _⟩ := h; rfl) | (obtain ⟨_, _, _, _, _, _, _, _, _, _, _, _, _, _, rfl, _⟩ := h; rfl) | (obtain ⟨_, _, _, _, _, _, _, _, _, _, _, _, _, _, _, rfl, _⟩ := h; rfl) | (split at h <;> first | rfl | exact h.elim)); done) | (first | (obtain ⟨rfl, _⟩ := h; rfl) | (obtain ⟨_, _, _, rfl, _, _, rfl, _⟩ := h; rfl) | (obtain ⟨_, _, _, rfl, _, _, _, rfl, _⟩ := h; rfl) | (obtain ⟨_, rfl, _⟩ := h; rfl) | (obtain ⟨_, _, rfl, _⟩ := h; rfl) | (obtain ⟨_, _, _, rfl, _⟩ := h; rfl) | (obtain ⟨_, _, _, _, rfl, _⟩ := h; rfl) | (obtain ⟨_, _, _, _, _, rfl, _⟩ := h; rfl) | (obtain ⟨_, _, _, _, _, _, rfl, _⟩ := h; rfl) | (obtain ⟨_, _, _, _, _, _, _, rfl, _⟩ := h; rfl) | (obtain ⟨_, _, _, _, _, _, _, _, rfl, _⟩ := h; rfl) | (obtain ⟨_, _, _, _, _, _, _, _, _, rfl, _⟩ := h; rfl) | (obtain ⟨_, _, _, _, _, _, _, _, _, _, rfl, _⟩ := h; rfl) | (obtain ⟨_, _, _, _, _, _, _, _, _, _, _, rfl, _⟩ := h; rfl) | (obtain ⟨_, _, _, _, _, _, _, _, _, _, _, _, rfl, _⟩ := h; rfl) | (obtain ⟨_, _, _, _, _, _, _, _, _, _, _, _, _, rfl, _⟩ := h; rfl) | (obtain ⟨_, _, _, _, _, _, _, _, _, _, _, _, _, _, rfl, _⟩ := h; rfl) | (obtain ⟨_, _, _, _, _, _, _, _, _, _, _, _, _, _, _, rfl, _⟩ := h; rfl) | (split at h <;> first | rfl | exact h.elim))) (fun cdv A_ outer s H E hr => by
    have sc := sc_law_floor_parts_da8a0049
    exact (b_cons (s_setLcN (own := [("_law_k", 1)]) newD_ok (i := 2) rfl sc.nd rfl (show List.lookup ("_law_cells" : Str) (defScope s_law_floor_parts_da8a0049).names = some NameKind.local from by first | rfl | decide +kernel) (sw_true rfl (show List.lookup ("_law_cells" : Str) (defScope s_law_floor_parts_da8a0049).names = some NameKind.local from by first | rfl | decide +kernel) rfl (by decide +kernel)) (i_rng1 rfl T.n_range (g_cons a_int g_nil)) (blkOk_by (N := ["_law_rows_here", "_law_k", "_law_cells", "_law_cell_here", "_law_found", "_law_taken", "_law_first", "_law_part", "_law_turn", "_law_many", "_law_other", "_law_beside"]) (sc := defScope s_law_floor_parts_da8a0049) (own := [("_law_k", 1)]) (by decide +kernel)) (gok_name 1) (by decide) (fun _ _ _ _ _ => (g_name 1 sc.nd)) (fun _ _ _ _ _ => t_yes) (fun _ _ _ _ _ => (a_tup (g_cons (a_div (av 1) a_int) (g_cons (a_mod (a_intc rfl T.n_int (g_cons (av 1) g_nil)) a_int) g_nil))))) (b_cons (s_setLcN (own := [("_law_cell_here", 3)]) newD_ok (i := 2) rfl sc.nd rfl (show List.lookup ("_law_cells" : Str) (defScope s_law_floor_parts_da8a0049).names = some NameKind.local from by first | rfl | decide +kernel) (sw_true rfl (show List.lookup ("_law_cells" : Str) (defScope s_law_floor_parts_da8a0049).names = some NameKind.local from by first | rfl | decide +kernel) rfl (by decide +kernel)) (i_seq (av 2)) (blkOk_by (N := ["_law_rows_here", "_law_k", "_law_cells", "_law_cell_here", "_law_found", "_law_taken", "_law_first", "_law_part", "_law_turn", "_law_many", "_law_other", "_law_beside"]) (sc := defScope s_law_floor_parts_da8a0049) (own := [("_law_cell_here", 3)]) (by decide +kernel)) (gok_name 3) (by decide) (fun _ _ _ _ _ => (g_name 3 sc.nd)) (fun _ _ _ _ _ => (t_one (PW.pt (w_and (t_lt (a_item (av 3) a_int) (a_len rfl T.n_len (g_cons (av 0) g_nil))) (w_and1 (t_eq hr.units (a_sliceN newD_ok (a_item (av 0) (a_min2 rfl rfl T.n_min (g_cons (a_item (av 3) a_int) (g_cons (a_sub (a_len rfl T.n_len (g_cons (av 0) g_nil)) a_int) g_nil)))) (o_some (a_item (av 3) a_int)) (o_some (a_addN newD_ok (a_item (av 3) a_int) a_int))) a_str)))))) (fun _ _ _ _ _ => (av 3))) (b_cons (s_set (i := 4) sc.nd (a_lstN newR_ok g_nil)) (b_cons (s_set (i := 5) sc.nd (a_lstN newD_ok g_nil)) (b_cons (s_for (passes_of rfl) rfl (i_seq (av 2)) (g_name 6 sc.nd) (gok_name 6) (b_one (s_if (t_Dnin hr (av 6) (av 5)) (b_cons (s_set (i := 7) sc.nd (a_lstN newR_ok (g_cons (av 6) g_nil))) (b_cons (s_for (passes_of rfl) rfl (i_rng1 rfl T.n_range (g_cons a_int g_nil)) (g_name 8 sc.nd) (gok_name 8) (b_cons (s_set (i := 9) sc.nd (a_len rfl T.n_len (g_cons (av 7) g_nil))) (b_cons (s_for (passes_of rfl) rfl (i_seq (av 2)) (g_name 3 sc.nd) (gok_name 3) (b_cons (s_setLcN (own := [("_law_other", 10)]) newD_ok (i := 11) rfl sc.nd rfl (show List.lookup ("_law_beside" : Str) (defScope s_law_floor_parts_da8a0049).names = some NameKind.local from by first | rfl | decide +kernel) (sw_true rfl (show List.lookup ("_law_beside" : Str) (defScope s_law_floor_parts_da8a0049).names = some NameKind.local from by first | rfl | decide +kernel) rfl (by decide +kernel)) (i_seq (av 7)) (blkOk_by (N := ["_law_rows_here", "_law_k", "_law_cells", "_law_cell_here", "_law_found", "_law_taken", "_law_first", "_law_part", "_law_turn", "_law_many", "_law_other", "_law_beside"]) (sc := defScope s_law_floor_parts_da8a0049) (own := [("_law_other", 10)]) (by decide +kernel)) (gok_name 10) (by decide) (fun _ _ _ _ _ => (g_name 10 sc.nd)) (fun _ _ _ _ _ => (t_one (t_eq hr.units (a_addN newD_ok (a_abs rfl T.n_abs (g_cons (a_sub (a_item (av 10) a_int) (a_item (av 3) a_int)) g_nil)) (a_abs rfl T.n_abs (g_cons (a_sub (a_item (av 10) a_int) (a_item (av 3) a_int)) g_nil))) a_int))) (fun _ _ _ _ _ => (av 10))) (b_one (s_if (PW.pt (w_and (t_Dnin hr (av 3) (av 7)) (w_and1 (t_gt (a_len rfl T.n_len (g_cons (av 11) g_nil)) a_int)))) (b_one (s_expr (a_append (av 7) (g_cons (av 3) g_nil)))) b_nil)))) (b_one (s_if (t_eq hr.units (a_len rfl T.n_len (g_cons (av 7) g_nil)) (av 9)) (b_one s_break) b_nil))))) (b_cons (s_set (i := 5) sc.nd (a_addN newD_ok (av 5) (av 7))) (b_one (s_if (t_gt (a_len rfl T.n_len (g_cons (av 7) g_nil)) a_int) (b_one (s_expr (a_append (av 4) (g_cons (a_call (ok_law_clipped_ce61efcc T) (hr.mono (by decide)) rfl T.m_law_clipped_ce61efcc T.F_law_clipped_ce61efcc.kp T.b_law_clipped_ce61efcc .nil (fun _ => .nil) (takes_of rfl rfl rfl rfl) (args1 (g_cons (av 7) g_nil))) g_nil)))) b_nil))))) b_nil))) (b_one (s_ret (a_frz (av 4)))))))))) (rd_law_floor_parts_da8a0049 G)
theorem ok_law_same_04c10c30 {G : Gx} {mg : Str → Option Value} {A : Ad} {base : Heap} (T : Txt G mg A) : ∀ n : Nat, FnOk G.k.P G.k.w G.k.K mg base (L2.CX G.k.P G.k.w) (1 + n) A.f_law_same_04c10c30 A.fd_law_same_04c10c30 ["_law_told_here", "_law_due"] (liftSp G.k (sp_law_same_04c10c30 n G))
  | 0 => fun_bot (k := 0) T.F_law_same_04c10c30 sc_law_same_04c10c30 (fun ds L Q R h => by first | exact h | exact absurd h.1 (Nat.lt_irrefl 0))
  | n + 1 => fun_ok (k := 1 + n) (tb := tb_law_same_04c10c30 n G) T.F_law_same_04c10c30 sc_law_same_04c10c30 (by intro ds L Q R h; unfold sp_law_same_04c10c30 at h; first | (rcases h with h | h <;> (first | (obtain ⟨rfl, _⟩ := h; rfl) | (obtain ⟨_, _, _, rfl, _, _, rfl, _⟩ := h; rfl) | (obtain ⟨_, _, _, rfl, _, _, _, rfl, _⟩ := h; rfl) | (obtain ⟨_, rfl, _⟩ := h; rfl) | (obtain ⟨_, _, rfl, _⟩ := h; rfl) | (obtain ⟨_, _, _, rfl, _⟩ := h; rfl) | (obtain ⟨_, _, _, _, rfl, _⟩ := h; rfl) | (obtain ⟨_, _, _, _, _, rfl, _⟩ := h; rfl) | (obtain ⟨_, _, _, _, _, _, rfl, _⟩ := h; rfl) | (obtain ⟨_, _, _, _, _, _, _, rfl, _⟩ := h; rfl) | (obtain ⟨_, _, _, _, _, _, _, _, rfl, _⟩ := h; rfl) | (obtain ⟨_, _, _, _, _, _, _, _, _, rfl, _⟩ := h; rfl) | (obtain ⟨_, _, _, _, _, _, _, _, _, _, rfl, _⟩ := h; rfl) | (obtain ⟨_, _, _, _, _, _, _, _, _, _, _, rfl, _⟩ := h; rfl) | (obtain ⟨_, _, _, _, _, _, _, _, _, _, _, _, rfl, _⟩ := h; rfl) | (obtain ⟨_, _, _, _, _, _, _, _, _, _, _, _, _, rfl, _⟩ := h; rfl) | (obtain ⟨_, _, _, _, _, _, _, _, _, _, _, _, _, _, rfl, _⟩ := h; rfl) | (obtain ⟨_, _, _, _, _, _, _, _, _, _, _, _, _, _, _, rfl, _⟩ := h; rfl) | (split at h <;> first | rfl | exact h.elim)); done) | (first | (obtain ⟨rfl, _⟩ := h; rfl) | (obtain ⟨_, _, _, rfl, _, _, rfl, _⟩ := h; rfl) | (obtain ⟨_, _, _, rfl, _, _, _, rfl, _⟩ := h; rfl) | (obtain ⟨_, rfl, _⟩ := h; rfl) | (obtain ⟨_, _, rfl, _⟩ := h; rfl) | (obtain ⟨_, _, _, rfl, _⟩ := h; rfl) | (obtain ⟨_, _, _, _, rfl, _⟩ := h; rfl) | (obtain ⟨_, _, _, _, _, rfl, _⟩ := h; rfl) | (obtain ⟨_, _, _, _, _, _, rfl, _⟩ := h; rfl) | (obtain ⟨_, _, _, _, _, _, _, rfl, _⟩ := h; rfl) | (obtain ⟨_, _, _, _, _, _, _, _, rfl, _⟩ := h; rfl) | (obtain ⟨_, _, _, _, _, _, _, _, _, rfl, _⟩ := h; rfl) | (obtain ⟨_, _, _, _, _, _, _, _, _, _, rfl, _⟩ := h; rfl) | (obtain ⟨_, _, _, _, _, _, _, _, _, _, _, rfl, _⟩ := h; rfl) | (obtain ⟨_, _, _, _, _, _, _, _, _, _, _, _, rfl, _⟩ := h; rfl) | (obtain ⟨_, _, _, _, _, _, _, _, _, _, _, _, _, rfl, _⟩ := h; rfl) | (obtain ⟨_, _, _, _, _, _, _, _, _, _, _, _, _, _, rfl, _⟩ := h; rfl) | (obtain ⟨_, _, _, _, _, _, _, _, _, _, _, _, _, _, _, rfl, _⟩ := h; rfl) | (split at h <;> first | rfl | exact h.elim))) (fun cdv A_ outer s H E hr => by
    have sc := sc_law_same_04c10c30
    exact (b_cons (s_if (t_tru (a_isi rfl T.n_isinstance (g_cons (av 1) (g_cons (a_bltn rfl T.n_tuple (by decide +kernel)) g_nil)))) (b_cons (s_if (PW.pt (w_or (t_not (t_tru (a_isi rfl T.n_isinstance (g_cons (av 0) (g_cons (a_bltn rfl T.n_tuple (by decide +kernel)) g_nil))))) (w_or1 (t_ne hr.units (a_len rfl T.n_len (g_cons (av 0) g_nil)) (a_len rfl T.n_len (g_cons (av 1) g_nil)))))) (b_one (s_ret a_bl)) b_nil) (b_cons (s_for (passes_of rfl) rfl (i_rng1 rfl T.n_range (g_cons (a_len rfl T.n_len (g_cons (av 1) g_nil)) g_nil)) (g_name 2 sc.nd) (gok_name 2) (b_one (s_if (t_not (t_tru (a_call (ok_law_same_04c10c30 T n) (hr.mono (Nat.le_refl _)) rfl T.m_law_same_04c10c30 T.F_law_same_04c10c30.kp T.b_law_same_04c10c30 .nil (fun _ => .nil) (takes_of rfl rfl rfl rfl) (args1 (g_cons (a_item (av 0) (av 2)) (g_cons (a_item (av 1) (av 2)) g_nil)))))) (b_one (s_ret a_bl)) b_nil))) (b_one (s_ret a_bl)))) b_nil) (b_cons (s_if (t_tru (a_isi rfl T.n_isinstance (g_cons (av 1) (g_cons (a_bltn rfl T.n_str (by decide +kernel)) g_nil)))) (b_one (s_ret (a_and (a_isi rfl T.n_isinstance (g_cons (av 0) (g_cons (a_bltn rfl T.n_str (by decide +kernel)) g_nil))) (a_one (a_eq hr.units (av 0) (av 1)))))) b_nil) (b_one (s_ret (a_and (a_isi rfl T.n_isinstance (g_cons (av 0) (g_cons (a_bltn rfl T.n_int (by decide +kernel)) g_nil))) (a_and (a_notB (a_isi rfl T.n_isinstance (g_cons (av 0) (g_cons (a_bltn rfl T.n_bool (by decide +kernel)) g_nil)))) (a_one (a_eq hr.units (av 0) (av 1)))))))))) (rd_law_same_04c10c30 G n)
theorem ok_Floor_value {G : Gx} {mg : Str → Option Value} {A : Ad} {base : Heap} (T : Txt G mg A) : FnOk G.k.P G.k.w G.k.K mg base (L2.CX G.k.P G.k.w) 1 A.f_Floor_value A.fd_Floor_value ["self"] (liftSp G.k (sp_Floor_value G)) :=
  fun_ok (k := 0) (tb := tb_Floor_value G) T.F_Floor_value sc_Floor_value (by intro ds L Q R h; unfold sp_Floor_value at h; first | (rcases h with h | h <;> (first | (obtain ⟨rfl, _⟩ := h; rfl) | (obtain ⟨_, _, _, rfl, _, _, rfl, _⟩ := h; rfl) | (obtain ⟨_, _, _, rfl, _, _, _, rfl, _⟩ := h; rfl) | (obtain ⟨_, rfl, _⟩ := h; rfl) | (obtain ⟨_, _, rfl, _⟩ := h; rfl) | (obtain ⟨_, _, _, rfl, _⟩ := h; rfl) | (obtain ⟨_, _, _, _, rfl, _⟩ := h; rfl) | (obtain ⟨_, _, _, _, _, rfl, _⟩ := h; rfl) | (obtain ⟨_, _, _, _, _, _, rfl, _⟩ := h; rfl) | (obtain ⟨_, _, _, _, _, _, _, rfl, _⟩ := h; rfl) | (obtain ⟨_, _, _, _, _, _, _, _, rfl, _⟩ := h; rfl) | (obtain ⟨_, _, _, _, _, _, _, _, _, rfl, _⟩ := h; rfl) | (obtain ⟨_, _, _, _, _, _, _, _, _, _, rfl, _⟩ := h; rfl) | (obtain ⟨_, _, _, _, _, _, _, _, _, _, _, rfl, _⟩ := h; rfl) | (obtain ⟨_, _, _, _, _, _, _, _, _, _, _, _, rfl, _⟩ := h; rfl) | (obtain ⟨_, _, _, _, _, _, _, _, _, _, _, _, _, rfl, _⟩ := h; rfl) | (obtain ⟨_, _, _, _, _, _, _, _, _, _, _, _, _, _, rfl, _⟩ := h; rfl) | (obtain ⟨_, _, _, _, _, _, _, _, _, _, _, _, _, _, _, rfl, _⟩ := h; rfl) | (split at h <;> first | rfl | exact h.elim)); done) | (first | (obtain ⟨rfl, _⟩ := h; rfl) | (obtain ⟨_, _, _, rfl, _, _, rfl, _⟩ := h; rfl) | (obtain ⟨_, _, _, rfl, _, _, _, rfl, _⟩ := h; rfl) | (obtain ⟨_, rfl, _⟩ := h; rfl) | (obtain ⟨_, _, rfl, _⟩ := h; rfl) | (obtain ⟨_, _, _, rfl, _⟩ := h; rfl) | (obtain ⟨_, _, _, _, rfl, _⟩ := h; rfl) | (obtain ⟨_, _, _, _, _, rfl, _⟩ := h; rfl) | (obtain ⟨_, _, _, _, _, _, rfl, _⟩ := h; rfl) | (obtain ⟨_, _, _, _, _, _, _, rfl, _⟩ := h; rfl) | (obtain ⟨_, _, _, _, _, _, _, _, rfl, _⟩ := h; rfl) | (obtain ⟨_, _, _, _, _, _, _, _, _, rfl, _⟩ := h; rfl) | (obtain ⟨_, _, _, _, _, _, _, _, _, _, rfl, _⟩ := h; rfl) | (obtain ⟨_, _, _, _, _, _, _, _, _, _, _, rfl, _⟩ := h; rfl) | (obtain ⟨_, _, _, _, _, _, _, _, _, _, _, _, rfl, _⟩ := h; rfl) | (obtain ⟨_, _, _, _, _, _, _, _, _, _, _, _, _, rfl, _⟩ := h; rfl) | (obtain ⟨_, _, _, _, _, _, _, _, _, _, _, _, _, _, rfl, _⟩ := h; rfl) | (obtain ⟨_, _, _, _, _, _, _, _, _, _, _, _, _, _, _, rfl, _⟩ := h; rfl) | (split at h <;> first | rfl | exact h.elim))) (fun cdv A_ outer s H E hr => by
    have sc := sc_Floor_value
    exact (b_one (s_ret (a_tup (g_cons a_str (g_cons (a_fld 0 (av 0)) g_nil)))))) (rd_Floor_value G)
theorem ok_law_told_87c2cc6e {G : Gx} {mg : Str → Option Value} {A : Ad} {base : Heap} (T : Txt G mg A) : FnOk G.k.P G.k.w G.k.K mg base (L2.CX G.k.P G.k.w) 8 A.f_law_told_87c2cc6e A.fd_law_told_87c2cc6e ["_law_boards", "_law_dues"] (liftSp G.k (sp_law_told_87c2cc6e G)) :=
  fun_ok (k := 7) (tb := tb_law_told_87c2cc6e G) T.F_law_told_87c2cc6e sc_law_told_87c2cc6e (by intro ds L Q R h; unfold sp_law_told_87c2cc6e at h; first | (rcases h with h | h <;> (first | (obtain ⟨rfl, _⟩ := h; rfl) | (obtain ⟨_, _, _, rfl, _, _, rfl, _⟩ := h; rfl) | (obtain ⟨_, _, _, rfl, _, _, _, rfl, _⟩ := h; rfl) | (obtain ⟨_, rfl, _⟩ := h; rfl) | (obtain ⟨_, _, rfl, _⟩ := h; rfl) | (obtain ⟨_, _, _, rfl, _⟩ := h; rfl) | (obtain ⟨_, _, _, _, rfl, _⟩ := h; rfl) | (obtain ⟨_, _, _, _, _, rfl, _⟩ := h; rfl) | (obtain ⟨_, _, _, _, _, _, rfl, _⟩ := h; rfl) | (obtain ⟨_, _, _, _, _, _, _, rfl, _⟩ := h; rfl) | (obtain ⟨_, _, _, _, _, _, _, _, rfl, _⟩ := h; rfl) | (obtain ⟨_, _, _, _, _, _, _, _, _, rfl, _⟩ := h; rfl) | (obtain ⟨_, _, _, _, _, _, _, _, _, _, rfl, _⟩ := h; rfl) | (obtain ⟨_, _, _, _, _, _, _, _, _, _, _, rfl, _⟩ := h; rfl) | (obtain ⟨_, _, _, _, _, _, _, _, _, _, _, _, rfl, _⟩ := h; rfl) | (obtain ⟨_, _, _, _, _, _, _, _, _, _, _, _, _, rfl, _⟩ := h; rfl) | (obtain ⟨_, _, _, _, _, _, _, _, _, _, _, _, _, _, rfl, _⟩ := h; rfl) | (obtain ⟨_, _, _, _, _, _, _, _, _, _, _, _, _, _, _, rfl, _⟩ := h; rfl) | (split at h <;> first | rfl | exact h.elim)); done) | (first | (obtain ⟨rfl, _⟩ := h; rfl) | (obtain ⟨_, _, _, rfl, _, _, rfl, _⟩ := h; rfl) | (obtain ⟨_, _, _, rfl, _, _, _, rfl, _⟩ := h; rfl) | (obtain ⟨_, rfl, _⟩ := h; rfl) | (obtain ⟨_, _, rfl, _⟩ := h; rfl) | (obtain ⟨_, _, _, rfl, _⟩ := h; rfl) | (obtain ⟨_, _, _, _, rfl, _⟩ := h; rfl) | (obtain ⟨_, _, _, _, _, rfl, _⟩ := h; rfl) | (obtain ⟨_, _, _, _, _, _, rfl, _⟩ := h; rfl) | (obtain ⟨_, _, _, _, _, _, _, rfl, _⟩ := h; rfl) | (obtain ⟨_, _, _, _, _, _, _, _, rfl, _⟩ := h; rfl) | (obtain ⟨_, _, _, _, _, _, _, _, _, rfl, _⟩ := h; rfl) | (obtain ⟨_, _, _, _, _, _, _, _, _, _, rfl, _⟩ := h; rfl) | (obtain ⟨_, _, _, _, _, _, _, _, _, _, _, rfl, _⟩ := h; rfl) | (obtain ⟨_, _, _, _, _, _, _, _, _, _, _, _, rfl, _⟩ := h; rfl) | (obtain ⟨_, _, _, _, _, _, _, _, _, _, _, _, _, rfl, _⟩ := h; rfl) | (obtain ⟨_, _, _, _, _, _, _, _, _, _, _, _, _, _, rfl, _⟩ := h; rfl) | (obtain ⟨_, _, _, _, _, _, _, _, _, _, _, _, _, _, _, rfl, _⟩ := h; rfl) | (split at h <;> first | rfl | exact h.elim))) (fun cdv A_ outer s H E hr => by
    have sc := sc_law_told_87c2cc6e
    exact (b_cons (s_if (PW.pt (w_or (t_not (t_tru (a_isi rfl T.n_isinstance (g_cons (av 0) (g_cons (a_bltn rfl T.n_list (by decide +kernel)) g_nil))))) (w_or1 (t_ne hr.units (a_len rfl T.n_len (g_cons (av 0) g_nil)) (a_len rfl T.n_len (g_cons (av 1) g_nil)))))) (b_one (s_ret a_bl)) b_nil) (b_cons (s_for (passes_of rfl) rfl (i_rng1 rfl T.n_range (g_cons (a_len rfl T.n_len (g_cons (av 1) g_nil)) g_nil)) (g_name 2 sc.nd) (gok_name 2) (b_one (s_if (PW.pt (w_or (t_not (t_tru (a_isi rfl T.n_isinstance (g_cons (a_item (av 0) (av 2)) (g_cons (a_glob rfl T.g_Floor rel_ref (fun _ => .ref _)) g_nil))))) (w_or1 (t_not (t_tru (a_call (ok_law_same_04c10c30 T 6) (hr.mono (by decide)) rfl T.m_law_same_04c10c30 T.F_law_same_04c10c30.kp T.b_law_same_04c10c30 .nil (fun _ => .nil) (takes_of rfl rfl rfl rfl) (args1 (g_cons (a_meth (a_item (av 0) (av 2)) T.cl_Floor T.Mt_Floor_value (ok_Floor_value T) (hr.mono (by decide)) T.b_Floor_value .nil (fun _ => .nil) (takes_of rfl rfl rfl rfl) args0) (g_cons (a_item (av 1) (av 2)) g_nil))))))))) (b_one (s_ret a_bl)) b_nil))) (b_cons (s_expr (a_reverse (av 0))) (b_cons (s_expr (a_append (av 0) (g_cons a_non g_nil))) (b_one (s_ret (a_frz a_bl)))))))) (rd_law_told_87c2cc6e G)
theorem ok_Floor_free {G : Gx} {mg : Str → Option Value} {A : Ad} {base : Heap} (T : Txt G mg A) : FnOk G.k.P G.k.w G.k.K mg base (L2.CX G.k.P G.k.w) 1 A.f_Floor_free A.fd_Floor_free ["self"] (liftSp G.k (sp_Floor_free G)) :=
  fun_ok (k := 0) (tb := tb_Floor_free G) T.F_Floor_free sc_Floor_free (by intro ds L Q R h; unfold sp_Floor_free at h; first | (rcases h with h | h <;> (first | (obtain ⟨rfl, _⟩ := h; rfl) | (obtain ⟨_, _, _, rfl, _, _, rfl, _⟩ := h; rfl) | (obtain ⟨_, _, _, rfl, _, _, _, rfl, _⟩ := h; rfl) | (obtain ⟨_, rfl, _⟩ := h; rfl) | (obtain ⟨_, _, rfl, _⟩ := h; rfl) | (obtain ⟨_, _, _, rfl, _⟩ := h; rfl) | (obtain ⟨_, _, _, _, rfl, _⟩ := h; rfl) | (obtain ⟨_, _, _, _, _, rfl, _⟩ := h; rfl) | (obtain ⟨_, _, _, _, _, _, rfl, _⟩ := h; rfl) | (obtain ⟨_, _, _, _, _, _, _, rfl, _⟩ := h; rfl) | (obtain ⟨_, _, _, _, _, _, _, _, rfl, _⟩ := h; rfl) | (obtain ⟨_, _, _, _, _, _, _, _, _, rfl, _⟩ := h; rfl) | (obtain ⟨_, _, _, _, _, _, _, _, _, _, rfl, _⟩ := h; rfl) | (obtain ⟨_, _, _, _, _, _, _, _, _, _, _, rfl, _⟩ := h; rfl) | (obtain ⟨_, _, _, _, _, _, _, _, _, _, _, _, rfl, _⟩ := h; rfl) | (obtain ⟨_, _, _, _, _, _, _, _, _, _, _, _, _, rfl, _⟩ := h; rfl) | (obtain ⟨_, _, _, _, _, _, _, _, _, _, _, _, _, _, rfl, _⟩ := h; rfl) | (obtain ⟨_, _, _, _, _, _, _, _, _, _, _, _, _, _, _, rfl, _⟩ := h; rfl) | (split at h <;> first | rfl | exact h.elim)); done) | (first | (obtain ⟨rfl, _⟩ := h; rfl) | (obtain ⟨_, _, _, rfl, _, _, rfl, _⟩ := h; rfl) | (obtain ⟨_, _, _, rfl, _, _, _, rfl, _⟩ := h; rfl) | (obtain ⟨_, rfl, _⟩ := h; rfl) | (obtain ⟨_, _, rfl, _⟩ := h; rfl) | (obtain ⟨_, _, _, rfl, _⟩ := h; rfl) | (obtain ⟨_, _, _, _, rfl, _⟩ := h; rfl) | (obtain ⟨_, _, _, _, _, rfl, _⟩ := h; rfl) | (obtain ⟨_, _, _, _, _, _, rfl, _⟩ := h; rfl) | (obtain ⟨_, _, _, _, _, _, _, rfl, _⟩ := h; rfl) | (obtain ⟨_, _, _, _, _, _, _, _, rfl, _⟩ := h; rfl) | (obtain ⟨_, _, _, _, _, _, _, _, _, rfl, _⟩ := h; rfl) | (obtain ⟨_, _, _, _, _, _, _, _, _, _, rfl, _⟩ := h; rfl) | (obtain ⟨_, _, _, _, _, _, _, _, _, _, _, rfl, _⟩ := h; rfl) | (obtain ⟨_, _, _, _, _, _, _, _, _, _, _, _, rfl, _⟩ := h; rfl) | (obtain ⟨_, _, _, _, _, _, _, _, _, _, _, _, _, rfl, _⟩ := h; rfl) | (obtain ⟨_, _, _, _, _, _, _, _, _, _, _, _, _, _, rfl, _⟩ := h; rfl) | (obtain ⟨_, _, _, _, _, _, _, _, _, _, _, _, _, _, _, rfl, _⟩ := h; rfl) | (split at h <;> first | rfl | exact h.elim))) (fun cdv A_ outer s H E hr => by
    have sc := sc_Floor_free
    exact (b_cons (s_set (i := 1) sc.nd (a_lstN newR_ok g_nil)) (b_cons (s_for (passes_of rfl) rfl (i_enB rfl T.n_enumerate (g_cons (a_fld 0 (av 0)) g_nil)) (pg_tup rfl (pgs_cons (g_name 2 sc.nd) (pgs_cons (g_name 3 sc.nd) pgs_nil))) (gok_tup [2, 3]) (b_one (s_expr (a_extend (av 1) (g_cons (a_lcN (own := [("column", 4), ("sign", 5)]) newD_ok rfl sc.nd (i_enS rfl T.n_enumerate (g_cons (av 3) g_nil)) (blkOk_by (N := ["self", "found", "line", "row", "column", "sign"]) (sc := defScope s_Floor_free) (own := [("column", 4), ("sign", 5)]) (by decide +kernel)) (gok_tup [4, 5]) (by decide) (fun _ _ _ _ _ => (pg_tup rfl (pgs_cons (g_name 4 sc.nd) (pgs_cons (g_name 5 sc.nd) pgs_nil)))) (fun _ _ _ _ _ => (t_one (t_eq hr.units (av 5) a_str))) (fun _ _ _ _ _ => (a_tup (g_cons (av 2) (g_cons (av 4) g_nil))))) g_nil))))) (b_one (s_ret (a_frz (av 1))))))) (rd_Floor_free G)
theorem ok_around {G : Gx} {mg : Str → Option Value} {A : Ad} {base : Heap} (T : Txt G mg A) : FnOk G.k.P G.k.w G.k.K mg base (L2.CX G.k.P G.k.w) 1 A.f_around A.fd_around ["cell"] (liftSp G.k (sp_around G)) :=
  fun_ok (k := 0) (tb := tb_around G) T.F_around sc_around (by intro ds L Q R h; unfold sp_around at h; first | (rcases h with h | h <;> (first | (obtain ⟨rfl, _⟩ := h; rfl) | (obtain ⟨_, _, _, rfl, _, _, rfl, _⟩ := h; rfl) | (obtain ⟨_, _, _, rfl, _, _, _, rfl, _⟩ := h; rfl) | (obtain ⟨_, rfl, _⟩ := h; rfl) | (obtain ⟨_, _, rfl, _⟩ := h; rfl) | (obtain ⟨_, _, _, rfl, _⟩ := h; rfl) | (obtain ⟨_, _, _, _, rfl, _⟩ := h; rfl) | (obtain ⟨_, _, _, _, _, rfl, _⟩ := h; rfl) | (obtain ⟨_, _, _, _, _, _, rfl, _⟩ := h; rfl) | (obtain ⟨_, _, _, _, _, _, _, rfl, _⟩ := h; rfl) | (obtain ⟨_, _, _, _, _, _, _, _, rfl, _⟩ := h; rfl) | (obtain ⟨_, _, _, _, _, _, _, _, _, rfl, _⟩ := h; rfl) | (obtain ⟨_, _, _, _, _, _, _, _, _, _, rfl, _⟩ := h; rfl) | (obtain ⟨_, _, _, _, _, _, _, _, _, _, _, rfl, _⟩ := h; rfl) | (obtain ⟨_, _, _, _, _, _, _, _, _, _, _, _, rfl, _⟩ := h; rfl) | (obtain ⟨_, _, _, _, _, _, _, _, _, _, _, _, _, rfl, _⟩ := h; rfl) | (obtain ⟨_, _, _, _, _, _, _, _, _, _, _, _, _, _, rfl, _⟩ := h; rfl) | (obtain ⟨_, _, _, _, _, _, _, _, _, _, _, _, _, _, _, rfl, _⟩ := h; rfl) | (split at h <;> first | rfl | exact h.elim)); done) | (first | (obtain ⟨rfl, _⟩ := h; rfl) | (obtain ⟨_, _, _, rfl, _, _, rfl, _⟩ := h; rfl) | (obtain ⟨_, _, _, rfl, _, _, _, rfl, _⟩ := h; rfl) | (obtain ⟨_, rfl, _⟩ := h; rfl) | (obtain ⟨_, _, rfl, _⟩ := h; rfl) | (obtain ⟨_, _, _, rfl, _⟩ := h; rfl) | (obtain ⟨_, _, _, _, rfl, _⟩ := h; rfl) | (obtain ⟨_, _, _, _, _, rfl, _⟩ := h; rfl) | (obtain ⟨_, _, _, _, _, _, rfl, _⟩ := h; rfl) | (obtain ⟨_, _, _, _, _, _, _, rfl, _⟩ := h; rfl) | (obtain ⟨_, _, _, _, _, _, _, _, rfl, _⟩ := h; rfl) | (obtain ⟨_, _, _, _, _, _, _, _, _, rfl, _⟩ := h; rfl) | (obtain ⟨_, _, _, _, _, _, _, _, _, _, rfl, _⟩ := h; rfl) | (obtain ⟨_, _, _, _, _, _, _, _, _, _, _, rfl, _⟩ := h; rfl) | (obtain ⟨_, _, _, _, _, _, _, _, _, _, _, _, rfl, _⟩ := h; rfl) | (obtain ⟨_, _, _, _, _, _, _, _, _, _, _, _, _, rfl, _⟩ := h; rfl) | (obtain ⟨_, _, _, _, _, _, _, _, _, _, _, _, _, _, rfl, _⟩ := h; rfl) | (obtain ⟨_, _, _, _, _, _, _, _, _, _, _, _, _, _, _, rfl, _⟩ := h; rfl) | (split at h <;> first | rfl | exact h.elim))) (fun cdv A_ outer s H E hr => by
    have sc := sc_around
    exact (b_cons (s_asgT (av 0) (pg_tup rfl (pgs_cons (g_name 1 sc.nd) (pgs_cons (g_name 2 sc.nd) pgs_nil))) (gok_tup [1, 2])) (b_one (s_ret (a_lstN newS_ok (g_cons (a_tup (g_cons (a_sub (av 1) a_int) (g_cons (av 2) g_nil))) (g_cons (a_tup (g_cons (a_addN newD_ok (av 1) a_int) (g_cons (av 2) g_nil))) (g_cons (a_tup (g_cons (av 1) (g_cons (a_sub (av 2) a_int) g_nil))) (g_cons (a_tup (g_cons (av 1) (g_cons (a_addN newD_ok (av 2) a_int) g_nil))) g_nil))))))))) (rd_around G)
theorem ok_joined {G : Gx} {mg : Str → Option Value} {A : Ad} {base : Heap} (T : Txt G mg A) : FnOk G.k.P G.k.w G.k.K mg base (L2.CX G.k.P G.k.w) 2 A.f_joined A.fd_joined ["cells"] (liftSp G.k (sp_joined G)) :=
  fun_ok (k := 1) (tb := tb_joined G) T.F_joined sc_joined (by intro ds L Q R h; unfold sp_joined at h; first | (rcases h with h | h <;> (first | (obtain ⟨rfl, _⟩ := h; rfl) | (obtain ⟨_, _, _, rfl, _, _, rfl, _⟩ := h; rfl) | (obtain ⟨_, _, _, rfl, _, _, _, rfl, _⟩ := h; rfl) | (obtain ⟨_, rfl, _⟩ := h; rfl) | (obtain ⟨_, _, rfl, _⟩ := h; rfl) | (obtain ⟨_, _, _, rfl, _⟩ := h; rfl) | (obtain ⟨_, _, _, _, rfl, _⟩ := h; rfl) | (obtain ⟨_, _, _, _, _, rfl, _⟩ := h; rfl) | (obtain ⟨_, _, _, _, _, _, rfl, _⟩ := h; rfl) | (obtain ⟨_, _, _, _, _, _, _, rfl, _⟩ := h; rfl) | (obtain ⟨_, _, _, _, _, _, _, _, rfl, _⟩ := h; rfl) | (obtain ⟨_, _, _, _, _, _, _, _, _, rfl, _⟩ := h; rfl) | (obtain ⟨_, _, _, _, _, _, _, _, _, _, rfl, _⟩ := h; rfl) | (obtain ⟨_, _, _, _, _, _, _, _, _, _, _, rfl, _⟩ := h; rfl) | (obtain ⟨_, _, _, _, _, _, _, _, _, _, _, _, rfl, _⟩ := h; rfl) | (obtain ⟨_, _, _, _, _, _, _, _, _, _, _, _, _, rfl, _⟩ := h; rfl) | (obtain ⟨_, _, _, _, _, _, _, _, _, _, _, _, _, _, rfl, _⟩ := h; rfl) | (obtain ⟨_, _, _, _, _, _, _, _, _, _, _, _, _, _, _, rfl, _⟩ := h; rfl) | (split at h <;> first | rfl | exact h.elim)); done) | (first | (obtain ⟨rfl, _⟩ := h; rfl) | (obtain ⟨_, _, _, rfl, _, _, rfl, _⟩ := h; rfl) | (obtain ⟨_, _, _, rfl, _, _, _, rfl, _⟩ := h; rfl) | (obtain ⟨_, rfl, _⟩ := h; rfl) | (obtain ⟨_, _, rfl, _⟩ := h; rfl) | (obtain ⟨_, _, _, rfl, _⟩ := h; rfl) | (obtain ⟨_, _, _, _, rfl, _⟩ := h; rfl) | (obtain ⟨_, _, _, _, _, rfl, _⟩ := h; rfl) | (obtain ⟨_, _, _, _, _, _, rfl, _⟩ := h; rfl) | (obtain ⟨_, _, _, _, _, _, _, rfl, _⟩ := h; rfl) | (obtain ⟨_, _, _, _, _, _, _, _, rfl, _⟩ := h; rfl) | (obtain ⟨_, _, _, _, _, _, _, _, _, rfl, _⟩ := h; rfl) | (obtain ⟨_, _, _, _, _, _, _, _, _, _, rfl, _⟩ := h; rfl) | (obtain ⟨_, _, _, _, _, _, _, _, _, _, _, rfl, _⟩ := h; rfl) | (obtain ⟨_, _, _, _, _, _, _, _, _, _, _, _, rfl, _⟩ := h; rfl) | (obtain ⟨_, _, _, _, _, _, _, _, _, _, _, _, _, rfl, _⟩ := h; rfl) | (obtain ⟨_, _, _, _, _, _, _, _, _, _, _, _, _, _, rfl, _⟩ := h; rfl) | (obtain ⟨_, _, _, _, _, _, _, _, _, _, _, _, _, _, _, rfl, _⟩ := h; rfl) | (split at h <;> first | rfl | exact h.elim))) (fun cdv A_ outer s H E hr => by
    have sc := sc_joined
    exact (b_cons (s_set (i := 1) sc.nd (a_dict1T hr (a_item (av 0) a_int) a_bl)) (b_cons (s_set (i := 2) sc.nd (a_lstN newR_ok (g_cons (a_item (av 0) a_int) g_nil))) (b_cons (s_while (passes_of rfl) (t_tru (av 2)) (b_one (s_for (passes_of rfl) rfl (i_seq (a_call (ok_around T) (hr.mono (by decide)) rfl T.m_around T.F_around.kp T.b_around .nil (fun _ => .nil) (takes_of rfl rfl rfl rfl) (args1 (g_cons (a_pop (av 2)) g_nil)))) (g_name 3 sc.nd) (gok_name 3) (b_one (s_if (PW.pt (w_and (t_Din hr (av 3) (av 0)) (w_and1 (t_tnin hr (av 3) (av 1))))) (b_cons (s_tput hr (av 1) (av 3) a_bl) (b_one (s_expr (a_append (av 2) (g_cons (av 3) g_nil))))) b_nil))))) (b_one (s_ret (a_frz (a_listD rfl newS_ok rfl T.n_list (g_cons (av 1) g_nil))))))))) (rd_joined G)
theorem ok_clipped {G : Gx} {mg : Str → Option Value} {A : Ad} {base : Heap} (T : Txt G mg A) : FnOk G.k.P G.k.w G.k.K mg base (L2.CX G.k.P G.k.w) 1 A.f_clipped A.fd_clipped ["cells"] (liftSp G.k (sp_clipped G)) :=
  fun_ok (k := 0) (tb := tb_clipped G) T.F_clipped sc_clipped (by intro ds L Q R h; unfold sp_clipped at h; first | (rcases h with h | h <;> (first | (obtain ⟨rfl, _⟩ := h; rfl) | (obtain ⟨_, _, _, rfl, _, _, rfl, _⟩ := h; rfl) | (obtain ⟨_, _, _, rfl, _, _, _, rfl, _⟩ := h; rfl) | (obtain ⟨_, rfl, _⟩ := h; rfl) | (obtain ⟨_, _, rfl, _⟩ := h; rfl) | (obtain ⟨_, _, _, rfl, _⟩ := h; rfl) | (obtain ⟨_, _, _, _, rfl, _⟩ := h; rfl) | (obtain ⟨_, _, _, _, _, rfl, _⟩ := h; rfl) | (obtain ⟨_, _, _, _, _, _, rfl, _⟩ := h; rfl) | (obtain ⟨_, _, _, _, _, _, _, rfl, _⟩ := h; rfl) | (obtain ⟨_, _, _, _, _, _, _, _, rfl, _⟩ := h; rfl) | (obtain ⟨_, _, _, _, _, _, _, _, _, rfl, _⟩ := h; rfl) | (obtain ⟨_, _, _, _, _, _, _, _, _, _, rfl, _⟩ := h; rfl) | (obtain ⟨_, _, _, _, _, _, _, _, _, _, _, rfl, _⟩ := h; rfl) | (obtain ⟨_, _, _, _, _, _, _, _, _, _, _, _, rfl, _⟩ := h; rfl) | (obtain ⟨_, _, _, _, _, _, _, _, _, _, _, _, _, rfl, _⟩ := h; rfl) | (obtain ⟨_, _, _, _, _, _, _, _, _, _, _, _, _, _, rfl, _⟩ := h; rfl) | (obtain ⟨_, _, _, _, _, _, _, _, _, _, _, _, _, _, _, rfl, _⟩ := h; rfl) | (split at h <;> first | rfl | exact h.elim)); done) | (first | (obtain ⟨rfl, _⟩ := h; rfl) | (obtain ⟨_, _, _, rfl, _, _, rfl, _⟩ := h; rfl) | (obtain ⟨_, _, _, rfl, _, _, _, rfl, _⟩ := h; rfl) | (obtain ⟨_, rfl, _⟩ := h; rfl) | (obtain ⟨_, _, rfl, _⟩ := h; rfl) | (obtain ⟨_, _, _, rfl, _⟩ := h; rfl) | (obtain ⟨_, _, _, _, rfl, _⟩ := h; rfl) | (obtain ⟨_, _, _, _, _, rfl, _⟩ := h; rfl) | (obtain ⟨_, _, _, _, _, _, rfl, _⟩ := h; rfl) | (obtain ⟨_, _, _, _, _, _, _, rfl, _⟩ := h; rfl) | (obtain ⟨_, _, _, _, _, _, _, _, rfl, _⟩ := h; rfl) | (obtain ⟨_, _, _, _, _, _, _, _, _, rfl, _⟩ := h; rfl) | (obtain ⟨_, _, _, _, _, _, _, _, _, _, rfl, _⟩ := h; rfl) | (obtain ⟨_, _, _, _, _, _, _, _, _, _, _, rfl, _⟩ := h; rfl) | (obtain ⟨_, _, _, _, _, _, _, _, _, _, _, _, rfl, _⟩ := h; rfl) | (obtain ⟨_, _, _, _, _, _, _, _, _, _, _, _, _, rfl, _⟩ := h; rfl) | (obtain ⟨_, _, _, _, _, _, _, _, _, _, _, _, _, _, rfl, _⟩ := h; rfl) | (obtain ⟨_, _, _, _, _, _, _, _, _, _, _, _, _, _, _, rfl, _⟩ := h; rfl) | (split at h <;> first | rfl | exact h.elim))) (fun cdv A_ outer s H E hr => by
    have sc := sc_clipped
    exact (b_cons (s_setLcN (own := [("cell", 1)]) newD_ok (i := 2) rfl sc.nd rfl (show List.lookup ("lines" : Str) (defScope s_clipped).names = some NameKind.local from by first | rfl | decide +kernel) (sw_true rfl (show List.lookup ("lines" : Str) (defScope s_clipped).names = some NameKind.local from by first | rfl | decide +kernel) rfl (by decide +kernel)) (i_seq (av 0)) (blkOk_by (N := ["cells", "cell", "lines", "columns", "found", "line", "column"]) (sc := defScope s_clipped) (own := [("cell", 1)]) (by decide +kernel)) (gok_name 1) (by decide) (fun _ _ _ _ _ => (g_name 1 sc.nd)) (fun _ _ _ _ _ => t_yes) (fun _ _ _ _ _ => (a_item (av 1) a_int))) (b_cons (s_setLcN (own := [("cell", 1)]) newD_ok (i := 3) rfl sc.nd rfl (show List.lookup ("columns" : Str) (defScope s_clipped).names = some NameKind.local from by first | rfl | decide +kernel) (sw_true rfl (show List.lookup ("columns" : Str) (defScope s_clipped).names = some NameKind.local from by first | rfl | decide +kernel) rfl (by decide +kernel)) (i_seq (av 0)) (blkOk_by (N := ["cells", "cell", "lines", "columns", "found", "line", "column"]) (sc := defScope s_clipped) (own := [("cell", 1)]) (by decide +kernel)) (gok_name 1) (by decide) (fun _ _ _ _ _ => (g_name 1 sc.nd)) (fun _ _ _ _ _ => t_yes) (fun _ _ _ _ _ => (a_item (av 1) a_int))) (b_cons (s_set (i := 4) sc.nd (a_lstN newR_ok g_nil)) (b_cons (s_for (passes_of rfl) rfl (i_rng2 rfl T.n_range (g_cons (a_minL rfl rfl T.n_min (g_cons (av 2) g_nil)) (g_cons (a_addN newD_ok (a_maxL rfl rfl T.n_max (g_cons (av 2) g_nil)) a_int) g_nil))) (g_name 5 sc.nd) (gok_name 5) (b_one (s_expr (a_append (av 4) (g_cons (a_join a_str (a_lcN (own := [("column", 6)]) newD_ok rfl sc.nd (i_rng2 rfl T.n_range (g_cons (a_minL rfl rfl T.n_min (g_cons (av 3) g_nil)) (g_cons (a_addN newD_ok (a_maxL rfl rfl T.n_max (g_cons (av 3) g_nil)) a_int) g_nil))) (blkOk_by (N := ["cells", "cell", "lines", "columns", "found", "line", "column"]) (sc := defScope s_clipped) (own := [("column", 6)]) (by decide +kernel)) (gok_name 6) (by decide) (fun _ _ _ _ _ => (g_name 6 sc.nd)) (fun _ _ _ _ _ => t_yes) (fun _ _ _ _ _ => (a_item a_str (a_intc rfl T.n_int (g_cons (a_Din hr (a_tup (g_cons (av 5) (g_cons (av 6) g_nil))) (av 0)) g_nil)))))) g_nil))))) (b_one (s_ret (a_frz (av 4))))))))) (rd_clipped G)
theorem ok_Floor_parts {G : Gx} {mg : Str → Option Value} {A : Ad} {base : Heap} (T : Txt G mg A) : FnOk G.k.P G.k.w G.k.K mg base (L2.CX G.k.P G.k.w) 3 A.f_Floor_parts A.fd_Floor_parts ["self"] (liftSp G.k (sp_Floor_parts G)) :=
  fun_ok (k := 2) (tb := tb_Floor_parts G) T.F_Floor_parts sc_Floor_parts (by intro ds L Q R h; unfold sp_Floor_parts at h; first | (rcases h with h | h <;> (first | (obtain ⟨rfl, _⟩ := h; rfl) | (obtain ⟨_, _, _, rfl, _, _, rfl, _⟩ := h; rfl) | (obtain ⟨_, _, _, rfl, _, _, _, rfl, _⟩ := h; rfl) | (obtain ⟨_, rfl, _⟩ := h; rfl) | (obtain ⟨_, _, rfl, _⟩ := h; rfl) | (obtain ⟨_, _, _, rfl, _⟩ := h; rfl) | (obtain ⟨_, _, _, _, rfl, _⟩ := h; rfl) | (obtain ⟨_, _, _, _, _, rfl, _⟩ := h; rfl) | (obtain ⟨_, _, _, _, _, _, rfl, _⟩ := h; rfl) | (obtain ⟨_, _, _, _, _, _, _, rfl, _⟩ := h; rfl) | (obtain ⟨_, _, _, _, _, _, _, _, rfl, _⟩ := h; rfl) | (obtain ⟨_, _, _, _, _, _, _, _, _, rfl, _⟩ := h; rfl) | (obtain ⟨_, _, _, _, _, _, _, _, _, _, rfl, _⟩ := h; rfl) | (obtain ⟨_, _, _, _, _, _, _, _, _, _, _, rfl, _⟩ := h; rfl) | (obtain ⟨_, _, _, _, _, _, _, _, _, _, _, _, rfl, _⟩ := h; rfl) | (obtain ⟨_, _, _, _, _, _, _, _, _, _, _, _, _, rfl, _⟩ := h; rfl) | (obtain ⟨_, _, _, _, _, _, _, _, _, _, _, _, _, _, rfl, _⟩ := h; rfl) | (obtain ⟨_, _, _, _, _, _, _, _, _, _, _, _, _, _, _, rfl, _⟩ := h; rfl) | (split at h <;> first | rfl | exact h.elim)); done) | (first | (obtain ⟨rfl, _⟩ := h; rfl) | (obtain ⟨_, _, _, rfl, _, _, rfl, _⟩ := h; rfl) | (obtain ⟨_, _, _, rfl, _, _, _, rfl, _⟩ := h; rfl) | (obtain ⟨_, rfl, _⟩ := h; rfl) | (obtain ⟨_, _, rfl, _⟩ := h; rfl) | (obtain ⟨_, _, _, rfl, _⟩ := h; rfl) | (obtain ⟨_, _, _, _, rfl, _⟩ := h; rfl) | (obtain ⟨_, _, _, _, _, rfl, _⟩ := h; rfl) | (obtain ⟨_, _, _, _, _, _, rfl, _⟩ := h; rfl) | (obtain ⟨_, _, _, _, _, _, _, rfl, _⟩ := h; rfl) | (obtain ⟨_, _, _, _, _, _, _, _, rfl, _⟩ := h; rfl) | (obtain ⟨_, _, _, _, _, _, _, _, _, rfl, _⟩ := h; rfl) | (obtain ⟨_, _, _, _, _, _, _, _, _, _, rfl, _⟩ := h; rfl) | (obtain ⟨_, _, _, _, _, _, _, _, _, _, _, rfl, _⟩ := h; rfl) | (obtain ⟨_, _, _, _, _, _, _, _, _, _, _, _, rfl, _⟩ := h; rfl) | (obtain ⟨_, _, _, _, _, _, _, _, _, _, _, _, _, rfl, _⟩ := h; rfl) | (obtain ⟨_, _, _, _, _, _, _, _, _, _, _, _, _, _, rfl, _⟩ := h; rfl) | (obtain ⟨_, _, _, _, _, _, _, _, _, _, _, _, _, _, _, rfl, _⟩ := h; rfl) | (split at h <;> first | rfl | exact h.elim))) (fun cdv A_ outer s H E hr => by
    have sc := sc_Floor_parts
    exact (b_cons (s_set (i := 1) sc.nd (a_meth (av 0) T.cl_Floor T.Mt_Floor_free (ok_Floor_free T) (hr.mono (by decide)) T.b_Floor_free .nil (fun _ => .nil) (takes_of rfl rfl rfl rfl) args0)) (b_cons (s_set (i := 2) sc.nd (a_lstN newR_ok g_nil)) (b_cons (s_while (passes_of rfl) (t_tru (av 1)) (b_cons (s_set (i := 3) sc.nd (a_call (ok_joined T) (hr.mono (by decide)) rfl T.m_joined T.F_joined.kp T.b_joined .nil (fun _ => .nil) (takes_of rfl rfl rfl rfl) (args1 (g_cons (av 1) g_nil)))) (b_cons (s_setLcN (own := [("cell", 4)]) newD_ok (i := 1) rfl sc.nd rfl (show List.lookup ("left" : Str) (defScope s_Floor_parts).names = some NameKind.local from by first | rfl | decide +kernel) (sw_true rfl (show List.lookup ("left" : Str) (defScope s_Floor_parts).names = some NameKind.local from by first | rfl | decide +kernel) rfl (by decide +kernel)) (i_seq (av 1)) (blkOk_by (N := ["self", "left", "found", "part", "cell"]) (sc := defScope s_Floor_parts) (own := [("cell", 4)]) (by decide +kernel)) (gok_name 4) (by decide) (fun _ _ _ _ _ => (g_name 4 sc.nd)) (fun _ _ _ _ _ => (t_one (t_Dnin hr (av 4) (av 3)))) (fun _ _ _ _ _ => (av 4))) (b_one (s_if (t_gt (a_len rfl T.n_len (g_cons (av 3) g_nil)) a_int) (b_one (s_expr (a_append (av 2) (g_cons (a_make T.mk_Floor T.fo_Floor (ok_Floor_init T) (mkok1_Floor_init G) (hr.mono (by decide)) rfl T.g_Floor T.b_Floor_init .nil (fun _ => .nil) (takes_of rfl rfl rfl rfl) (args1 (g_cons (a_call (ok_clipped T) (hr.mono (by decide)) rfl T.m_clipped T.F_clipped.kp T.b_clipped .nil (fun _ => .nil) (takes_of rfl rfl rfl rfl) (args1 (g_cons (av 3) g_nil))) g_nil))) g_nil)))) b_nil))))) (b_one (s_ret (a_frz (av 2)))))))) (rd_Floor_parts G)
theorem ok_law_covered_27bf77b2 {G : Gx} {mg : Str → Option Value} {A : Ad} {base : Heap} (T : Txt G mg A) : FnOk G.k.P G.k.w G.k.K mg base (L2.CX G.k.P G.k.w) 1 A.f_law_covered_27bf77b2 A.fd_law_covered_27bf77b2 ["_law_rows_here", "_law_line", "_law_column"] (liftSp G.k (sp_law_covered_27bf77b2 G)) :=
  fun_ok (k := 0) (tb := tb_law_covered_27bf77b2 G) T.F_law_covered_27bf77b2 sc_law_covered_27bf77b2 (by intro ds L Q R h; unfold sp_law_covered_27bf77b2 at h; first | (rcases h with h | h <;> (first | (obtain ⟨rfl, _⟩ := h; rfl) | (obtain ⟨_, _, _, rfl, _, _, rfl, _⟩ := h; rfl) | (obtain ⟨_, _, _, rfl, _, _, _, rfl, _⟩ := h; rfl) | (obtain ⟨_, rfl, _⟩ := h; rfl) | (obtain ⟨_, _, rfl, _⟩ := h; rfl) | (obtain ⟨_, _, _, rfl, _⟩ := h; rfl) | (obtain ⟨_, _, _, _, rfl, _⟩ := h; rfl) | (obtain ⟨_, _, _, _, _, rfl, _⟩ := h; rfl) | (obtain ⟨_, _, _, _, _, _, rfl, _⟩ := h; rfl) | (obtain ⟨_, _, _, _, _, _, _, rfl, _⟩ := h; rfl) | (obtain ⟨_, _, _, _, _, _, _, _, rfl, _⟩ := h; rfl) | (obtain ⟨_, _, _, _, _, _, _, _, _, rfl, _⟩ := h; rfl) | (obtain ⟨_, _, _, _, _, _, _, _, _, _, rfl, _⟩ := h; rfl) | (obtain ⟨_, _, _, _, _, _, _, _, _, _, _, rfl, _⟩ := h; rfl) | (obtain ⟨_, _, _, _, _, _, _, _, _, _, _, _, rfl, _⟩ := h; rfl) | (obtain ⟨_, _, _, _, _, _, _, _, _, _, _, _, _, rfl, _⟩ := h; rfl) | (obtain ⟨_, _, _, _, _, _, _, _, _, _, _, _, _, _, rfl, _⟩ := h; rfl) | (obtain ⟨_, _, _, _, _, _, _, _, _, _, _, _, _, _, _, rfl, _⟩ := h; rfl) | (split at h <;> first | rfl | exact h.elim)); done) | (first | (obtain ⟨rfl, _⟩ := h; rfl) | (obtain ⟨_, _, _, rfl, _, _, rfl, _⟩ := h; rfl) | (obtain ⟨_, _, _, rfl, _, _, _, rfl, _⟩ := h; rfl) | (obtain ⟨_, rfl, _⟩ := h; rfl) | (obtain ⟨_, _, rfl, _⟩ := h; rfl) | (obtain ⟨_, _, _, rfl, _⟩ := h; rfl) | (obtain ⟨_, _, _, _, rfl, _⟩ := h; rfl) | (obtain ⟨_, _, _, _, _, rfl, _⟩ := h; rfl) | (obtain ⟨_, _, _, _, _, _, rfl, _⟩ := h; rfl) | (obtain ⟨_, _, _, _, _, _, _, rfl, _⟩ := h; rfl) | (obtain ⟨_, _, _, _, _, _, _, _, rfl, _⟩ := h; rfl) | (obtain ⟨_, _, _, _, _, _, _, _, _, rfl, _⟩ := h; rfl) | (obtain ⟨_, _, _, _, _, _, _, _, _, _, rfl, _⟩ := h; rfl) | (obtain ⟨_, _, _, _, _, _, _, _, _, _, _, rfl, _⟩ := h; rfl) | (obtain ⟨_, _, _, _, _, _, _, _, _, _, _, _, rfl, _⟩ := h; rfl) | (obtain ⟨_, _, _, _, _, _, _, _, _, _, _, _, _, rfl, _⟩ := h; rfl) | (obtain ⟨_, _, _, _, _, _, _, _, _, _, _, _, _, _, rfl, _⟩ := h; rfl) | (obtain ⟨_, _, _, _, _, _, _, _, _, _, _, _, _, _, _, rfl, _⟩ := h; rfl) | (split at h <;> first | rfl | exact h.elim))) (fun cdv A_ outer s H E hr => by
    have sc := sc_law_covered_27bf77b2
    exact (b_cons (s_set (i := 3) sc.nd (a_item (av 0) (av 1))) (b_one (s_ret (a_addN newS_ok (a_addN newD_ok (a_sliceN newD_ok (av 0) o_none (o_some (av 1))) (a_tup (g_cons (a_addN newD_ok (a_addN newD_ok (a_sliceN newD_ok (av 3) o_none (o_some (av 2))) a_str) (a_sliceN newD_ok (av 3) (o_some (a_addN newD_ok (av 2) a_int)) o_none)) g_nil))) (a_sliceN newD_ok (av 0) (o_some (a_addN newD_ok (av 1) a_int)) o_none)))))) (rd_law_covered_27bf77b2 G)
theorem ok_law_floor_moves_d092ad0b {G : Gx} {mg : Str → Option Value} {A : Ad} {base : Heap} (T : Txt G mg A) : FnOk G.k.P G.k.w G.k.K mg base (L2.CX G.k.P G.k.w) 2 A.f_law_floor_moves_d092ad0b A.fd_law_floor_moves_d092ad0b ["_law_rows_here", "_law_side"] (liftSp G.k (sp_law_floor_moves_d092ad0b G)) :=
  fun_ok (k := 1) (tb := tb_law_floor_moves_d092ad0b G) T.F_law_floor_moves_d092ad0b sc_law_floor_moves_d092ad0b (by intro ds L Q R h; unfold sp_law_floor_moves_d092ad0b at h; first | (rcases h with h | h <;> (first | (obtain ⟨rfl, _⟩ := h; rfl) | (obtain ⟨_, _, _, rfl, _, _, rfl, _⟩ := h; rfl) | (obtain ⟨_, _, _, rfl, _, _, _, rfl, _⟩ := h; rfl) | (obtain ⟨_, rfl, _⟩ := h; rfl) | (obtain ⟨_, _, rfl, _⟩ := h; rfl) | (obtain ⟨_, _, _, rfl, _⟩ := h; rfl) | (obtain ⟨_, _, _, _, rfl, _⟩ := h; rfl) | (obtain ⟨_, _, _, _, _, rfl, _⟩ := h; rfl) | (obtain ⟨_, _, _, _, _, _, rfl, _⟩ := h; rfl) | (obtain ⟨_, _, _, _, _, _, _, rfl, _⟩ := h; rfl) | (obtain ⟨_, _, _, _, _, _, _, _, rfl, _⟩ := h; rfl) | (obtain ⟨_, _, _, _, _, _, _, _, _, rfl, _⟩ := h; rfl) | (obtain ⟨_, _, _, _, _, _, _, _, _, _, rfl, _⟩ := h; rfl) | (obtain ⟨_, _, _, _, _, _, _, _, _, _, _, rfl, _⟩ := h; rfl) | (obtain ⟨_, _, _, _, _, _, _, _, _, _, _, _, rfl, _⟩ := h; rfl) | (obtain ⟨_, _, _, _, _, _, _, _, _, _, _, _, _, rfl, _⟩ := h; rfl) | (obtain ⟨_, _, _, _, _, _, _, _, _, _, _, _, _, _, rfl, _⟩ := h; rfl) | (obtain ⟨_, _, _, _, _, _, _, _, _, _, _, _, _, _, _, rfl, _⟩ := h; rfl) | (split at h <;> first | rfl | exact h.elim)); done) | (first | (obtain ⟨rfl, _⟩ := h; rfl) | (obtain ⟨_, _, _, rfl, _, _, rfl, _⟩ := h; rfl) | (obtain ⟨_, _, _, rfl, _, _, _, rfl, _⟩ := h; rfl) | (obtain ⟨_, rfl, _⟩ := h; rfl) | (obtain ⟨_, _, rfl, _⟩ := h; rfl) | (obtain ⟨_, _, _, rfl, _⟩ := h; rfl) | (obtain ⟨_, _, _, _, rfl, _⟩ := h; rfl) | (obtain ⟨_, _, _, _, _, rfl, _⟩ := h; rfl) | (obtain ⟨_, _, _, _, _, _, rfl, _⟩ := h; rfl) | (obtain ⟨_, _, _, _, _, _, _, rfl, _⟩ := h; rfl) | (obtain ⟨_, _, _, _, _, _, _, _, rfl, _⟩ := h; rfl) | (obtain ⟨_, _, _, _, _, _, _, _, _, rfl, _⟩ := h; rfl) | (obtain ⟨_, _, _, _, _, _, _, _, _, _, rfl, _⟩ := h; rfl) | (obtain ⟨_, _, _, _, _, _, _, _, _, _, _, rfl, _⟩ := h; rfl) | (obtain ⟨_, _, _, _, _, _, _, _, _, _, _, _, rfl, _⟩ := h; rfl) | (obtain ⟨_, _, _, _, _, _, _, _, _, _, _, _, _, rfl, _⟩ := h; rfl) | (obtain ⟨_, _, _, _, _, _, _, _, _, _, _, _, _, _, rfl, _⟩ := h; rfl) | (obtain ⟨_, _, _, _, _, _, _, _, _, _, _, _, _, _, _, rfl, _⟩ := h; rfl) | (split at h <;> first | rfl | exact h.elim))) (fun cdv A_ outer s H E hr => by
    have sc := sc_law_floor_moves_d092ad0b
    exact (b_cons (s_set (i := 2) sc.nd (a_ifE (t_eq hr.units (av 1) a_str) a_int a_int)) (b_cons (s_set (i := 3) sc.nd (a_lstN newR_ok g_nil)) (b_cons (s_for (passes_of rfl) rfl (i_rng1 rfl T.n_range (g_cons (a_sub (a_len rfl T.n_len (g_cons (av 0) g_nil)) (av 2)) g_nil)) (g_name 4 sc.nd) (gok_name 4) (b_one (s_for (passes_of rfl) rfl (i_rng1 rfl T.n_range (g_cons (a_addN newD_ok (a_sub (a_len rfl T.n_len (g_cons (a_item (av 0) a_int) g_nil)) a_int) (av 2)) g_nil)) (g_name 5 sc.nd) (gok_name 5) (b_one (s_if (PW.pt (w_and (t_eq hr.units (a_item (a_item (av 0) (av 4)) (av 5)) a_str) (w_and1 (t_eq hr.units (a_item (a_item (av 0) (a_addN newD_ok (av 4) (av 2))) (a_sub (a_addN newD_ok (av 5) a_int) (av 2))) a_str)))) (b_cons (s_set (i := 6) sc.nd (a_call (ok_law_covered_27bf77b2 T) (hr.mono (by decide)) rfl T.m_law_covered_27bf77b2 T.F_law_covered_27bf77b2.kp T.b_law_covered_27bf77b2 .nil (fun _ => .nil) (takes_of rfl rfl rfl rfl) (args1 (g_cons (av 0) (g_cons (av 4) (g_cons (av 5) g_nil)))))) (b_one (s_expr (a_append (av 3) (g_cons (a_tup (g_cons a_str (g_cons (a_call (ok_law_covered_27bf77b2 T) (hr.mono (by decide)) rfl T.m_law_covered_27bf77b2 T.F_law_covered_27bf77b2.kp T.b_law_covered_27bf77b2 .nil (fun _ => .nil) (takes_of rfl rfl rfl rfl) (args1 (g_cons (av 6) (g_cons (a_addN newD_ok (av 4) (av 2)) (g_cons (a_sub (a_addN newD_ok (av 5) a_int) (av 2)) g_nil))))) g_nil))) g_nil))))) b_nil))))) (b_one (s_ret (a_frz (av 3)))))))) (rd_law_floor_moves_d092ad0b G)
theorem ok_covered {G : Gx} {mg : Str → Option Value} {A : Ad} {base : Heap} (T : Txt G mg A) : FnOk G.k.P G.k.w G.k.K mg base (L2.CX G.k.P G.k.w) 1 A.f_covered A.fd_covered ["rows", "cells"] (liftSp G.k (sp_covered G)) :=
  fun_ok (k := 0) (tb := tb_covered G) T.F_covered sc_covered (by intro ds L Q R h; unfold sp_covered at h; first | (rcases h with h | h <;> (first | (obtain ⟨rfl, _⟩ := h; rfl) | (obtain ⟨_, _, _, rfl, _, _, rfl, _⟩ := h; rfl) | (obtain ⟨_, _, _, rfl, _, _, _, rfl, _⟩ := h; rfl) | (obtain ⟨_, rfl, _⟩ := h; rfl) | (obtain ⟨_, _, rfl, _⟩ := h; rfl) | (obtain ⟨_, _, _, rfl, _⟩ := h; rfl) | (obtain ⟨_, _, _, _, rfl, _⟩ := h; rfl) | (obtain ⟨_, _, _, _, _, rfl, _⟩ := h; rfl) | (obtain ⟨_, _, _, _, _, _, rfl, _⟩ := h; rfl) | (obtain ⟨_, _, _, _, _, _, _, rfl, _⟩ := h; rfl) | (obtain ⟨_, _, _, _, _, _, _, _, rfl, _⟩ := h; rfl) | (obtain ⟨_, _, _, _, _, _, _, _, _, rfl, _⟩ := h; rfl) | (obtain ⟨_, _, _, _, _, _, _, _, _, _, rfl, _⟩ := h; rfl) | (obtain ⟨_, _, _, _, _, _, _, _, _, _, _, rfl, _⟩ := h; rfl) | (obtain ⟨_, _, _, _, _, _, _, _, _, _, _, _, rfl, _⟩ := h; rfl) | (obtain ⟨_, _, _, _, _, _, _, _, _, _, _, _, _, rfl, _⟩ := h; rfl) | (obtain ⟨_, _, _, _, _, _, _, _, _, _, _, _, _, _, rfl, _⟩ := h; rfl) | (obtain ⟨_, _, _, _, _, _, _, _, _, _, _, _, _, _, _, rfl, _⟩ := h; rfl) | (split at h <;> first | rfl | exact h.elim)); done) | (first | (obtain ⟨rfl, _⟩ := h; rfl) | (obtain ⟨_, _, _, rfl, _, _, rfl, _⟩ := h; rfl) | (obtain ⟨_, _, _, rfl, _, _, _, rfl, _⟩ := h; rfl) | (obtain ⟨_, rfl, _⟩ := h; rfl) | (obtain ⟨_, _, rfl, _⟩ := h; rfl) | (obtain ⟨_, _, _, rfl, _⟩ := h; rfl) | (obtain ⟨_, _, _, _, rfl, _⟩ := h; rfl) | (obtain ⟨_, _, _, _, _, rfl, _⟩ := h; rfl) | (obtain ⟨_, _, _, _, _, _, rfl, _⟩ := h; rfl) | (obtain ⟨_, _, _, _, _, _, _, rfl, _⟩ := h; rfl) | (obtain ⟨_, _, _, _, _, _, _, _, rfl, _⟩ := h; rfl) | (obtain ⟨_, _, _, _, _, _, _, _, _, rfl, _⟩ := h; rfl) | (obtain ⟨_, _, _, _, _, _, _, _, _, _, rfl, _⟩ := h; rfl) | (obtain ⟨_, _, _, _, _, _, _, _, _, _, _, rfl, _⟩ := h; rfl) | (obtain ⟨_, _, _, _, _, _, _, _, _, _, _, _, rfl, _⟩ := h; rfl) | (obtain ⟨_, _, _, _, _, _, _, _, _, _, _, _, _, rfl, _⟩ := h; rfl) | (obtain ⟨_, _, _, _, _, _, _, _, _, _, _, _, _, _, rfl, _⟩ := h; rfl) | (obtain ⟨_, _, _, _, _, _, _, _, _, _, _, _, _, _, _, rfl, _⟩ := h; rfl) | (split at h <;> first | rfl | exact h.elim))) (fun cdv A_ outer s H E hr => by
    have sc := sc_covered
    exact (b_cons (s_set (i := 2) sc.nd (a_lstN newR_ok g_nil)) (b_cons (s_for (passes_of rfl) rfl (i_enB rfl T.n_enumerate (g_cons (av 0) g_nil)) (pg_tup rfl (pgs_cons (g_name 3 sc.nd) (pgs_cons (g_name 4 sc.nd) pgs_nil))) (gok_tup [3, 4]) (b_cons (s_set (i := 5) sc.nd (a_listT rfl newR_ok rfl T.n_list (g_cons (av 4) g_nil))) (b_cons (s_for (passes_of rfl) rfl (i_seq (av 1)) (pg_tup rfl (pgs_cons (g_name 6 sc.nd) (pgs_cons (g_name 7 sc.nd) pgs_nil))) (gok_tup [6, 7]) (b_one (s_if (t_eq hr.units (av 6) (av 3)) (b_one (s_setIx (av 5) (av 7) a_str)) b_nil))) (b_one (s_expr (a_append (av 2) (g_cons (a_join a_str (av 5)) g_nil))))))) (b_one (s_ret (a_frz (av 2))))))) (rd_covered G)
theorem ok_Floor_moves {G : Gx} {mg : Str → Option Value} {A : Ad} {base : Heap} (T : Txt G mg A) : FnOk G.k.P G.k.w G.k.K mg base (L2.CX G.k.P G.k.w) 3 A.f_Floor_moves A.fd_Floor_moves ["self", "side"] (liftSp G.k (sp_Floor_moves G)) :=
  fun_ok (k := 2) (tb := tb_Floor_moves G) T.F_Floor_moves sc_Floor_moves (by intro ds L Q R h; unfold sp_Floor_moves at h; first | (rcases h with h | h <;> (first | (obtain ⟨rfl, _⟩ := h; rfl) | (obtain ⟨_, _, _, rfl, _, _, rfl, _⟩ := h; rfl) | (obtain ⟨_, _, _, rfl, _, _, _, rfl, _⟩ := h; rfl) | (obtain ⟨_, rfl, _⟩ := h; rfl) | (obtain ⟨_, _, rfl, _⟩ := h; rfl) | (obtain ⟨_, _, _, rfl, _⟩ := h; rfl) | (obtain ⟨_, _, _, _, rfl, _⟩ := h; rfl) | (obtain ⟨_, _, _, _, _, rfl, _⟩ := h; rfl) | (obtain ⟨_, _, _, _, _, _, rfl, _⟩ := h; rfl) | (obtain ⟨_, _, _, _, _, _, _, rfl, _⟩ := h; rfl) | (obtain ⟨_, _, _, _, _, _, _, _, rfl, _⟩ := h; rfl) | (obtain ⟨_, _, _, _, _, _, _, _, _, rfl, _⟩ := h; rfl) | (obtain ⟨_, _, _, _, _, _, _, _, _, _, rfl, _⟩ := h; rfl) | (obtain ⟨_, _, _, _, _, _, _, _, _, _, _, rfl, _⟩ := h; rfl) | (obtain ⟨_, _, _, _, _, _, _, _, _, _, _, _, rfl, _⟩ := h; rfl) | (obtain ⟨_, _, _, _, _, _, _, _, _, _, _, _, _, rfl, _⟩ := h; rfl) | (obtain ⟨_, _, _, _, _, _, _, _, _, _, _, _, _, _, rfl, _⟩ := h; rfl) | (obtain ⟨_, _, _, _, _, _, _, _, _, _, _, _, _, _, _, rfl, _⟩ := h; rfl) | (split at h <;> first | rfl | exact h.elim)); done) | (first | (obtain ⟨rfl, _⟩ := h; rfl) | (obtain ⟨_, _, _, rfl, _, _, rfl, _⟩ := h; rfl) | (obtain ⟨_, _, _, rfl, _, _, _, rfl, _⟩ := h; rfl) | (obtain ⟨_, rfl, _⟩ := h; rfl) | (obtain ⟨_, _, rfl, _⟩ := h; rfl) | (obtain ⟨_, _, _, rfl, _⟩ := h; rfl) | (obtain ⟨_, _, _, _, rfl, _⟩ := h; rfl) | (obtain ⟨_, _, _, _, _, rfl, _⟩ := h; rfl) | (obtain ⟨_, _, _, _, _, _, rfl, _⟩ := h; rfl) | (obtain ⟨_, _, _, _, _, _, _, rfl, _⟩ := h; rfl) | (obtain ⟨_, _, _, _, _, _, _, _, rfl, _⟩ := h; rfl) | (obtain ⟨_, _, _, _, _, _, _, _, _, rfl, _⟩ := h; rfl) | (obtain ⟨_, _, _, _, _, _, _, _, _, _, rfl, _⟩ := h; rfl) | (obtain ⟨_, _, _, _, _, _, _, _, _, _, _, rfl, _⟩ := h; rfl) | (obtain ⟨_, _, _, _, _, _, _, _, _, _, _, _, rfl, _⟩ := h; rfl) | (obtain ⟨_, _, _, _, _, _, _, _, _, _, _, _, _, rfl, _⟩ := h; rfl) | (obtain ⟨_, _, _, _, _, _, _, _, _, _, _, _, _, _, rfl, _⟩ := h; rfl) | (obtain ⟨_, _, _, _, _, _, _, _, _, _, _, _, _, _, _, rfl, _⟩ := h; rfl) | (split at h <;> first | rfl | exact h.elim))) (fun cdv A_ outer s H E hr => by
    have sc := sc_Floor_moves
    exact (b_cons (s_set (i := 2) sc.nd (a_meth (av 0) T.cl_Floor T.Mt_Floor_free (ok_Floor_free T) (hr.mono (by decide)) T.b_Floor_free .nil (fun _ => .nil) (takes_of rfl rfl rfl rfl) args0)) (b_cons (s_set (i := 3) sc.nd (a_lstN newR_ok g_nil)) (b_cons (s_for (passes_of rfl) rfl (i_seq (av 2)) (pg_tup rfl (pgs_cons (g_name 4 sc.nd) (pgs_cons (g_name 5 sc.nd) pgs_nil))) (gok_tup [4, 5]) (b_cons (s_set (i := 6) sc.nd (a_tup (g_cons (a_addN newD_ok (av 4) (a_item (a_kd (a_glob rfl T.g_STEPS rel_ref (fun _ => .ref _)) (av 1)) a_int)) (g_cons (a_addN newD_ok (av 5) (a_item (a_kd (a_glob rfl T.g_STEPS rel_ref (fun _ => .ref _)) (av 1)) a_int)) g_nil)))) (b_one (s_if (t_Din hr (av 6) (av 2)) (b_one (s_expr (a_append (av 3) (g_cons (a_make T.mk_Floor T.fo_Floor (ok_Floor_init T) (mkok1_Floor_init G) (hr.mono (by decide)) rfl T.g_Floor T.b_Floor_init .nil (fun _ => .nil) (takes_of rfl rfl rfl rfl) (args1 (g_cons (a_call (ok_covered T) (hr.mono (by decide)) rfl T.m_covered T.F_covered.kp T.b_covered .nil (fun _ => .nil) (takes_of rfl rfl rfl rfl) (args1 (g_cons (a_fld 0 (av 0)) (g_cons (a_lstN newD_ok (g_cons (a_tup (g_cons (av 4) (g_cons (av 5) g_nil))) (g_cons (av 6) g_nil))) g_nil)))) g_nil))) g_nil)))) b_nil)))) (b_one (s_ret (a_frz (av 3)))))))) (rd_Floor_moves G T.kd_STEPS_left T.kd_STEPS_right)
theorem ok_law_counts_ea32dc8c {G : Gx} {mg : Str → Option Value} {A : Ad} {base : Heap} (T : Txt G mg A) : FnOk G.k.P G.k.w G.k.K mg base (L2.CX G.k.P G.k.w) 4 A.f_law_counts_ea32dc8c A.fd_law_counts_ea32dc8c ["_law_board", "_law_rows_here", "_law_side"] (liftSp G.k (sp_law_counts_ea32dc8c G)) :=
  fun_ok (k := 3) (tb := tb_law_counts_ea32dc8c G) T.F_law_counts_ea32dc8c sc_law_counts_ea32dc8c (by intro ds L Q R h; unfold sp_law_counts_ea32dc8c at h; first | (rcases h with h | h <;> (first | (obtain ⟨rfl, _⟩ := h; rfl) | (obtain ⟨_, _, _, rfl, _, _, rfl, _⟩ := h; rfl) | (obtain ⟨_, _, _, rfl, _, _, _, rfl, _⟩ := h; rfl) | (obtain ⟨_, rfl, _⟩ := h; rfl) | (obtain ⟨_, _, rfl, _⟩ := h; rfl) | (obtain ⟨_, _, _, rfl, _⟩ := h; rfl) | (obtain ⟨_, _, _, _, rfl, _⟩ := h; rfl) | (obtain ⟨_, _, _, _, _, rfl, _⟩ := h; rfl) | (obtain ⟨_, _, _, _, _, _, rfl, _⟩ := h; rfl) | (obtain ⟨_, _, _, _, _, _, _, rfl, _⟩ := h; rfl) | (obtain ⟨_, _, _, _, _, _, _, _, rfl, _⟩ := h; rfl) | (obtain ⟨_, _, _, _, _, _, _, _, _, rfl, _⟩ := h; rfl) | (obtain ⟨_, _, _, _, _, _, _, _, _, _, rfl, _⟩ := h; rfl) | (obtain ⟨_, _, _, _, _, _, _, _, _, _, _, rfl, _⟩ := h; rfl) | (obtain ⟨_, _, _, _, _, _, _, _, _, _, _, _, rfl, _⟩ := h; rfl) | (obtain ⟨_, _, _, _, _, _, _, _, _, _, _, _, _, rfl, _⟩ := h; rfl) | (obtain ⟨_, _, _, _, _, _, _, _, _, _, _, _, _, _, rfl, _⟩ := h; rfl) | (obtain ⟨_, _, _, _, _, _, _, _, _, _, _, _, _, _, _, rfl, _⟩ := h; rfl) | (split at h <;> first | rfl | exact h.elim)); done) | (first | (obtain ⟨rfl, _⟩ := h; rfl) | (obtain ⟨_, _, _, rfl, _, _, rfl, _⟩ := h; rfl) | (obtain ⟨_, _, _, rfl, _, _, _, rfl, _⟩ := h; rfl) | (obtain ⟨_, rfl, _⟩ := h; rfl) | (obtain ⟨_, _, rfl, _⟩ := h; rfl) | (obtain ⟨_, _, _, rfl, _⟩ := h; rfl) | (obtain ⟨_, _, _, _, rfl, _⟩ := h; rfl) | (obtain ⟨_, _, _, _, _, rfl, _⟩ := h; rfl) | (obtain ⟨_, _, _, _, _, _, rfl, _⟩ := h; rfl) | (obtain ⟨_, _, _, _, _, _, _, rfl, _⟩ := h; rfl) | (obtain ⟨_, _, _, _, _, _, _, _, rfl, _⟩ := h; rfl) | (obtain ⟨_, _, _, _, _, _, _, _, _, rfl, _⟩ := h; rfl) | (obtain ⟨_, _, _, _, _, _, _, _, _, _, rfl, _⟩ := h; rfl) | (obtain ⟨_, _, _, _, _, _, _, _, _, _, _, rfl, _⟩ := h; rfl) | (obtain ⟨_, _, _, _, _, _, _, _, _, _, _, _, rfl, _⟩ := h; rfl) | (obtain ⟨_, _, _, _, _, _, _, _, _, _, _, _, _, rfl, _⟩ := h; rfl) | (obtain ⟨_, _, _, _, _, _, _, _, _, _, _, _, _, _, rfl, _⟩ := h; rfl) | (obtain ⟨_, _, _, _, _, _, _, _, _, _, _, _, _, _, _, rfl, _⟩ := h; rfl) | (split at h <;> first | rfl | exact h.elim))) (fun cdv A_ outer s H E hr => by
    have sc := sc_law_counts_ea32dc8c
    exact (b_cons (s_set (i := 3) sc.nd (a_len rfl T.n_len (g_cons (a_call (ok_law_floor_moves_d092ad0b T) (hr.mono (by decide)) rfl T.m_law_floor_moves_d092ad0b T.F_law_floor_moves_d092ad0b.kp T.b_law_floor_moves_d092ad0b .nil (fun _ => .nil) (takes_of rfl rfl rfl rfl) (args1 (g_cons (av 1) (g_cons (av 2) g_nil)))) g_nil))) (b_one (s_ret (a_and (a_eq hr.units (a_len rfl T.n_len (g_cons (a_meth (av 0) T.cl_Floor T.Mt_Floor_moves (ok_Floor_moves T) (hr.mono (by decide)) T.b_Floor_moves .nil (fun _ => .nil) (takes_of rfl rfl rfl rfl) (args1 (g_cons (av 2) g_nil))) g_nil)) (av 3)) (a_one (a_eq hr.units (a_sum rfl rfl T.n_sum (g_cons (a_lcN (own := [("_law_part", 4)]) newD_ok rfl sc.nd (i_seq (a_meth (av 0) T.cl_Floor T.Mt_Floor_parts (ok_Floor_parts T) (hr.mono (by decide)) T.b_Floor_parts .nil (fun _ => .nil) (takes_of rfl rfl rfl rfl) args0)) (blkOk_by (N := ["_law_board", "_law_rows_here", "_law_side", "_law_due", "_law_part"]) (sc := defScope s_law_counts_ea32dc8c) (own := [("_law_part", 4)]) (by decide +kernel)) (gok_name 4) (by decide) (fun _ _ _ _ _ => (g_name 4 sc.nd)) (fun _ _ _ _ _ => t_yes) (fun _ _ _ _ _ => (a_len rfl T.n_len (g_cons (a_meth (av 4) T.cl_Floor T.Mt_Floor_moves (ok_Floor_moves T) (hr.mono (by decide)) T.b_Floor_moves .nil (fun _ => .nil) takes0 (args1 (g_cons (av 2) g_nil))) g_nil)))) g_nil)) (av 3)))))))) (rd_law_counts_ea32dc8c G)
theorem ok_law_a52aaa2a {G : Gx} {mg : Str → Option Value} {A : Ad} {base : Heap} (T : Txt G mg A) : FnOk G.k.P G.k.w G.k.K mg base (L2.CX G.k.P G.k.w) 9 A.f_law_a52aaa2a A.fd_law_a52aaa2a ["_law_script"] (liftSp G.k (sp_law_a52aaa2a G)) :=
  fun_ok (k := 8) (tb := tb_law_a52aaa2a G) T.F_law_a52aaa2a sc_law_a52aaa2a (fun ds L Q R h => spLawT_len h) (fun cdv A_ outer s H E hr => by
    have sc := sc_law_a52aaa2a
    exact (b_cons (s_set (i := 1) sc.nd (a_tuple rfl T.n_tuple (g_cons (a_call (ok_law_rows_3c71d864 T) (hr.mono (by decide)) rfl T.m_law_rows_3c71d864 T.F_law_rows_3c71d864.kp T.b_law_rows_3c71d864 .nil (fun _ => .nil) (takes_of rfl rfl rfl rfl) (args1 (g_cons (a_call (ok_law_cell_4bc9b38b T) (hr.mono (by decide)) rfl T.m_law_cell_4bc9b38b T.F_law_cell_4bc9b38b.kp T.b_law_cell_4bc9b38b .nil (fun _ => .nil) (takes_of rfl rfl rfl rfl) (args1 (g_cons (av 0) (g_cons a_int g_nil)))) g_nil))) g_nil))) (b_cons (s_set (i := 2) sc.nd (a_make T.mk_Floor T.fo_Floor (ok_Floor_init T) (mkok1_Floor_init G) (hr.mono (by decide)) rfl T.g_Floor T.b_Floor_init .nil (fun _ => .nil) (takes_of rfl rfl rfl rfl) (args1 (g_cons (a_listN newD_ok rfl T.n_list (g_cons (av 1) g_nil)) g_nil)))) (b_cons (s_set (i := 3) sc.nd (a_call (ok_law_floor_parts_da8a0049 T) (hr.mono (by decide)) rfl T.m_law_floor_parts_da8a0049 T.F_law_floor_parts_da8a0049.kp T.b_law_floor_parts_da8a0049 .nil (fun _ => .nil) (takes_of rfl rfl rfl rfl) (args1 (g_cons (av 1) g_nil)))) (b_cons (s_if (PW.pt (w_or (t_not (t_tru (a_call (ok_law_told_87c2cc6e T) (hr.mono (by decide)) rfl T.m_law_told_87c2cc6e T.F_law_told_87c2cc6e.kp T.b_law_told_87c2cc6e .nil (fun _ => .nil) (takes_of rfl rfl rfl rfl) (args1 (g_cons (a_meth (av 2) T.cl_Floor T.Mt_Floor_parts (ok_Floor_parts T) (hr.mono (by decide)) T.b_Floor_parts .nil (fun _ => .nil) (takes_of rfl rfl rfl rfl) args0) (g_cons (av 3) g_nil)))))) (w_or1 (t_not (t_tru (a_call (ok_law_told_87c2cc6e T) (hr.mono (by decide)) rfl T.m_law_told_87c2cc6e T.F_law_told_87c2cc6e.kp T.b_law_told_87c2cc6e .nil (fun _ => .nil) (takes_of rfl rfl rfl rfl) (args1 (g_cons (a_meth (av 2) T.cl_Floor T.Mt_Floor_parts (ok_Floor_parts T) (hr.mono (by decide)) T.b_Floor_parts .nil (fun _ => .nil) (takes_of rfl rfl rfl rfl) args0) (g_cons (av 3) g_nil))))))))) (b_one (s_ret a_bl)) b_nil) (b_cons (s_for (passes_of rfl) rfl (i_seq (a_meth (av 2) T.cl_Floor T.Mt_Floor_parts (ok_Floor_parts T) (hr.mono (by decide)) T.b_Floor_parts .nil (fun _ => .nil) (takes_of rfl rfl rfl rfl) args0)) (g_name 4 sc.nd) (gok_name 4) (b_one (s_if (t_not (t_tru (a_call (ok_law_told_87c2cc6e T) (hr.mono (by decide)) rfl T.m_law_told_87c2cc6e T.F_law_told_87c2cc6e.kp T.b_law_told_87c2cc6e .nil (fun _ => .nil) (takes_of rfl rfl rfl rfl) (args1 (g_cons (a_meth (av 4) T.cl_Floor T.Mt_Floor_parts (ok_Floor_parts T) (hr.mono (by decide)) T.b_Floor_parts .nil (fun _ => .nil) (takes_of rfl rfl rfl rfl) args0) (g_cons (a_lstN newD_ok (g_cons (a_meth (av 4) T.cl_Floor T.Mt_Floor_value (ok_Floor_value T) (hr.mono (by decide)) T.b_Floor_value .nil (fun _ => .nil) (takes_of rfl rfl rfl rfl) args0) g_nil)) g_nil)))))) (b_one (s_ret a_bl)) b_nil))) (b_cons (s_if (PW.pt (w_or (t_not (t_tru (a_call (ok_law_counts_ea32dc8c T) (hr.mono (by decide)) rfl T.m_law_counts_ea32dc8c T.F_law_counts_ea32dc8c.kp T.b_law_counts_ea32dc8c .nil (fun _ => .nil) (takes_of rfl rfl rfl rfl) (args1 (g_cons (av 2) (g_cons (av 1) (g_cons a_str g_nil))))))) (w_or1 (t_not (t_tru (a_call (ok_law_counts_ea32dc8c T) (hr.mono (by decide)) rfl T.m_law_counts_ea32dc8c T.F_law_counts_ea32dc8c.kp T.b_law_counts_ea32dc8c .nil (fun _ => .nil) (takes_of rfl rfl rfl rfl) (args1 (g_cons (av 2) (g_cons (av 1) (g_cons a_str g_nil)))))))))) (b_one (s_ret a_bl)) b_nil) (b_cons (s_if (PW.pt (w_and (t_eqX hr.units (a_meth (av 2) T.cl_Floor T.Mt_Floor_moves (ok_Floor_moves T) (hr.mono (by decide)) T.b_Floor_moves .nil (fun _ => .nil) (takes_of rfl rfl rfl rfl) (args1 (g_cons a_str g_nil))) (a_lstN newD_ok g_nil)) (w_and (t_eqX hr.units (a_meth (av 2) T.cl_Floor T.Mt_Floor_moves (ok_Floor_moves T) (hr.mono (by decide)) T.b_Floor_moves .nil (fun _ => .nil) (takes_of rfl rfl rfl rfl) (args1 (g_cons a_str g_nil))) (a_lstN newD_ok g_nil)) (w_and1 (t_gt (a_len rfl T.n_len (g_cons (av 3) g_nil)) a_int))))) (b_one (s_ret a_bl)) b_nil) (b_one (s_ret (a_call (ok_law_same_04c10c30 T 6) (hr.mono (by decide)) rfl T.m_law_same_04c10c30 T.F_law_same_04c10c30.kp T.b_law_same_04c10c30 .nil (fun _ => .nil) (takes_of rfl rfl rfl rfl) (args1 (g_cons (a_meth (av 2) T.cl_Floor T.Mt_Floor_value (ok_Floor_value T) (hr.mono (by decide)) T.b_Floor_value .nil (fun _ => .nil) (takes_of rfl rfl rfl rfl) args0) (g_cons (a_tup (g_cons a_str (g_cons (av 1) g_nil))) g_nil)))))))))))))) (rd_law_a52aaa2a G)
theorem all_mk {w : World} {K : PySem.W.Frag} {h : Heap} {mg : Str → Option Value} {fa : Addr} {C_Floor : Addr} {C_BadValue : Addr} {tk_SIDE_MOST : Tok} {C_STEPS : Addr} {es_STEPS : Array DictEntry} {nn_STEPS : Nat} {ad_STEPS_left : Addr} {od_STEPS_left : Option Addr} {sl_STEPS_left : Array (Option Value)} {n_STEPS_left : Nat} {tk_STEPS_left_0 : Tok} {tk_STEPS_left_1 : Tok} {ad_STEPS_right : Addr} {od_STEPS_right : Option Addr} {sl_STEPS_right : Array (Option Value)} {n_STEPS_right : Nat} {tk_STEPS_right_0 : Tok} {tk_STEPS_right_1 : Tok} {f_law_digits_b31862c4 : Addr} {oc_law_digits_b31862c4 kV_law_digits_b31862c4 dc_law_digits_b31862c4 pm_law_digits_b31862c4 cd_law_digits_b31862c4 ct_law_digits_b31862c4 : Value} {od_law_digits_b31862c4 an_law_digits_b31862c4 : Option Addr} {sl_law_digits_b31862c4 : Array (Option Value)} {f_law_rows_3c71d864 : Addr} {oc_law_rows_3c71d864 kV_law_rows_3c71d864 dc_law_rows_3c71d864 pm_law_rows_3c71d864 cd_law_rows_3c71d864 ct_law_rows_3c71d864 : Value} {od_law_rows_3c71d864 an_law_rows_3c71d864 : Option Addr} {sl_law_rows_3c71d864 : Array (Option Value)} {f_law_cell_4bc9b38b : Addr} {oc_law_cell_4bc9b38b kV_law_cell_4bc9b38b dc_law_cell_4bc9b38b pm_law_cell_4bc9b38b cd_law_cell_4bc9b38b ct_law_cell_4bc9b38b : Value} {od_law_cell_4bc9b38b an_law_cell_4bc9b38b : Option Addr} {sl_law_cell_4bc9b38b : Array (Option Value)} {f_Floor_init : Addr} {oc_Floor_init kV_Floor_init dc_Floor_init pm_Floor_init cd_Floor_init ct_Floor_init : Value} {od_Floor_init an_Floor_init : Option Addr} {sl_Floor_init : Array (Option Value)} {f_law_clipped_ce61efcc : Addr} {oc_law_clipped_ce61efcc kV_law_clipped_ce61efcc dc_law_clipped_ce61efcc pm_law_clipped_ce61efcc cd_law_clipped_ce61efcc ct_law_clipped_ce61efcc : Value} {od_law_clipped_ce61efcc an_law_clipped_ce61efcc : Option Addr} {sl_law_clipped_ce61efcc : Array (Option Value)} {f_law_floor_parts_da8a0049 : Addr} {oc_law_floor_parts_da8a0049 kV_law_floor_parts_da8a0049 dc_law_floor_parts_da8a0049 pm_law_floor_parts_da8a0049 cd_law_floor_parts_da8a0049 ct_law_floor_parts_da8a0049 : Value} {od_law_floor_parts_da8a0049 an_law_floor_parts_da8a0049 : Option Addr} {sl_law_floor_parts_da8a0049 : Array (Option Value)} {f_law_same_04c10c30 : Addr} {oc_law_same_04c10c30 kV_law_same_04c10c30 dc_law_same_04c10c30 pm_law_same_04c10c30 cd_law_same_04c10c30 ct_law_same_04c10c30 : Value} {od_law_same_04c10c30 an_law_same_04c10c30 : Option Addr} {sl_law_same_04c10c30 : Array (Option Value)} {f_Floor_value : Addr} {oc_Floor_value kV_Floor_value dc_Floor_value pm_Floor_value cd_Floor_value ct_Floor_value : Value} {od_Floor_value an_Floor_value : Option Addr} {sl_Floor_value : Array (Option Value)} {f_law_told_87c2cc6e : Addr} {oc_law_told_87c2cc6e kV_law_told_87c2cc6e dc_law_told_87c2cc6e pm_law_told_87c2cc6e cd_law_told_87c2cc6e ct_law_told_87c2cc6e : Value} {od_law_told_87c2cc6e an_law_told_87c2cc6e : Option Addr} {sl_law_told_87c2cc6e : Array (Option Value)} {f_Floor_free : Addr} {oc_Floor_free kV_Floor_free dc_Floor_free pm_Floor_free cd_Floor_free ct_Floor_free : Value} {od_Floor_free an_Floor_free : Option Addr} {sl_Floor_free : Array (Option Value)} {f_around : Addr} {oc_around kV_around dc_around pm_around cd_around ct_around : Value} {od_around an_around : Option Addr} {sl_around : Array (Option Value)} {f_joined : Addr} {oc_joined kV_joined dc_joined pm_joined cd_joined ct_joined : Value} {od_joined an_joined : Option Addr} {sl_joined : Array (Option Value)} {f_clipped : Addr} {oc_clipped kV_clipped dc_clipped pm_clipped cd_clipped ct_clipped : Value} {od_clipped an_clipped : Option Addr} {sl_clipped : Array (Option Value)} {f_Floor_parts : Addr} {oc_Floor_parts kV_Floor_parts dc_Floor_parts pm_Floor_parts cd_Floor_parts ct_Floor_parts : Value} {od_Floor_parts an_Floor_parts : Option Addr} {sl_Floor_parts : Array (Option Value)} {f_law_covered_27bf77b2 : Addr} {oc_law_covered_27bf77b2 kV_law_covered_27bf77b2 dc_law_covered_27bf77b2 pm_law_covered_27bf77b2 cd_law_covered_27bf77b2 ct_law_covered_27bf77b2 : Value} {od_law_covered_27bf77b2 an_law_covered_27bf77b2 : Option Addr} {sl_law_covered_27bf77b2 : Array (Option Value)} {f_law_floor_moves_d092ad0b : Addr} {oc_law_floor_moves_d092ad0b kV_law_floor_moves_d092ad0b dc_law_floor_moves_d092ad0b pm_law_floor_moves_d092ad0b cd_law_floor_moves_d092ad0b ct_law_floor_moves_d092ad0b : Value} {od_law_floor_moves_d092ad0b an_law_floor_moves_d092ad0b : Option Addr} {sl_law_floor_moves_d092ad0b : Array (Option Value)} {f_covered : Addr} {oc_covered kV_covered dc_covered pm_covered cd_covered ct_covered : Value} {od_covered an_covered : Option Addr} {sl_covered : Array (Option Value)} {f_Floor_moves : Addr} {oc_Floor_moves kV_Floor_moves dc_Floor_moves pm_Floor_moves cd_Floor_moves ct_Floor_moves : Value} {od_Floor_moves an_Floor_moves : Option Addr} {sl_Floor_moves : Array (Option Value)} {f_law_counts_ea32dc8c : Addr} {oc_law_counts_ea32dc8c kV_law_counts_ea32dc8c dc_law_counts_ea32dc8c pm_law_counts_ea32dc8c cd_law_counts_ea32dc8c ct_law_counts_ea32dc8c : Value} {od_law_counts_ea32dc8c an_law_counts_ea32dc8c : Option Addr} {sl_law_counts_ea32dc8c : Array (Option Value)} {f_law_a52aaa2a : Addr} {oc_law_a52aaa2a kV_law_a52aaa2a dc_law_a52aaa2a pm_law_a52aaa2a cd_law_a52aaa2a ct_law_a52aaa2a : Value} {od_law_a52aaa2a an_law_a52aaa2a : Option Addr} {sl_law_a52aaa2a : Array (Option Value)} (X : K.In h) (G0 : h.Ns mainGlobals mg) (hfa : mg "law" = some (.ref fa))
    (h_aC_Floor : PySem.W.nsIn K mainGlobals "Floor" = some (some (.ref C_Floor)))
    (h_pg_Floor : PySem.W.plainGet K C_Floor Str.empty = true)
    (h_hd_Floor : PySem.W.hasDictIn K C_Floor = true)
    (h_po_Floor : PySem.W.plainOver K C_Floor = true)
    (h_sa_Floor : PySem.W.findIn K (.ref C_Floor) "__setattr__" = some (some (.builtin "object.__setattr__")))
    (h_ha_Floor : PySem.W.findIn K (.ref C_Floor) "__class__" = some (some (.builtin "object.__class__")))
    (h_mr_Floor : PySem.W.mroIn K C_Floor (.type "object") = some true)
    (h_kc_Floor : PySem.W.keepIn K (.ref C_Floor) = true)
    (h_no_Floor__rows : PySem.W.findIn K (.ref C_Floor) "_rows" = some none)
    (h_mk_Floor : PySem.W.makesIn K C_Floor = true)
    (h_hn_ : PySem.W.specialIn K (.builtin "object.__class__") "__get__" = some (some (.builtin "getset_descriptor.__get__")))
    (h_htk_ : PySem.W.takesIn K (.builtin "object.__class__") = some true)
    (h_aC_BadValue : PySem.W.nsIn K mainGlobals "BadValue" = some (some (.ref C_BadValue)))
    (h_x_BadValue : PySem.W.excIn K C_BadValue [.type "ValueError", .type "Exception", .type "BaseException", .type "object"] "ValueError.__new__" = true)
    (h_k_BadValue : PySem.W.keepIn K (.ref C_BadValue) = true)
    (h_eb_BadValue : PySem.W.subIn K (.ref C_BadValue) (.type "BaseException") = some true)
    (h_et_BadValue : PySem.W.typeIn K (.ref C_BadValue) = some (.type "type"))
    (h_g_SIDE_MOST : PySem.W.nsIn K mainGlobals "SIDE_MOST" = some (some (.int 6 tk_SIDE_MOST)))
    (h_g_STEPS : PySem.W.nsIn K mainGlobals "STEPS" = some (some (.ref C_STEPS)))
    (h_l_STEPS : K.lookup C_STEPS = some ⟨.type "dict", none, .dict es_STEPS nn_STEPS, #[]⟩)
    (h_kl_STEPS : PySem.W.KeysLit w.params es_STEPS.toList)
    (h_e_STEPS_left : PySem.W.nsIn K C_STEPS "left" = some (some (.ref ad_STEPS_left)))
    (h_t_STEPS_left : K.lookup ad_STEPS_left = some ⟨.type "tuple", od_STEPS_left, .seq #[(.int 1 tk_STEPS_left_0), (.int 0 tk_STEPS_left_1)] n_STEPS_left, sl_STEPS_left⟩)
    (h_e_STEPS_right : PySem.W.nsIn K C_STEPS "right" = some (some (.ref ad_STEPS_right)))
    (h_t_STEPS_right : K.lookup ad_STEPS_right = some ⟨.type "tuple", od_STEPS_right, .seq #[(.int 0 tk_STEPS_right_0), (.int 1 tk_STEPS_right_1)] n_STEPS_right, sl_STEPS_right⟩)
    (h_n_abs : PySem.W.nsIn K mainGlobals "abs" = some none)
    (h_n_all : PySem.W.nsIn K mainGlobals "all" = some none)
    (h_n_bool : PySem.W.nsIn K mainGlobals "bool" = some none)
    (h_n_enumerate : PySem.W.nsIn K mainGlobals "enumerate" = some none)
    (h_n_int : PySem.W.nsIn K mainGlobals "int" = some none)
    (h_n_isinstance : PySem.W.nsIn K mainGlobals "isinstance" = some none)
    (h_n_len : PySem.W.nsIn K mainGlobals "len" = some none)
    (h_n_list : PySem.W.nsIn K mainGlobals "list" = some none)
    (h_n_max : PySem.W.nsIn K mainGlobals "max" = some none)
    (h_n_min : PySem.W.nsIn K mainGlobals "min" = some none)
    (h_n_range : PySem.W.nsIn K mainGlobals "range" = some none)
    (h_n_str : PySem.W.nsIn K mainGlobals "str" = some none)
    (h_n_sum : PySem.W.nsIn K mainGlobals "sum" = some none)
    (h_n_tuple : PySem.W.nsIn K mainGlobals "tuple" = some none)
    (h_a_law_digits_b31862c4 : PySem.W.nsIn K mainGlobals "_law_digits" = some (some (.ref f_law_digits_b31862c4)))
    (h_l_law_digits_b31862c4 : K.lookup f_law_digits_b31862c4 = some ⟨oc_law_digits_b31862c4, od_law_digits_b31862c4, .func (PySem.W.fnOf "_law_digits" "_law_digits" (defArgs s_law_digits_b31862c4) (defBody s_law_digits_b31862c4) (defScope s_law_digits_b31862c4) .none kV_law_digits_b31862c4 dc_law_digits_b31862c4 pm_law_digits_b31862c4 an_law_digits_b31862c4 cd_law_digits_b31862c4 ct_law_digits_b31862c4), sl_law_digits_b31862c4⟩)
    (h_c_law_digits_b31862c4 : PySem.W.codeIn K cd_law_digits_b31862c4 "_law_digits" = true)
    (h_k_law_digits_b31862c4 : PySem.W.keepIn K (.ref f_law_digits_b31862c4) = true)
    (h_a_law_rows_3c71d864 : PySem.W.nsIn K mainGlobals "_law_rows" = some (some (.ref f_law_rows_3c71d864)))
    (h_l_law_rows_3c71d864 : K.lookup f_law_rows_3c71d864 = some ⟨oc_law_rows_3c71d864, od_law_rows_3c71d864, .func (PySem.W.fnOf "_law_rows" "_law_rows" (defArgs s_law_rows_3c71d864) (defBody s_law_rows_3c71d864) (defScope s_law_rows_3c71d864) .none kV_law_rows_3c71d864 dc_law_rows_3c71d864 pm_law_rows_3c71d864 an_law_rows_3c71d864 cd_law_rows_3c71d864 ct_law_rows_3c71d864), sl_law_rows_3c71d864⟩)
    (h_c_law_rows_3c71d864 : PySem.W.codeIn K cd_law_rows_3c71d864 "_law_rows" = true)
    (h_k_law_rows_3c71d864 : PySem.W.keepIn K (.ref f_law_rows_3c71d864) = true)
    (h_a_law_cell_4bc9b38b : PySem.W.nsIn K mainGlobals "_law_cell" = some (some (.ref f_law_cell_4bc9b38b)))
    (h_l_law_cell_4bc9b38b : K.lookup f_law_cell_4bc9b38b = some ⟨oc_law_cell_4bc9b38b, od_law_cell_4bc9b38b, .func (PySem.W.fnOf "_law_cell" "_law_cell" (defArgs s_law_cell_4bc9b38b) (defBody s_law_cell_4bc9b38b) (defScope s_law_cell_4bc9b38b) .none kV_law_cell_4bc9b38b dc_law_cell_4bc9b38b pm_law_cell_4bc9b38b an_law_cell_4bc9b38b cd_law_cell_4bc9b38b ct_law_cell_4bc9b38b), sl_law_cell_4bc9b38b⟩)
    (h_c_law_cell_4bc9b38b : PySem.W.codeIn K cd_law_cell_4bc9b38b "_law_cell" = true)
    (h_k_law_cell_4bc9b38b : PySem.W.keepIn K (.ref f_law_cell_4bc9b38b) = true)
    (h_a_Floor_init : PySem.W.findIn K (.ref C_Floor) "__init__" = some (some (.ref f_Floor_init)))
    (h_i_Floor_init : PySem.W.isFn K (.ref f_Floor_init) = true)
    (h_l_Floor_init : K.lookup f_Floor_init = some ⟨oc_Floor_init, od_Floor_init, .func (PySem.W.fnOf "__init__" "Floor.__init__" (defArgs s_Floor_init) (defBody s_Floor_init) (defScope s_Floor_init) .none kV_Floor_init dc_Floor_init pm_Floor_init an_Floor_init cd_Floor_init ct_Floor_init), sl_Floor_init⟩)
    (h_c_Floor_init : PySem.W.codeIn K cd_Floor_init "Floor.__init__" = true)
    (h_k_Floor_init : PySem.W.keepIn K (.ref f_Floor_init) = true)
    (h_a_law_clipped_ce61efcc : PySem.W.nsIn K mainGlobals "_law_clipped" = some (some (.ref f_law_clipped_ce61efcc)))
    (h_l_law_clipped_ce61efcc : K.lookup f_law_clipped_ce61efcc = some ⟨oc_law_clipped_ce61efcc, od_law_clipped_ce61efcc, .func (PySem.W.fnOf "_law_clipped" "_law_clipped" (defArgs s_law_clipped_ce61efcc) (defBody s_law_clipped_ce61efcc) (defScope s_law_clipped_ce61efcc) .none kV_law_clipped_ce61efcc dc_law_clipped_ce61efcc pm_law_clipped_ce61efcc an_law_clipped_ce61efcc cd_law_clipped_ce61efcc ct_law_clipped_ce61efcc), sl_law_clipped_ce61efcc⟩)
    (h_c_law_clipped_ce61efcc : PySem.W.codeIn K cd_law_clipped_ce61efcc "_law_clipped" = true)
    (h_k_law_clipped_ce61efcc : PySem.W.keepIn K (.ref f_law_clipped_ce61efcc) = true)
    (h_a_law_floor_parts_da8a0049 : PySem.W.nsIn K mainGlobals "_law_floor_parts" = some (some (.ref f_law_floor_parts_da8a0049)))
    (h_l_law_floor_parts_da8a0049 : K.lookup f_law_floor_parts_da8a0049 = some ⟨oc_law_floor_parts_da8a0049, od_law_floor_parts_da8a0049, .func (PySem.W.fnOf "_law_floor_parts" "_law_floor_parts" (defArgs s_law_floor_parts_da8a0049) (defBody s_law_floor_parts_da8a0049) (defScope s_law_floor_parts_da8a0049) .none kV_law_floor_parts_da8a0049 dc_law_floor_parts_da8a0049 pm_law_floor_parts_da8a0049 an_law_floor_parts_da8a0049 cd_law_floor_parts_da8a0049 ct_law_floor_parts_da8a0049), sl_law_floor_parts_da8a0049⟩)
    (h_c_law_floor_parts_da8a0049 : PySem.W.codeIn K cd_law_floor_parts_da8a0049 "_law_floor_parts" = true)
    (h_k_law_floor_parts_da8a0049 : PySem.W.keepIn K (.ref f_law_floor_parts_da8a0049) = true)
    (h_a_law_same_04c10c30 : PySem.W.nsIn K mainGlobals "_law_same" = some (some (.ref f_law_same_04c10c30)))
    (h_l_law_same_04c10c30 : K.lookup f_law_same_04c10c30 = some ⟨oc_law_same_04c10c30, od_law_same_04c10c30, .func (PySem.W.fnOf "_law_same" "_law_same" (defArgs s_law_same_04c10c30) (defBody s_law_same_04c10c30) (defScope s_law_same_04c10c30) .none kV_law_same_04c10c30 dc_law_same_04c10c30 pm_law_same_04c10c30 an_law_same_04c10c30 cd_law_same_04c10c30 ct_law_same_04c10c30), sl_law_same_04c10c30⟩)
    (h_c_law_same_04c10c30 : PySem.W.codeIn K cd_law_same_04c10c30 "_law_same" = true)
    (h_k_law_same_04c10c30 : PySem.W.keepIn K (.ref f_law_same_04c10c30) = true)
    (h_a_Floor_value : PySem.W.findIn K (.ref C_Floor) "value" = some (some (.ref f_Floor_value)))
    (h_i_Floor_value : PySem.W.isFn K (.ref f_Floor_value) = true)
    (h_l_Floor_value : K.lookup f_Floor_value = some ⟨oc_Floor_value, od_Floor_value, .func (PySem.W.fnOf "value" "Floor.value" (defArgs s_Floor_value) (defBody s_Floor_value) (defScope s_Floor_value) .none kV_Floor_value dc_Floor_value pm_Floor_value an_Floor_value cd_Floor_value ct_Floor_value), sl_Floor_value⟩)
    (h_c_Floor_value : PySem.W.codeIn K cd_Floor_value "Floor.value" = true)
    (h_k_Floor_value : PySem.W.keepIn K (.ref f_Floor_value) = true)
    (h_a_law_told_87c2cc6e : PySem.W.nsIn K mainGlobals "_law_told" = some (some (.ref f_law_told_87c2cc6e)))
    (h_l_law_told_87c2cc6e : K.lookup f_law_told_87c2cc6e = some ⟨oc_law_told_87c2cc6e, od_law_told_87c2cc6e, .func (PySem.W.fnOf "_law_told" "_law_told" (defArgs s_law_told_87c2cc6e) (defBody s_law_told_87c2cc6e) (defScope s_law_told_87c2cc6e) .none kV_law_told_87c2cc6e dc_law_told_87c2cc6e pm_law_told_87c2cc6e an_law_told_87c2cc6e cd_law_told_87c2cc6e ct_law_told_87c2cc6e), sl_law_told_87c2cc6e⟩)
    (h_c_law_told_87c2cc6e : PySem.W.codeIn K cd_law_told_87c2cc6e "_law_told" = true)
    (h_k_law_told_87c2cc6e : PySem.W.keepIn K (.ref f_law_told_87c2cc6e) = true)
    (h_a_Floor_free : PySem.W.findIn K (.ref C_Floor) "_free" = some (some (.ref f_Floor_free)))
    (h_i_Floor_free : PySem.W.isFn K (.ref f_Floor_free) = true)
    (h_l_Floor_free : K.lookup f_Floor_free = some ⟨oc_Floor_free, od_Floor_free, .func (PySem.W.fnOf "_free" "Floor._free" (defArgs s_Floor_free) (defBody s_Floor_free) (defScope s_Floor_free) .none kV_Floor_free dc_Floor_free pm_Floor_free an_Floor_free cd_Floor_free ct_Floor_free), sl_Floor_free⟩)
    (h_c_Floor_free : PySem.W.codeIn K cd_Floor_free "Floor._free" = true)
    (h_k_Floor_free : PySem.W.keepIn K (.ref f_Floor_free) = true)
    (h_a_around : PySem.W.nsIn K mainGlobals "around" = some (some (.ref f_around)))
    (h_l_around : K.lookup f_around = some ⟨oc_around, od_around, .func (PySem.W.fnOf "around" "around" (defArgs s_around) (defBody s_around) (defScope s_around) .none kV_around dc_around pm_around an_around cd_around ct_around), sl_around⟩)
    (h_c_around : PySem.W.codeIn K cd_around "around" = true)
    (h_k_around : PySem.W.keepIn K (.ref f_around) = true)
    (h_a_joined : PySem.W.nsIn K mainGlobals "joined" = some (some (.ref f_joined)))
    (h_l_joined : K.lookup f_joined = some ⟨oc_joined, od_joined, .func (PySem.W.fnOf "joined" "joined" (defArgs s_joined) (defBody s_joined) (defScope s_joined) .none kV_joined dc_joined pm_joined an_joined cd_joined ct_joined), sl_joined⟩)
    (h_c_joined : PySem.W.codeIn K cd_joined "joined" = true)
    (h_k_joined : PySem.W.keepIn K (.ref f_joined) = true)
    (h_a_clipped : PySem.W.nsIn K mainGlobals "clipped" = some (some (.ref f_clipped)))
    (h_l_clipped : K.lookup f_clipped = some ⟨oc_clipped, od_clipped, .func (PySem.W.fnOf "clipped" "clipped" (defArgs s_clipped) (defBody s_clipped) (defScope s_clipped) .none kV_clipped dc_clipped pm_clipped an_clipped cd_clipped ct_clipped), sl_clipped⟩)
    (h_c_clipped : PySem.W.codeIn K cd_clipped "clipped" = true)
    (h_k_clipped : PySem.W.keepIn K (.ref f_clipped) = true)
    (h_a_Floor_parts : PySem.W.findIn K (.ref C_Floor) "parts" = some (some (.ref f_Floor_parts)))
    (h_i_Floor_parts : PySem.W.isFn K (.ref f_Floor_parts) = true)
    (h_l_Floor_parts : K.lookup f_Floor_parts = some ⟨oc_Floor_parts, od_Floor_parts, .func (PySem.W.fnOf "parts" "Floor.parts" (defArgs s_Floor_parts) (defBody s_Floor_parts) (defScope s_Floor_parts) .none kV_Floor_parts dc_Floor_parts pm_Floor_parts an_Floor_parts cd_Floor_parts ct_Floor_parts), sl_Floor_parts⟩)
    (h_c_Floor_parts : PySem.W.codeIn K cd_Floor_parts "Floor.parts" = true)
    (h_k_Floor_parts : PySem.W.keepIn K (.ref f_Floor_parts) = true)
    (h_a_law_covered_27bf77b2 : PySem.W.nsIn K mainGlobals "_law_covered" = some (some (.ref f_law_covered_27bf77b2)))
    (h_l_law_covered_27bf77b2 : K.lookup f_law_covered_27bf77b2 = some ⟨oc_law_covered_27bf77b2, od_law_covered_27bf77b2, .func (PySem.W.fnOf "_law_covered" "_law_covered" (defArgs s_law_covered_27bf77b2) (defBody s_law_covered_27bf77b2) (defScope s_law_covered_27bf77b2) .none kV_law_covered_27bf77b2 dc_law_covered_27bf77b2 pm_law_covered_27bf77b2 an_law_covered_27bf77b2 cd_law_covered_27bf77b2 ct_law_covered_27bf77b2), sl_law_covered_27bf77b2⟩)
    (h_c_law_covered_27bf77b2 : PySem.W.codeIn K cd_law_covered_27bf77b2 "_law_covered" = true)
    (h_k_law_covered_27bf77b2 : PySem.W.keepIn K (.ref f_law_covered_27bf77b2) = true)
    (h_a_law_floor_moves_d092ad0b : PySem.W.nsIn K mainGlobals "_law_floor_moves" = some (some (.ref f_law_floor_moves_d092ad0b)))
    (h_l_law_floor_moves_d092ad0b : K.lookup f_law_floor_moves_d092ad0b = some ⟨oc_law_floor_moves_d092ad0b, od_law_floor_moves_d092ad0b, .func (PySem.W.fnOf "_law_floor_moves" "_law_floor_moves" (defArgs s_law_floor_moves_d092ad0b) (defBody s_law_floor_moves_d092ad0b) (defScope s_law_floor_moves_d092ad0b) .none kV_law_floor_moves_d092ad0b dc_law_floor_moves_d092ad0b pm_law_floor_moves_d092ad0b an_law_floor_moves_d092ad0b cd_law_floor_moves_d092ad0b ct_law_floor_moves_d092ad0b), sl_law_floor_moves_d092ad0b⟩)
    (h_c_law_floor_moves_d092ad0b : PySem.W.codeIn K cd_law_floor_moves_d092ad0b "_law_floor_moves" = true)
    (h_k_law_floor_moves_d092ad0b : PySem.W.keepIn K (.ref f_law_floor_moves_d092ad0b) = true)
    (h_a_covered : PySem.W.nsIn K mainGlobals "covered" = some (some (.ref f_covered)))
    (h_l_covered : K.lookup f_covered = some ⟨oc_covered, od_covered, .func (PySem.W.fnOf "covered" "covered" (defArgs s_covered) (defBody s_covered) (defScope s_covered) .none kV_covered dc_covered pm_covered an_covered cd_covered ct_covered), sl_covered⟩)
    (h_c_covered : PySem.W.codeIn K cd_covered "covered" = true)
    (h_k_covered : PySem.W.keepIn K (.ref f_covered) = true)
    (h_a_Floor_moves : PySem.W.findIn K (.ref C_Floor) "moves" = some (some (.ref f_Floor_moves)))
    (h_i_Floor_moves : PySem.W.isFn K (.ref f_Floor_moves) = true)
    (h_l_Floor_moves : K.lookup f_Floor_moves = some ⟨oc_Floor_moves, od_Floor_moves, .func (PySem.W.fnOf "moves" "Floor.moves" (defArgs s_Floor_moves) (defBody s_Floor_moves) (defScope s_Floor_moves) .none kV_Floor_moves dc_Floor_moves pm_Floor_moves an_Floor_moves cd_Floor_moves ct_Floor_moves), sl_Floor_moves⟩)
    (h_c_Floor_moves : PySem.W.codeIn K cd_Floor_moves "Floor.moves" = true)
    (h_k_Floor_moves : PySem.W.keepIn K (.ref f_Floor_moves) = true)
    (h_a_law_counts_ea32dc8c : PySem.W.nsIn K mainGlobals "_law_counts" = some (some (.ref f_law_counts_ea32dc8c)))
    (h_l_law_counts_ea32dc8c : K.lookup f_law_counts_ea32dc8c = some ⟨oc_law_counts_ea32dc8c, od_law_counts_ea32dc8c, .func (PySem.W.fnOf "_law_counts" "_law_counts" (defArgs s_law_counts_ea32dc8c) (defBody s_law_counts_ea32dc8c) (defScope s_law_counts_ea32dc8c) .none kV_law_counts_ea32dc8c dc_law_counts_ea32dc8c pm_law_counts_ea32dc8c an_law_counts_ea32dc8c cd_law_counts_ea32dc8c ct_law_counts_ea32dc8c), sl_law_counts_ea32dc8c⟩)
    (h_c_law_counts_ea32dc8c : PySem.W.codeIn K cd_law_counts_ea32dc8c "_law_counts" = true)
    (h_k_law_counts_ea32dc8c : PySem.W.keepIn K (.ref f_law_counts_ea32dc8c) = true)
    (h_a_law_a52aaa2a : PySem.W.nsIn K mainGlobals "law" = some (some (.ref f_law_a52aaa2a)))
    (h_l_law_a52aaa2a : K.lookup f_law_a52aaa2a = some ⟨oc_law_a52aaa2a, od_law_a52aaa2a, .func (PySem.W.fnOf "law" "law" (defArgs s_law_a52aaa2a) (defBody s_law_a52aaa2a) (defScope s_law_a52aaa2a) .none kV_law_a52aaa2a dc_law_a52aaa2a pm_law_a52aaa2a an_law_a52aaa2a cd_law_a52aaa2a ct_law_a52aaa2a), sl_law_a52aaa2a⟩)
    (h_c_law_a52aaa2a : PySem.W.codeIn K cd_law_a52aaa2a "law" = true)
    (h_k_law_a52aaa2a : PySem.W.keepIn K (.ref f_law_a52aaa2a) = true)
    : ∃ fd : FuncData, (∀ (s : Shared) (v : Value), BindsTo s fd ⟨[v], []⟩ [("_law_script", v)]) ∧ ∀ base : Heap, K.In base → base.Ns mainGlobals mg → L2.FnOk lawPr w K mg base (L2.CX lawPr w) 231 fa fd ["_law_script"] (liftSp ⟨lawPr, w, K⟩ spLawT) := by
  have e : f_law_a52aaa2a = fa := Value.ref.inj (Option.some.inj ((PySem.W.mg_of X G0 h_a_law_a52aaa2a).symm.trans hfa))
  subst e
  have F_law_digits_b31862c4 := fun_mk (st := s_law_digits_b31862c4) h_l_law_digits_b31862c4 h_c_law_digits_b31862c4 h_k_law_digits_b31862c4
  have F_law_rows_3c71d864 := fun_mk (st := s_law_rows_3c71d864) h_l_law_rows_3c71d864 h_c_law_rows_3c71d864 h_k_law_rows_3c71d864
  have F_law_cell_4bc9b38b := fun_mk (st := s_law_cell_4bc9b38b) h_l_law_cell_4bc9b38b h_c_law_cell_4bc9b38b h_k_law_cell_4bc9b38b
  have F_Floor_init := fun_mk (st := s_Floor_init) h_l_Floor_init h_c_Floor_init h_k_Floor_init
  have F_law_clipped_ce61efcc := fun_mk (st := s_law_clipped_ce61efcc) h_l_law_clipped_ce61efcc h_c_law_clipped_ce61efcc h_k_law_clipped_ce61efcc
  have F_law_floor_parts_da8a0049 := fun_mk (st := s_law_floor_parts_da8a0049) h_l_law_floor_parts_da8a0049 h_c_law_floor_parts_da8a0049 h_k_law_floor_parts_da8a0049
  have F_law_same_04c10c30 := fun_mk (st := s_law_same_04c10c30) h_l_law_same_04c10c30 h_c_law_same_04c10c30 h_k_law_same_04c10c30
  have F_Floor_value := fun_mk (st := s_Floor_value) h_l_Floor_value h_c_Floor_value h_k_Floor_value
  have F_law_told_87c2cc6e := fun_mk (st := s_law_told_87c2cc6e) h_l_law_told_87c2cc6e h_c_law_told_87c2cc6e h_k_law_told_87c2cc6e
  have F_Floor_free := fun_mk (st := s_Floor_free) h_l_Floor_free h_c_Floor_free h_k_Floor_free
  have F_around := fun_mk (st := s_around) h_l_around h_c_around h_k_around
  have F_joined := fun_mk (st := s_joined) h_l_joined h_c_joined h_k_joined
  have F_clipped := fun_mk (st := s_clipped) h_l_clipped h_c_clipped h_k_clipped
  have F_Floor_parts := fun_mk (st := s_Floor_parts) h_l_Floor_parts h_c_Floor_parts h_k_Floor_parts
  have F_law_covered_27bf77b2 := fun_mk (st := s_law_covered_27bf77b2) h_l_law_covered_27bf77b2 h_c_law_covered_27bf77b2 h_k_law_covered_27bf77b2
  have F_law_floor_moves_d092ad0b := fun_mk (st := s_law_floor_moves_d092ad0b) h_l_law_floor_moves_d092ad0b h_c_law_floor_moves_d092ad0b h_k_law_floor_moves_d092ad0b
  have F_covered := fun_mk (st := s_covered) h_l_covered h_c_covered h_k_covered
  have F_Floor_moves := fun_mk (st := s_Floor_moves) h_l_Floor_moves h_c_Floor_moves h_k_Floor_moves
  have F_law_counts_ea32dc8c := fun_mk (st := s_law_counts_ea32dc8c) h_l_law_counts_ea32dc8c h_c_law_counts_ea32dc8c h_k_law_counts_ea32dc8c
  have F_law_a52aaa2a := fun_mk (st := s_law_a52aaa2a) h_l_law_a52aaa2a h_c_law_a52aaa2a h_k_law_a52aaa2a
  let G : Gx := ⟨⟨lawPr, w, K⟩, 0, C_BadValue, 0, 0, 0, 0, 0, 0, 0, 0, 0, 0, 0, 0, 0, C_Floor, 0, 0, 0, 0, 0, 0, 0, 0, 0, C_STEPS, 0⟩
  have T : ∃ A : Ad, Txt G mg A ∧ A.f_law_a52aaa2a = f_law_a52aaa2a ∧ A.fd_law_a52aaa2a = PySem.W.fnOf "law" "law" (defArgs s_law_a52aaa2a) (defBody s_law_a52aaa2a) (defScope s_law_a52aaa2a) .none kV_law_a52aaa2a dc_law_a52aaa2a pm_law_a52aaa2a an_law_a52aaa2a cd_law_a52aaa2a ct_law_a52aaa2a := ⟨⟨f_law_digits_b31862c4, _, f_law_rows_3c71d864, _, f_law_cell_4bc9b38b, _, f_Floor_init, _, f_law_clipped_ce61efcc, _, f_law_floor_parts_da8a0049, _, f_law_same_04c10c30, _, f_Floor_value, _, f_law_told_87c2cc6e, _, f_Floor_free, _, f_around, _, f_joined, _, f_clipped, _, f_Floor_parts, _, f_law_covered_27bf77b2, _, f_law_floor_moves_d092ad0b, _, f_covered, _, f_Floor_moves, _, f_law_counts_ea32dc8c, _, f_law_a52aaa2a, _⟩, ⟨PySem.W.mg_of X G0 h_aC_Floor, ⟨h_pg_Floor, h_hd_Floor, h_po_Floor, h_sa_Floor⟩, ⟨⟨h_pg_Floor, h_hd_Floor, h_po_Floor, h_sa_Floor⟩, ⟨h_ha_Floor, h_hn_, h_htk_, h_mr_Floor⟩, fun _ h => (nomatch h), List.nodup_nil, by decide⟩, h_no_Floor__rows, ⟨h_mk_Floor, h_a_Floor_init, h_i_Floor_init, h_kc_Floor⟩, PySem.W.mg_of X G0 h_aC_BadValue, h_x_BadValue, h_k_BadValue, h_eb_BadValue, h_et_BadValue, ⟨_, PySem.W.mg_of X G0 h_g_SIDE_MOST⟩, PySem.W.mg_of X G0 h_g_STEPS, ⟨.ref ad_STEPS_left, ⟨_, _, _, h_l_STEPS, h_kl_STEPS, h_e_STEPS_left, rfl⟩, fun _ => .tup (.inr ⟨_, _, _, h_t_STEPS_left, rfl, rfl, z200 (n := 2) (by decide), (.cons rel_int (.cons rel_int .nil))⟩) (.cons (.int _) (.cons (.int _) .nil))⟩, ⟨.ref ad_STEPS_right, ⟨_, _, _, h_l_STEPS, h_kl_STEPS, h_e_STEPS_right, rfl⟩, fun _ => .tup (.inr ⟨_, _, _, h_t_STEPS_right, rfl, rfl, z200 (n := 2) (by decide), (.cons rel_int (.cons rel_int .nil))⟩) (.cons (.int _) (.cons (.int _) .nil))⟩, PySem.W.mg_none_of X G0 h_n_abs, PySem.W.mg_none_of X G0 h_n_all, PySem.W.mg_none_of X G0 h_n_bool, PySem.W.mg_none_of X G0 h_n_enumerate, PySem.W.mg_none_of X G0 h_n_int, PySem.W.mg_none_of X G0 h_n_isinstance, PySem.W.mg_none_of X G0 h_n_len, PySem.W.mg_none_of X G0 h_n_list, PySem.W.mg_none_of X G0 h_n_max, PySem.W.mg_none_of X G0 h_n_min, PySem.W.mg_none_of X G0 h_n_range, PySem.W.mg_none_of X G0 h_n_str, PySem.W.mg_none_of X G0 h_n_sum, PySem.W.mg_none_of X G0 h_n_tuple, PySem.W.mg_of X G0 h_a_law_digits_b31862c4, F_law_digits_b31862c4, F_law_digits_b31862c4.binds (ps := ["_law_cell_here", "_law_count"]) fun _ _ _ _ _ _ us hl => match us, hl with | [_, _], _ => rfl, PySem.W.mg_of X G0 h_a_law_rows_3c71d864, F_law_rows_3c71d864, F_law_rows_3c71d864.binds (ps := ["_law_cell_here"]) fun _ _ _ _ _ _ us hl => match us, hl with | [_], _ => rfl, PySem.W.mg_of X G0 h_a_law_cell_4bc9b38b, F_law_cell_4bc9b38b, F_law_cell_4bc9b38b.binds (ps := ["_law_script", "_law_k"]) fun _ _ _ _ _ _ us hl => match us, hl with | [_, _], _ => rfl, F_Floor_init, F_Floor_init.binds (ps := ["self", "rows"]) fun _ _ _ _ _ _ us hl => match us, hl with | [_, _], _ => rfl, PySem.W.mg_of X G0 h_a_law_clipped_ce61efcc, F_law_clipped_ce61efcc, F_law_clipped_ce61efcc.binds (ps := ["_law_cells"]) fun _ _ _ _ _ _ us hl => match us, hl with | [_], _ => rfl, PySem.W.mg_of X G0 h_a_law_floor_parts_da8a0049, F_law_floor_parts_da8a0049, F_law_floor_parts_da8a0049.binds (ps := ["_law_rows_here"]) fun _ _ _ _ _ _ us hl => match us, hl with | [_], _ => rfl, PySem.W.mg_of X G0 h_a_law_same_04c10c30, F_law_same_04c10c30, F_law_same_04c10c30.binds (ps := ["_law_told_here", "_law_due"]) fun _ _ _ _ _ _ us hl => match us, hl with | [_, _], _ => rfl, ⟨h_a_Floor_value, h_i_Floor_value, h_k_Floor_value⟩, F_Floor_value, F_Floor_value.binds (ps := ["self"]) fun _ _ _ _ _ _ us hl => match us, hl with | [_], _ => rfl, PySem.W.mg_of X G0 h_a_law_told_87c2cc6e, F_law_told_87c2cc6e, F_law_told_87c2cc6e.binds (ps := ["_law_boards", "_law_dues"]) fun _ _ _ _ _ _ us hl => match us, hl with | [_, _], _ => rfl, ⟨h_a_Floor_free, h_i_Floor_free, h_k_Floor_free⟩, F_Floor_free, F_Floor_free.binds (ps := ["self"]) fun _ _ _ _ _ _ us hl => match us, hl with | [_], _ => rfl, PySem.W.mg_of X G0 h_a_around, F_around, F_around.binds (ps := ["cell"]) fun _ _ _ _ _ _ us hl => match us, hl with | [_], _ => rfl, PySem.W.mg_of X G0 h_a_joined, F_joined, F_joined.binds (ps := ["cells"]) fun _ _ _ _ _ _ us hl => match us, hl with | [_], _ => rfl, PySem.W.mg_of X G0 h_a_clipped, F_clipped, F_clipped.binds (ps := ["cells"]) fun _ _ _ _ _ _ us hl => match us, hl with | [_], _ => rfl, ⟨h_a_Floor_parts, h_i_Floor_parts, h_k_Floor_parts⟩, F_Floor_parts, F_Floor_parts.binds (ps := ["self"]) fun _ _ _ _ _ _ us hl => match us, hl with | [_], _ => rfl, PySem.W.mg_of X G0 h_a_law_covered_27bf77b2, F_law_covered_27bf77b2, F_law_covered_27bf77b2.binds (ps := ["_law_rows_here", "_law_line", "_law_column"]) fun _ _ _ _ _ _ us hl => match us, hl with | [_, _, _], _ => rfl, PySem.W.mg_of X G0 h_a_law_floor_moves_d092ad0b, F_law_floor_moves_d092ad0b, F_law_floor_moves_d092ad0b.binds (ps := ["_law_rows_here", "_law_side"]) fun _ _ _ _ _ _ us hl => match us, hl with | [_, _], _ => rfl, PySem.W.mg_of X G0 h_a_covered, F_covered, F_covered.binds (ps := ["rows", "cells"]) fun _ _ _ _ _ _ us hl => match us, hl with | [_, _], _ => rfl, ⟨h_a_Floor_moves, h_i_Floor_moves, h_k_Floor_moves⟩, F_Floor_moves, F_Floor_moves.binds (ps := ["self", "side"]) fun _ _ _ _ _ _ us hl => match us, hl with | [_, _], _ => rfl, PySem.W.mg_of X G0 h_a_law_counts_ea32dc8c, F_law_counts_ea32dc8c, F_law_counts_ea32dc8c.binds (ps := ["_law_board", "_law_rows_here", "_law_side"]) fun _ _ _ _ _ _ us hl => match us, hl with | [_, _, _], _ => rfl, PySem.W.mg_of X G0 h_a_law_a52aaa2a, F_law_a52aaa2a, F_law_a52aaa2a.binds (ps := ["_law_script"]) fun _ _ _ _ _ _ us hl => match us, hl with | [_], _ => rfl⟩, rfl, rfl⟩
  obtain ⟨A, T, e1, e2⟩ := T
  exact ⟨PySem.W.fnOf "law" "law" (defArgs s_law_a52aaa2a) (defBody s_law_a52aaa2a) (defScope s_law_a52aaa2a) .none kV_law_a52aaa2a dc_law_a52aaa2a pm_law_a52aaa2a an_law_a52aaa2a cd_law_a52aaa2a ct_law_a52aaa2a, fun s v => .of_eq rfl, fun base _ _ => by rw [← e1, ← e2]; exact (ok_law_a52aaa2a (G := G) T).kit (k := 231) (by decide) (by decide)⟩
theorem walk {l : PySem.W.OpenLaw} {q : Program} {loose : List Str} {XP : (Str → Option Value) → Heap → Prop} {YP : World → Heap → Prop} {d : DefRec} {K : Params → PySem.W.Frag} (hp : l.prog = lawPr) (hn : l.most = some 63) (hdf : d.params.defaults = [])
    (hY : ∀ (w : World) (h : Heap), YP w h → (K w.params).In h)
    (F : ∀ (w : World) (mg : Str → Option Value) (fa : Addr) (h : Heap), (K w.params).In h → h.Ns mainGlobals mg → mg d.name = some (.ref fa) → ∃ fd : FuncData, (∀ (s : Shared) (u : Value), BindsTo s fd ⟨[u], []⟩ [("_law_script", u)]) ∧ ∀ base : Heap, (K w.params).In base → base.Ns mainGlobals mg → L2.FnOk lawPr w (K w.params) mg base (L2.CX lawPr w) 231 fa fd ["_law_script"] (liftSp ⟨lawPr, w, K w.params⟩ spLawT)) :
    PySem.W.WalkO q loose XP YP l.row.toRowW d [] (fun f vs => PySem.call f vs) := by
  rw [← hp] at F
  exact L2.walk_of (n := 63) (k := 231) (x := "_law_script") (CX := fun w => L2.CX l.prog w) (sp := fun w => liftSp ⟨l.prog, w, K w.params⟩ spLawT) hn (by decide) hdf ⟨rfl, by decide, by decide⟩ hY F (fun w H a ns hl _ hS => law_start (k := ⟨l.prog, w, K w.params⟩) hl hS) fun _ _ _ _ _ ⟨_, _, _, _, _, _, _, _, _, _, _, _, z⟩ => z
end AL
open PySem PySem.W PyProof.Rows
set_option maxRecDepth 100000 in
set_option maxHeartbeats 0 in
theorem PySem.Challenge.cw_sumsplay_k59_parts_of_floors_holds : PySem.Challenge.rw_sumsplay_k59_parts_of_floors.Holds := by
  w_on; o_law; k_head; (case hw => w_witness2)
  k_fill
  refine AL.walk (l := PySem.Challenge.rw_sumsplay_k59_parts_of_floors) rfl rfl rfl (fun w h Y => PySem.W.kIn_of Y) ?F
  case F =>
    intro w mg fa h KX G hmg
    refine' AL.all_mk KX G hmg ?h_aC_Floor ?h_pg_Floor ?h_hd_Floor ?h_po_Floor ?h_sa_Floor ?h_ha_Floor ?h_mr_Floor ?h_kc_Floor ?h_no_Floor__rows ?h_mk_Floor ?h_hn_ ?h_htk_ ?h_aC_BadValue ?h_x_BadValue ?h_k_BadValue ?h_eb_BadValue ?h_et_BadValue ?h_g_SIDE_MOST ?h_g_STEPS ?h_l_STEPS ?h_kl_STEPS ?h_e_STEPS_left ?h_t_STEPS_left ?h_e_STEPS_right ?h_t_STEPS_right ?h_n_abs ?h_n_all ?h_n_bool ?h_n_enumerate ?h_n_int ?h_n_isinstance ?h_n_len ?h_n_list ?h_n_max ?h_n_min ?h_n_range ?h_n_str ?h_n_sum ?h_n_tuple ?h_a_law_digits_b31862c4 ?h_l_law_digits_b31862c4 ?h_c_law_digits_b31862c4 ?h_k_law_digits_b31862c4 ?h_a_law_rows_3c71d864 ?h_l_law_rows_3c71d864 ?h_c_law_rows_3c71d864 ?h_k_law_rows_3c71d864 ?h_a_law_cell_4bc9b38b ?h_l_law_cell_4bc9b38b ?h_c_law_cell_4bc9b38b ?h_k_law_cell_4bc9b38b ?h_a_Floor_init ?h_i_Floor_init ?h_l_Floor_init ?h_c_Floor_init ?h_k_Floor_init ?h_a_law_clipped_ce61efcc ?h_l_law_clipped_ce61efcc ?h_c_law_clipped_ce61efcc ?h_k_law_clipped_ce61efcc ?h_a_law_floor_parts_da8a0049 ?h_l_law_floor_parts_da8a0049 ?h_c_law_floor_parts_da8a0049 ?h_k_law_floor_parts_da8a0049 ?h_a_law_same_04c10c30 ?h_l_law_same_04c10c30 ?h_c_law_same_04c10c30 ?h_k_law_same_04c10c30 ?h_a_Floor_value ?h_i_Floor_value ?h_l_Floor_value ?h_c_Floor_value ?h_k_Floor_value ?h_a_law_told_87c2cc6e ?h_l_law_told_87c2cc6e ?h_c_law_told_87c2cc6e ?h_k_law_told_87c2cc6e ?h_a_Floor_free ?h_i_Floor_free ?h_l_Floor_free ?h_c_Floor_free ?h_k_Floor_free ?h_a_around ?h_l_around ?h_c_around ?h_k_around ?h_a_joined ?h_l_joined ?h_c_joined ?h_k_joined ?h_a_clipped ?h_l_clipped ?h_c_clipped ?h_k_clipped ?h_a_Floor_parts ?h_i_Floor_parts ?h_l_Floor_parts ?h_c_Floor_parts ?h_k_Floor_parts ?h_a_law_covered_27bf77b2 ?h_l_law_covered_27bf77b2 ?h_c_law_covered_27bf77b2 ?h_k_law_covered_27bf77b2 ?h_a_law_floor_moves_d092ad0b ?h_l_law_floor_moves_d092ad0b ?h_c_law_floor_moves_d092ad0b ?h_k_law_floor_moves_d092ad0b ?h_a_covered ?h_l_covered ?h_c_covered ?h_k_covered ?h_a_Floor_moves ?h_i_Floor_moves ?h_l_Floor_moves ?h_c_Floor_moves ?h_k_Floor_moves ?h_a_law_counts_ea32dc8c ?h_l_law_counts_ea32dc8c ?h_c_law_counts_ea32dc8c ?h_k_law_counts_ea32dc8c ?h_a_law_a52aaa2a ?h_l_law_a52aaa2a ?h_c_law_a52aaa2a ?h_k_law_a52aaa2a
    (case h_aC_Floor => k_is)
    (case h_pg_Floor => k_is)
    (case h_hd_Floor => k_is)
    (case h_po_Floor => k_is)
    (case h_sa_Floor => k_is)
    (case h_ha_Floor => k_is)
    (case h_mr_Floor => k_is)
    (case h_kc_Floor => k_is)
    (case h_no_Floor__rows => k_is)
    (case h_mk_Floor => k_is)
    (case h_hn_ => k_is)
    (case h_htk_ => k_is)
    (case h_aC_BadValue => k_is)
    (case h_x_BadValue => k_exc)
    (case h_k_BadValue => k_is)
    (case h_eb_BadValue => k_is)
    (case h_et_BadValue => k_is)
    (case h_g_SIDE_MOST => k_is)
    (case h_g_STEPS => k_is)
    (case h_l_STEPS => k_is)
    (case h_kl_STEPS => first | exact ⟨⟨_, _, rfl, rfl⟩, ⟨_, _, rfl, rfl⟩, trivial⟩ | exact ⟨⟨_, _, rfl, rfl⟩, trivial⟩)
    (case h_e_STEPS_left => k_is)
    (case h_t_STEPS_left => k_is)
    (case h_e_STEPS_right => k_is)
    (case h_t_STEPS_right => k_is)
    (case h_n_abs => k_is)
    (case h_n_all => k_is)
    (case h_n_bool => k_is)
    (case h_n_enumerate => k_is)
    (case h_n_int => k_is)
    (case h_n_isinstance => k_is)
    (case h_n_len => k_is)
    (case h_n_list => k_is)
    (case h_n_max => k_is)
    (case h_n_min => k_is)
    (case h_n_range => k_is)
    (case h_n_str => k_is)
    (case h_n_sum => k_is)
    (case h_n_tuple => k_is)
    (case h_a_law_digits_b31862c4 => k_is)
    (case h_l_law_digits_b31862c4 => k_is)
    (case h_c_law_digits_b31862c4 => k_is)
    (case h_k_law_digits_b31862c4 => k_is)
    (case h_a_law_rows_3c71d864 => k_is)
    (case h_l_law_rows_3c71d864 => k_is)
    (case h_c_law_rows_3c71d864 => k_is)
    (case h_k_law_rows_3c71d864 => k_is)
    (case h_a_law_cell_4bc9b38b => k_is)
    (case h_l_law_cell_4bc9b38b => k_is)
    (case h_c_law_cell_4bc9b38b => k_is)
    (case h_k_law_cell_4bc9b38b => k_is)
    (case h_a_Floor_init => k_is)
    (case h_i_Floor_init => k_is)
    (case h_l_Floor_init => k_is)
    (case h_c_Floor_init => k_is)
    (case h_k_Floor_init => k_is)
    (case h_a_law_clipped_ce61efcc => k_is)
    (case h_l_law_clipped_ce61efcc => k_is)
    (case h_c_law_clipped_ce61efcc => k_is)
    (case h_k_law_clipped_ce61efcc => k_is)
    (case h_a_law_floor_parts_da8a0049 => k_is)
    (case h_l_law_floor_parts_da8a0049 => k_is)
    (case h_c_law_floor_parts_da8a0049 => k_is)
    (case h_k_law_floor_parts_da8a0049 => k_is)
    (case h_a_law_same_04c10c30 => k_is)
    (case h_l_law_same_04c10c30 => k_is)
    (case h_c_law_same_04c10c30 => k_is)
    (case h_k_law_same_04c10c30 => k_is)
    (case h_a_Floor_value => k_is)
    (case h_i_Floor_value => k_is)
    (case h_l_Floor_value => k_is)
    (case h_c_Floor_value => k_is)
    (case h_k_Floor_value => k_is)
    (case h_a_law_told_87c2cc6e => k_is)
    (case h_l_law_told_87c2cc6e => k_is)
    (case h_c_law_told_87c2cc6e => k_is)
    (case h_k_law_told_87c2cc6e => k_is)
    (case h_a_Floor_free => k_is)
    (case h_i_Floor_free => k_is)
    (case h_l_Floor_free => k_is)
    (case h_c_Floor_free => k_is)
    (case h_k_Floor_free => k_is)
    (case h_a_around => k_is)
    (case h_l_around => k_is)
    (case h_c_around => k_is)
    (case h_k_around => k_is)
    (case h_a_joined => k_is)
    (case h_l_joined => k_is)
    (case h_c_joined => k_is)
    (case h_k_joined => k_is)
    (case h_a_clipped => k_is)
    (case h_l_clipped => k_is)
    (case h_c_clipped => k_is)
    (case h_k_clipped => k_is)
    (case h_a_Floor_parts => k_is)
    (case h_i_Floor_parts => k_is)
    (case h_l_Floor_parts => k_is)
    (case h_c_Floor_parts => k_is)
    (case h_k_Floor_parts => k_is)
    (case h_a_law_covered_27bf77b2 => k_is)
    (case h_l_law_covered_27bf77b2 => k_is)
    (case h_c_law_covered_27bf77b2 => k_is)
    (case h_k_law_covered_27bf77b2 => k_is)
    (case h_a_law_floor_moves_d092ad0b => k_is)
    (case h_l_law_floor_moves_d092ad0b => k_is)
    (case h_c_law_floor_moves_d092ad0b => k_is)
    (case h_k_law_floor_moves_d092ad0b => k_is)
    (case h_a_covered => k_is)
    (case h_l_covered => k_is)
    (case h_c_covered => k_is)
    (case h_k_covered => k_is)
    (case h_a_Floor_moves => k_is)
    (case h_i_Floor_moves => k_is)
    (case h_l_Floor_moves => k_is)
    (case h_c_Floor_moves => k_is)
    (case h_k_Floor_moves => k_is)
    (case h_a_law_counts_ea32dc8c => k_is)
    (case h_l_law_counts_ea32dc8c => k_is)
    (case h_c_law_counts_ea32dc8c => k_is)
    (case h_k_law_counts_ea32dc8c => k_is)
    (case h_a_law_a52aaa2a => k_is)
    (case h_l_law_a52aaa2a => k_is)
    (case h_c_law_a52aaa2a => k_is)
    (case h_k_law_a52aaa2a => k_is)
