import PyProof.Rows.All
import Wide.All
import OpenK.AllK
import Wide.FinOn
import HandS.ExcCtx
import HandS.HotCalls
import HandS.ForMost
import HandS.ForExc
import HandS.IsInst
import HandS.Property
import HandS.ExcIs
import HandS.CallSlots
import HandS.Wide
import KE.KDictKeyed
import HandS.TupAny
import HandS.Style
import HandS.SortInts
import HandS.Defaults
import KE.KOpsOwn
import HandS.MakeKw
import KE.GoesMore
import HandS.Dict
import HandS.TupMul
import HandS.Text
import HandS.StrMore
import PyProof.Rows.ListStrD
import HandS.More
import PyProof.StrBlock2
import HandS.Deep
import PyProof.EnumMake
import HandS.SetFor
import HandS.Strs
import HandS.Conv
import KE.KDictDisplayH
import HandS.HotCalls
import PySem.Challenge.RW_sumsplay_k47_places_on_a_wall
set_option Elab.async false
set_option linter.all false
set_option maxRecDepth 100000
set_option maxHeartbeats 4000000
namespace AL
open PySem PySem.Spec PyProof.Rows L2

/-- data: what a value is, with all that hangs on it; ref: an object that may change, or a class, a def -/
inductive DV where
  | non | bl (b : Bool) | int (i : Int) | str (x : Str) | ty (n : String) | ref (a : Addr)
  | lst (xs : List DV) | tup (xs : List DV) | ins (C : Addr) (ks : List Str) (xs : List DV) | wl (xs : List DV)

/-- objects that change -/
inductive MO where
  | lst (xs : List DV)
  | ins (C dx : Addr) (ks : List Str) (xs : List DV)
  | dK (kvs : List (Key × DV))
  | dT (kvs : List (NestedKey × DV))

abbrev Led := Addr → Option MO
def updL (L : Led) (a : Addr) (m : MO) : Led := fun b => if b = a then some m else L b
def delL (L : Led) (a : Addr) : Led := fun b => if b = a then none else L b
theorem updL_same {L : Led} {a : Addr} {m : MO} : updL L a m a = some m := by unfold updL; rw [if_pos rfl]
theorem updL_ne {L : Led} {a b : Addr} {m : MO} (h : b ≠ a) : updL L a m b = L b := by unfold updL; rw [if_neg h]
theorem updL_updL {L : Led} {a : Addr} {m n : MO} : updL (updL L a m) a n = updL L a n := by
  funext b; unfold updL; split <;> rfl
theorem updL_comm {L : Led} {a b : Addr} {m n : MO} (h : a ≠ b) : updL (updL L a m) b n = updL (updL L b n) a m := by
  funext c; unfold updL
  by_cases h1 : c = b <;> by_cases h2 : c = a <;> simp [h1, h2] <;> intro z <;> first | exact absurd z h | exact absurd z.symm h | (subst h1; exact absurd h2 (Ne.symm h)) | skip
theorem updL_id {L : Led} {a : Addr} {m : MO} (h : L a = some m) : updL L a m = L := by
  funext b; unfold updL; split
  · rename_i e; rw [e, h]
  · rfl
theorem delL_updL {L : Led} {a : Addr} {m : MO} (h : L a = none) : delL (updL L a m) a = L := by
  funext b; unfold delL updL
  by_cases e : b = a
  · rw [if_pos e, e, h]
  · rw [if_neg e, if_neg e]
theorem ne_led {L : Led} {a b : Addr} {m : MO} (h : L a = some m) (h' : L b = none) : a ≠ b := by
  intro e; subst e; rw [h] at h'; cases h'
theorem ne_led2 {L : Led} {a b : Addr} {m n : MO} (h : L a = some m) (h' : L b = some n) (d : m ≠ n) : a ≠ b := by
  intro e; subst e; rw [h] at h'; exact d (Option.some.inj h')
/-- fewer objects are told -/
def Sub (L2 L : Led) : Prop := ∀ a m, L2 a = some m → L a = some m
theorem Sub.refl (L : Led) : Sub L L := fun _ _ h => h
theorem Sub.trans {L1 L2 L3 : Led} (h : Sub L1 L2) (h' : Sub L2 L3) : Sub L1 L3 := fun a m e => h' a m (h a m e)
theorem Sub.new {L : Led} {a : Addr} {m : MO} (h : L a = none) : Sub L (updL L a m) := fun b n e => by
  rw [updL_ne (ne_led e h)]; exact e
theorem Sub.into {L L1 : Led} {a : Addr} {m : MO} (s : Sub L L1) (h : L a = none) : Sub L (updL L1 a m) := fun b n e => by
  rw [updL_ne (ne_led e h)]; exact s b n e
theorem Sub.none {L L1 : Led} {a : Addr} (s : Sub L L1) (h : L1 a = none) : L a = none := by
  cases q : L a with
  | none => rfl
  | some m => rw [s a m q] at h; cases h

/-- one heap holds all of another -/
def Ex (H H' : Hp) : Prop := ∀ a o, H a = some o → H' a = some o
theorem Ex.refl (H : Hp) : Ex H H := fun _ _ h => h
theorem Ex.trans {H H1 H2 : Hp} (a : Ex H H1) (b : Ex H1 H2) : Ex H H2 := fun x o h => b x o (a x o h)
theorem Ex.new {H : Hp} {p : Addr} {o : HO} (h : H p = none) : Ex H (upd H p o) := fun a u e => by
  rw [upd_ne (ne_of_none e h)]; exact e
theorem Ex.rd {H H' : Hp} {a : Addr} {u : HO} (e : Ex H H') (h : Rd H a u) : Rd H' a u := by
  rcases h with h | ⟨o, h⟩
  · exact Or.inl (e a _ h)
  · exact Or.inr ⟨o, e a _ h⟩
theorem Ex.l {K : PySem.W.Frag} {H H' : Hp} {a : Addr} {xs : List V} (e : Ex H H') (h : SqL K H a xs) : SqL K H' a xs := by
  rcases h with h | h
  · exact Or.inl (e.rd h)
  · exact Or.inr h
theorem Ex.t {K : PySem.W.Frag} {H H' : Hp} {a : Addr} {xs : List V} (e : Ex H H') (h : SqT K H a xs) : SqT K H' a xs := by
  rcases h with h | h
  · exact Or.inl (e.rd h)
  · exact Or.inr h
theorem Ex.none {H H' : Hp} {a : Addr} (e : Ex H H') (h : H' a = none) : H a = none := by
  cases q : H a with
  | none => rfl
  | some m => rw [e a m q] at h; cases h

/-- what isinstance asks of a class -/
structure TyC (K : PySem.W.Frag) (C : Addr) : Prop where
  ha : PySem.W.findIn K (.ref C) "__class__" = some (some (.builtin "object.__class__"))
  hn : PySem.W.specialIn K (.builtin "object.__class__") "__get__" = some (some (.builtin "getset_descriptor.__get__"))
  htk : PySem.W.takesIn K (.builtin "object.__class__") = some true
  hm : PySem.W.mroIn K C (.type "object") = some true
/-- what the class says of an instance's attributes -/
structure FOk (K : PySem.W.Frag) (C : Addr) (ks : List Str) : Prop where
  cl : Cls K C
  ty : TyC K C
  no : ∀ f ∈ ks, NoAttr K C f
  nd : ks.Nodup
  few : ks.length < 1000

mutual
/-- the value v is the data d, by what stands in I for ever -/
inductive Rp (K : PySem.W.Frag) (I : Hp) : DV → V → Prop
  | non : Rp K I .non .non
  | bl (b : Bool) : Rp K I (.bl b) (.bl b)
  | int (i : Int) : Rp K I (.int i) (.int i)
  | str (x : Str) : Rp K I (.str x) (.str x)
  | ty (n : String) : Rp K I (.ty n) (.ty n)
  | ref (a : Addr) : Rp K I (.ref a) (.ref a)
  | lst {a : Addr} {vs : List V} {ds : List DV} (h : I a = some (.lst vs)) (r : Rps K I ds vs) : Rp K I (.lst ds) (.ref a)
  | wl {a : Addr} {vs : List V} {ds : List DV} (h : SqL K I a vs) (r : Rps K I ds vs) : Rp K I (.wl ds) (.ref a)
  | tup {a : Addr} {vs : List V} {ds : List DV} (h : SqT K I a vs) (r : Rps K I ds vs) : Rp K I (.tup ds) (.ref a)
  | ins {a C dx : Addr} {fs : List (Str × V)} {ks : List Str} {ds : List DV} (h : I a = some (.ins C dx fs)) (e : fs.map (·.1) = ks) (c : FOk K C ks) (r : Rps K I ds (fs.map (·.2))) : Rp K I (.ins C ks ds) (.ref a)
inductive Rps (K : PySem.W.Frag) (I : Hp) : List DV → List V → Prop
  | nil : Rps K I [] []
  | cons {d : DV} {v : V} {ds : List DV} {vs : List V} (h : Rp K I d v) (r : Rps K I ds vs) : Rps K I (d :: ds) (v :: vs)
end
section
variable {K : PySem.W.Frag} {I I' : Hp}
mutual
theorem Rp.mono (e : Ex I I') : ∀ {d : DV} {v : V}, Rp K I d v → Rp K I' d v
  | _, _, .non => .non
  | _, _, .bl b => .bl b
  | _, _, .int i => .int i
  | _, _, .str x => .str x
  | _, _, .ty n => .ty n
  | _, _, .ref a => .ref a
  | _, _, .lst h r => .lst (e _ _ h) (Rps.mono e r)
  | _, _, .wl h r => .wl (e.l h) (Rps.mono e r)
  | _, _, .tup h r => .tup (e.t h) (Rps.mono e r)
  | _, _, .ins h q c r => .ins (e _ _ h) q c (Rps.mono e r)
theorem Rps.mono (e : Ex I I') : ∀ {ds : List DV} {vs : List V}, Rps K I ds vs → Rps K I' ds vs
  | _, _, .nil => .nil
  | _, _, .cons h r => .cons (Rp.mono e h) (Rps.mono e r)
end
theorem Rps.length : ∀ {ds : List DV} {vs : List V}, Rps K I ds vs → ds.length = vs.length
  | _, _, .nil => rfl
  | _, _, .cons _ r => by rw [List.length_cons, List.length_cons, Rps.length r]
theorem Rps.get : ∀ {ds : List DV} {vs : List V} {i : Nat} {d : DV}, Rps K I ds vs → ds[i]? = some d → ∃ v, vs[i]? = some v ∧ Rp K I d v
  | _, _, _, _, .nil, e => by simp at e
  | _, _, 0, _, .cons h _, e => by simp at e; subst e; exact ⟨_, rfl, h⟩
  | _, _, i + 1, d, .cons _ r, e => by
    obtain ⟨v, h1, h2⟩ := Rps.get (i := i) (d := d) r (by simpa using e)
    exact ⟨v, by simpa using h1, h2⟩
theorem Rps.getV : ∀ {ds : List DV} {vs : List V} {i : Nat} {v : V}, Rps K I ds vs → vs[i]? = some v → ∃ d, ds[i]? = some d ∧ Rp K I d v
  | _, _, _, _, .nil, e => by simp at e
  | _, _, 0, _, .cons h _, e => by simp at e; subst e; exact ⟨_, rfl, h⟩
  | _, _, i + 1, d, .cons _ r, e => by
    obtain ⟨v, h1, h2⟩ := Rps.getV (i := i) (v := d) r (by simpa using e)
    exact ⟨v, by simpa using h1, h2⟩
theorem Rps.append : ∀ {ds es : List DV} {vs us : List V}, Rps K I ds vs → Rps K I es us → Rps K I (ds ++ es) (vs ++ us)
  | _, _, _, _, .nil, s => s
  | _, _, _, _, .cons h r, s => .cons h (Rps.append r s)
theorem Rps.take : ∀ {ds : List DV} {vs : List V} (n : Nat), Rps K I ds vs → Rps K I (ds.take n) (vs.take n)
  | _, _, 0, _ => by simp; exact .nil
  | _, _, _ + 1, .nil => .nil
  | _, _, n + 1, .cons h r => .cons h (Rps.take n r)
theorem Rps.drop : ∀ {ds : List DV} {vs : List V} (n : Nat), Rps K I ds vs → Rps K I (ds.drop n) (vs.drop n)
  | _, _, 0, r => r
  | _, _, _ + 1, .nil => .nil
  | _, _, n + 1, .cons _ r => Rps.drop n r
theorem Rps.set {d : DV} {v : V} (h : Rp K I d v) : ∀ {ds : List DV} {vs : List V} (i : Nat), Rps K I ds vs → Rps K I (ds.set i d) (vs.set i v)
  | _, _, _, .nil => .nil
  | _, _, 0, .cons _ r => .cons h r
  | _, _, i + 1, .cons q r => .cons q (Rps.set h i r)
theorem Rps.reverse : ∀ {ds : List DV} {vs : List V}, Rps K I ds vs → Rps K I ds.reverse vs.reverse
  | _, _, .nil => .nil
  | _, _, .cons h r => by
    rw [List.reverse_cons, List.reverse_cons]
    exact Rps.append (Rps.reverse r) (.cons h .nil)
theorem Rps.dropLast {ds : List DV} {vs : List V} (r : Rps K I ds vs) : Rps K I ds.dropLast vs.dropLast := by
  rw [List.dropLast_eq_take, List.dropLast_eq_take, r.length]; exact r.take _
theorem Rps.ints : ∀ {ns : List Int} {vs : List V}, Rps K I (ns.map DV.int) vs → vs = ns.map V.int
  | [], _, .nil => rfl
  | n :: ns, _, .cons h r => by
    cases h
    rw [Rps.ints r]; rfl
theorem Rps.of_ints : ∀ (ns : List Int), Rps K I (ns.map DV.int) (ns.map V.int)
  | [] => .nil
  | n :: ns => .cons (.int n) (Rps.of_ints ns)
theorem Rps.bls : ∀ {ns : List Bool} {vs : List V}, Rps K I (ns.map DV.bl) vs → vs = ns.map V.bl
  | [], _, .nil => rfl
  | n :: ns, _, .cons h r => by
    cases h
    rw [Rps.bls r]; rfl
theorem Rps.strs : ∀ {ns : List Str} {vs : List V}, Rps K I (ns.map DV.str) vs → vs = ns.map V.str
  | [], _, .nil => rfl
  | n :: ns, _, .cons h r => by
    cases h
    rw [Rps.strs r]; rfl
end

/-- the program, the world, the written part -/
structure Kx where
  P : Program
  w : World
  K : PySem.W.Frag
abbrev _root_.L2.Cx.kx (X : Cx) : Kx := ⟨X.prog, X.w, X.K⟩

mutual
/-- the key that some data are -/
def nk : DV → Option NestedKey
  | .non => some .none
  | .bl _ => none
  | .int i => some (.num i)
  | .str x => some (.text x)
  | .tup ds => (nks ds).map NestedKey.tup
  | .ty _ => none
  | .ref _ => none
  | .lst _ => none
  | .ins _ _ _ => none
  | .wl _ => none
def nks : List DV → Option (List NestedKey)
  | [] => some []
  | d :: ds => match nk d, nks ds with
    | some k, some ks => some (k :: ks)
    | _, _ => none
end
/-- the object at a is a dict with just these entries -/
def RawD (P : Program) (w : World) (a : Addr) (xs : List (NestedKey × Addr × Value)) (h : Heap) : Prop :=
  ∃ o es ep, h.get? a = some o ∧ o.ExactDict ∧ o.data = .dict es ep ∧ es.toList = xs.map (entryOfKey (nestedKind P w))
/-- one entry told: its key's tuple stays for ever -/
structure EntOk (K : PySem.W.Frag) (I : Hp) (p : NestedKey × DV) (x : NestedKey × Addr × Value) : Prop where
  key : p.1 = x.1
  tup : ∃ ds, Rp K I (.tup ds) (.ref x.2.1) ∧ nk (.tup ds) = some x.1
  deep : x.1.depth ≤ 8
  val : ∃ v, RelV v x.2.2 ∧ Rp K I p.2 v
inductive EntsOk (K : PySem.W.Frag) (I : Hp) : List (NestedKey × DV) → List (NestedKey × Addr × Value) → Prop
  | nil : EntsOk K I [] []
  | cons {p x ps xs} (h : EntOk K I p x) (r : EntsOk K I ps xs) : EntsOk K I (p :: ps) (x :: xs)

inductive RpO (k : Kx) (I : Hp) (a : Addr) : MO → HO → Prop
  | lst {ds : List DV} {vs : List V} (r : Rps k.K I ds vs) : RpO k I a (.lst ds) (.lst vs)
  | ins {C dx : Addr} {ks : List Str} {ds : List DV} {fs : List (Str × V)} (e : fs.map (·.1) = ks) (c : FOk k.K C ks) (r : Rps k.K I ds (fs.map (·.2))) : RpO k I a (.ins C dx ks ds) (.ins C dx fs)
  | dK {kvs : List (Key × DV)} {xs : List (Key × V)} (e : kvs.map (·.1) = xs.map (·.1)) (r : Rps k.K I (kvs.map (·.2)) (xs.map (·.2))) : RpO k I a (.dK kvs) (.dK xs)
  | dT {kvs : List (NestedKey × DV)} {xs : List (NestedKey × Addr × Value)} (nd : (xs.map (·.1)).Nodup) (na : (a == sysModules) = false) (few : xs.length ≤ sizeLine) (r : EntsOk k.K I kvs xs) : RpO k I a (.dT kvs) (.ext (RawD k.P k.w a xs))
theorem EntOk.mono {K : PySem.W.Frag} {I I' : Hp} {p x} (e : Ex I I') (h : EntOk K I p x) : EntOk K I' p x :=
  ⟨h.key, let ⟨ds, r, q⟩ := h.tup; ⟨ds, r.mono e, q⟩, h.deep, let ⟨v, r, q⟩ := h.val; ⟨v, r, q.mono e⟩⟩
theorem EntsOk.mono {K : PySem.W.Frag} {I I' : Hp} (e : Ex I I') : ∀ {ps xs}, EntsOk K I ps xs → EntsOk K I' ps xs
  | _, _, .nil => .nil
  | _, _, .cons h r => .cons (h.mono e) (EntsOk.mono e r)
theorem RpO.mono {k : Kx} {I I' : Hp} {a : Addr} {m : MO} {o : HO} (e : Ex I I') (h : RpO k I a m o) : RpO k I' a m o := by
  cases h with
  | lst r => exact .lst (r.mono e)
  | ins q c r => exact .ins q c (r.mono e)
  | dK q r => exact .dK q (r.mono e)
  | dT nd na few r => exact .dT nd na few (r.mono e)

/-- the heap H: what stays for ever (I), what is told by the ledger L, what is hidden and stays (F) -/
structure Ab (k : Kx) (I : Hp) (L : Led) (F H : Hp) : Prop where
  imm : Ex I H
  frm : Ex F H
  led : ∀ a m, L a = some m → I a = none ∧ F a = none ∧ ∃ o, H a = some o ∧ RpO k I a m o
  sep : ∀ a o, F a = some o → I a = none
section
variable {k : Kx} {I F H : Hp} {L : Led} {p : Addr} {o : HO} {m : MO}
theorem Ab.freeI (A : Ab k I L F H) (h : H p = none) : I p = none := A.imm.none h
theorem Ab.freeF (A : Ab k I L F H) (h : H p = none) : F p = none := A.frm.none h
theorem Ab.freeL (A : Ab k I L F H) (h : H p = none) : L p = none := by
  cases q : L p with
  | none => rfl
  | some m =>
    obtain ⟨_, _, o, e, _⟩ := A.led p m q
    rw [h] at e; cases e
/-- a new object for ever -/
theorem Ab.newI (A : Ab k I L F H) (h : H p = none) : Ab k (upd I p o) L F (upd H p o) where
  imm := fun a u e => by
    by_cases q : a = p
    · subst q; rw [upd_same] at e ⊢; exact e
    · rw [upd_ne q] at e ⊢; exact A.imm a u e
  frm := fun a u e => by rw [upd_ne (ne_of_none (A.frm a u e) h)]; exact A.frm a u e
  led := fun a n e => by
    obtain ⟨h1, h2, u, h3, h4⟩ := A.led a n e
    have q : a ≠ p := ne_of_none h3 h
    exact ⟨by rw [upd_ne q]; exact h1, h2, u, by rw [upd_ne q]; exact h3, h4.mono (Ex.new (A.freeI h))⟩
  sep := fun a u e => by rw [upd_ne (ne_of_none (A.frm a u e) h)]; exact A.sep a u e
/-- a new object on the ledger -/
theorem Ab.newL (A : Ab k I L F H) (h : H p = none) (r : RpO k I p m o) : Ab k I (updL L p m) F (upd H p o) where
  imm := fun a u e => by rw [upd_ne (ne_of_none (A.imm a u e) h)]; exact A.imm a u e
  frm := fun a u e => by rw [upd_ne (ne_of_none (A.frm a u e) h)]; exact A.frm a u e
  led := fun a n e => by
    by_cases q : a = p
    · subst q
      rw [updL_same] at e; cases e
      exact ⟨A.freeI h, A.freeF h, o, upd_same, r⟩
    · rw [updL_ne q] at e
      obtain ⟨h1, h2, u, h3, h4⟩ := A.led a n e
      exact ⟨h1, h2, u, by rw [upd_ne q]; exact h3, h4⟩
  sep := A.sep
/-- a new object, hidden -/
theorem Ab.newF (A : Ab k I L F H) (h : H p = none) : Ab k I L (upd F p o) (upd H p o) where
  imm := fun a u e => by rw [upd_ne (ne_of_none (A.imm a u e) h)]; exact A.imm a u e
  frm := fun a u e => by
    by_cases q : a = p
    · subst q; rw [upd_same] at e ⊢; exact e
    · rw [upd_ne q] at e ⊢; exact A.frm a u e
  led := fun a n e => by
    obtain ⟨h1, h2, u, h3, h4⟩ := A.led a n e
    have q : a ≠ p := ne_of_none h3 h
    exact ⟨h1, by rw [upd_ne q]; exact h2, u, by rw [upd_ne q]; exact h3, h4⟩
  sep := fun a u e => by
    by_cases q : a = p
    · subst q; exact A.freeI h
    · rw [upd_ne q] at e; exact A.sep a u e
/-- a new object that nobody tells -/
theorem Ab.lost (A : Ab k I L F H) (h : H p = none) : Ab k I L F (upd H p o) where
  imm := fun a u e => by rw [upd_ne (ne_of_none (A.imm a u e) h)]; exact A.imm a u e
  frm := fun a u e => by rw [upd_ne (ne_of_none (A.frm a u e) h)]; exact A.frm a u e
  led := fun a n e => by
    obtain ⟨h1, h2, u, h3, h4⟩ := A.led a n e
    exact ⟨h1, h2, u, by rw [upd_ne (ne_of_none h3 h)]; exact h3, h4⟩
  sep := A.sep
/-- an object of the ledger changed -/
theorem Ab.write {m' : MO} {o' : HO} (A : Ab k I L F H) (h : L p = some m) (r : RpO k I p m' o') : Ab k I (updL L p m') F (upd H p o') := by
  obtain ⟨h1, h2, o, h3, _⟩ := A.led p m h
  refine ⟨fun a u e => ?_, fun a u e => ?_, fun a n e => ?_, A.sep⟩
  · rw [upd_ne (ne_of_none e h1)]; exact A.imm a u e
  · rw [upd_ne (ne_of_none e h2)]; exact A.frm a u e
  · by_cases q : a = p
    · subst q
      rw [updL_same] at e; cases e
      exact ⟨h1, h2, o', upd_same, r⟩
    · rw [updL_ne q] at e
      obtain ⟨g1, g2, u, g3, g4⟩ := A.led a n e
      exact ⟨g1, g2, u, by rw [upd_ne q]; exact g3, g4⟩
/-- less is told -/
theorem Ab.sub {L2 : Led} (A : Ab k I L F H) (s : Sub L2 L) : Ab k I L2 F H := ⟨A.imm, A.frm, fun a m e => A.led a m (s a m e), A.sep⟩
/-- a list of the ledger stays for ever from now on -/
theorem Ab.freeze {ds : List DV} (A : Ab k I L F H) (h : L p = some (.lst ds)) : ∃ I', Ex I I' ∧ Ab k I' (delL L p) F H ∧ Rp k.K I' (.lst ds) (.ref p) := by
  obtain ⟨h1, h2, o, h3, h4⟩ := A.led p _ h
  cases h4 with
  | @lst _ vs r =>
    have e0 : Ex I (upd I p (.lst vs)) := Ex.new h1
    refine ⟨upd I p (.lst vs), e0, ⟨fun a u e => ?_, A.frm, fun a n e => ?_, fun a u e => ?_⟩, .lst upd_same (r.mono e0)⟩
    · by_cases q : a = p
      · subst q; rw [upd_same] at e; cases e; exact h3
      · rw [upd_ne q] at e; exact A.imm a u e
    · unfold delL at e
      by_cases q : a = p
      · rw [if_pos q] at e; cases e
      · rw [if_neg q] at e
        obtain ⟨g1, g2, u, g3, g4⟩ := A.led a n e
        exact ⟨by rw [upd_ne q]; exact g1, g2, u, g3, g4.mono e0⟩
    · have q : a ≠ p := by intro z; subst z; rw [h2] at e; cases e
      rw [upd_ne q]; exact A.sep a u e
theorem Ab.hold {o : HO} (A : Ab k I L F H) (h1 : I p = none) (h2 : F p = none) (h3 : H p = some o) : Ab k (upd I p o) (delL L p) F H := by
  have e0 : Ex I (upd I p o) := Ex.new h1
  refine ⟨fun a u e => ?_, A.frm, fun a n e => ?_, fun a u e => ?_⟩
  · by_cases q : a = p
    · subst q; rw [upd_same] at e; cases e; exact h3
    · rw [upd_ne q] at e; exact A.imm a u e
  · unfold delL at e
    by_cases q : a = p
    · rw [if_pos q] at e; cases e
    · rw [if_neg q] at e
      obtain ⟨g1, g2, u, g3, g4⟩ := A.led a n e
      exact ⟨by rw [upd_ne q]; exact g1, g2, u, g3, g4.mono e0⟩
  · have q : a ≠ p := by intro z; subst z; rw [h2] at e; cases e
    rw [upd_ne q]; exact A.sep a u e
/-- an instance of the ledger stays for ever from now on -/
theorem Ab.freezeI {C dx : Addr} {ks : List Str} {ds : List DV} (A : Ab k I L F H) (h : L p = some (.ins C dx ks ds)) : ∃ I', Ex I I' ∧ Ab k I' (delL L p) F H ∧ Rp k.K I' (.ins C ks ds) (.ref p) := by
  obtain ⟨h1, h2, o, h3, h4⟩ := A.led p _ h
  cases h4 with
  | ins e c r => exact ⟨_, Ex.new h1, A.hold h1 h2 h3, .ins upd_same e c (r.mono (Ex.new h1))⟩
/-- a hidden list comes to light -/
theorem Ab.unhide {vs : List V} {ds : List DV} (A : Ab k I L (upd F p (.lst vs)) H) (hF : F p = none) (r : Rps k.K I ds vs) : Ab k I (updL L p (.lst ds)) F H := by
  have hp : (upd F p (.lst vs)) p = some (.lst vs) := upd_same
  refine ⟨A.imm, fun a u e => A.frm a u (Ex.new hF a u e), fun a n e => ?_, fun a u e => A.sep a u (Ex.new hF a u e)⟩
  by_cases q : a = p
  · subst q
    rw [updL_same] at e; cases e
    exact ⟨A.sep _ _ hp, hF, .lst vs, A.frm _ _ hp, .lst r⟩
  · rw [updL_ne q] at e
    obtain ⟨g1, g2, u, g3, g4⟩ := A.led a n e
    rw [upd_ne q] at g2
    exact ⟨g1, g2, u, g3, g4⟩
end
end AL
namespace AL
open PySem PySem.Spec PyProof.Rows L2

abbrev Sl := List (Option DV)
abbrev PD := DV → Led → Prop
/-- what is wanted of an exception of a class of the program's own -/
abbrev PX := Addr → Sl → Led → Prop
abbrev AE := Sl → Led → PD → PX → Prop
abbrev AT := Sl → Led → (Bool → Led → Prop) → PX → Prop
abbrev AA := Sl → Led → (List DV → Led → Prop) → PX → Prop
structure AEnds where
  nx : Sl → Led → Prop
  rt : PD
  bk : Sl → Led → Prop
  ct : Sl → Led → Prop
  px : PX
abbrev AS := AEnds → Sl → Led → Prop

/-- the slots -/
def RpS (K : PySem.W.Frag) (I : Hp) (ρ : Sl) (σ : L2.St) : Prop := ρ.length = σ.length ∧ ∀ (i : Nat) (d : DV), ρ[i]? = some (some d) → ∃ v, σ[i]? = some (some v) ∧ Rp K I d v
theorem RpS.mono {K : PySem.W.Frag} {I I' : Hp} {ρ : Sl} {σ : L2.St} (e : Ex I I') (h : RpS K I ρ σ) : RpS K I' ρ σ :=
  ⟨h.1, fun i d q => let ⟨v, a, b⟩ := h.2 i d q; ⟨v, a, b.mono e⟩⟩
theorem RpS.set {K : PySem.W.Frag} {I : Hp} {ρ : Sl} {σ : L2.St} {d : DV} {v : V} (h : RpS K I ρ σ) (r : Rp K I d v) (i : Nat) : RpS K I (ρ.set i (some d)) (σ.set i (some v)) := by
  refine ⟨by rw [List.length_set, List.length_set]; exact h.1, fun j e q => ?_⟩
  by_cases hj : j = i
  · subst hj
    by_cases hl : j < ρ.length
    · rw [List.getElem?_set_self hl] at q
      cases q
      exact ⟨v, List.getElem?_set_self (by rw [← h.1]; exact hl), r⟩
    · rw [List.getElem?_eq_none (by rw [List.length_set]; omega)] at q; cases q
  · rw [List.getElem?_set_ne (Ne.symm hj)] at q
    rw [List.getElem?_set_ne (Ne.symm hj)]
    exact h.2 j e q
theorem RpS.setNone {K : PySem.W.Frag} {I : Hp} {ρ : Sl} {σ : L2.St} {w : Option V} (h : RpS K I ρ σ) (i : Nat) : RpS K I (ρ.set i none) (σ.set i w) := by
  refine ⟨by rw [List.length_set, List.length_set]; exact h.1, fun j e q => ?_⟩
  by_cases hj : j = i
  · subst hj
    by_cases hl : j < ρ.length
    · rw [List.getElem?_set_self hl] at q; cases q
    · rw [List.getElem?_eq_none (by rw [List.length_set]; omega)] at q; cases q
  · rw [List.getElem?_set_ne (Ne.symm hj)] at q
    rw [List.getElem?_set_ne (Ne.symm hj)]
    exact h.2 j e q
/-- the slot i made to hold other data for the same value -/
theorem RpS.re {K : PySem.W.Frag} {I : Hp} {ρ : Sl} {σ : L2.St} {d d' : DV} {i : Nat} (h : RpS K I ρ σ) (q : ρ[i]? = some (some d)) (r : ∀ v, Rp K I d v → Rp K I d' v) : RpS K I (ρ.set i (some d')) σ := by
  obtain ⟨v, e, x⟩ := h.2 i d q
  have := h.set (r v x) i
  have es : σ.set i (some v) = σ := by
    apply List.ext_getElem?
    intro j
    by_cases hj : j = i
    · subst hj
      rw [List.getElem?_set_self ((List.getElem?_eq_some_iff.mp e).1), e]
    · rw [List.getElem?_set_ne (Ne.symm hj)]
  rw [es] at this
  exact this

def Q2 (k : Kx) (I F : Hp) (P : PD) (Q : VK) : Prop := ∀ d L' v I' H', P d L' → Ab k I' L' F H' → Ex I I' → Rp k.K I' d v → Q v H'
def Q2b (k : Kx) (I F : Hp) (P : Bool → Led → Prop) (Q : Bool → Hp → Prop) : Prop := ∀ b L' I' H', P b L' → Ab k I' L' F H' → Ex I I' → Q b H'
def Q2a (k : Kx) (I F : Hp) (P : List DV → Led → Prop) (Q : List V → Hp → Prop) : Prop := ∀ ds L' vs I' H', P ds L' → Ab k I' L' F H' → Ex I I' → Rps k.K I' ds vs → Q vs H'
def X2 (k : Kx) (I F : Hp) (px : PX) (W : WX) : Prop := ∀ c ρ' σ' L' I' H', px c ρ' L' → Ab k I' L' F H' → Ex I I' → RpS k.K I' ρ' σ' → W (.ref c) none σ' H'
def S2 (k : Kx) (I F : Hp) (P : Sl → Led → Prop) (Q : L2.St → Hp → Prop) : Prop := ∀ ρ' L' σ' I' H', P ρ' L' → Ab k I' L' F H' → Ex I I' → RpS k.K I' ρ' σ' → Q σ' H'
theorem Q2.mono {k : Kx} {I I' F : Hp} {P : PD} {Q : VK} (h : Q2 k I F P Q) (e : Ex I I') : Q2 k I' F P Q := fun d L v J H p a x r => h d L v J H p a (e.trans x) r
theorem Q2b.mono {k : Kx} {I I' F : Hp} {P Q} (h : Q2b k I F P Q) (e : Ex I I') : Q2b k I' F P Q := fun d L J H p a x => h d L J H p a (e.trans x)
theorem Q2a.mono {k : Kx} {I I' F : Hp} {P Q} (h : Q2a k I F P Q) (e : Ex I I') : Q2a k I' F P Q := fun d L v J H p a x r => h d L v J H p a (e.trans x) r
theorem X2.mono {k : Kx} {I I' F : Hp} {px W} (h : X2 k I F px W) (e : Ex I I') : X2 k I' F px W := fun c ρ σ L J H p a x r => h c ρ σ L J H p a (e.trans x) r
theorem S2.mono {k : Kx} {I I' F : Hp} {P Q} (h : S2 k I F P Q) (e : Ex I I') : S2 k I' F P Q := fun ρ L σ J H p a x r => h ρ L σ J H p a (e.trans x) r
structure D2 (k : Kx) (I F : Hp) (AD : AEnds) (D : Ends) : Prop where
  nx : S2 k I F AD.nx D.nx
  rt : Q2 k I F AD.rt D.rt
  bk : S2 k I F AD.bk D.bk
  ct : S2 k I F AD.ct D.ct
theorem D2.mono {k : Kx} {I I' F : Hp} {AD D} (h : D2 k I F AD D) (e : Ex I I') : D2 k I' F AD D := ⟨h.nx.mono e, h.rt.mono e, h.bk.mono e, h.ct.mono e⟩

structure Stt (k : Kx) (W : WX) (σ : L2.St) (H I : Hp) (L : Led) (F : Hp) (ρ : Sl) (px : PX) : Prop where
  ab : Ab k I L F H
  rs : RpS k.K I ρ σ
  xx : X2 k I F px W
theorem Stt.go {k : Kx} {W : WX} {σ : L2.St} {H I : Hp} {L : Led} {F : Hp} {ρ : Sl} {px : PX} {H' I' : Hp} {L' : Led} (S : Stt k W σ H I L F ρ px) (A : Ab k I' L' F H') (e : Ex I I') : Stt k W σ H' I' L' F ρ px :=
  ⟨A, S.rs.mono e, S.xx.mono e⟩
theorem Stt.go2 {k : Kx} {W : WX} {σ : L2.St} {H I : Hp} {L : Led} {F : Hp} {ρ : Sl} {px : PX} {H' I' : Hp} {L' : Led} {σ' : L2.St} {ρ' : Sl} (S : Stt k W σ H I L F ρ px) (A : Ab k I' L' F H') (e : Ex I I') (r : RpS k.K I' ρ' σ') : Stt k W σ' H' I' L' F ρ' px :=
  ⟨A, r, S.xx.mono e⟩

def cE (k : Kx) (W : WX) (t : AE) : TE := fun σ H Q => ∃ I L F ρ P px, Stt k W σ H I L F ρ px ∧ t ρ L P px ∧ Q2 k I F P Q
def cT (k : Kx) (W : WX) (t : AT) : TT := fun σ H Q => ∃ I L F ρ P px, Stt k W σ H I L F ρ px ∧ t ρ L P px ∧ Q2b k I F P Q
def cA (k : Kx) (W : WX) (t : AA) : TA := fun σ H Q => ∃ I L F ρ P px, Stt k W σ H I L F ρ px ∧ t ρ L P px ∧ Q2a k I F P Q
def cS (k : Kx) (W : WX) (t : AS) : TS := fun D σ H => ∃ I L F ρ AD, Stt k W σ H I L F ρ AD.px ∧ t AD ρ L ∧ D2 k I F AD D

section
variable {X : Cx} {e : Expr} {es : List Expr} {st : Stmt} {sts : List Stmt}
theorem _root_.L2.PE.imp {t t' : TE} (h : PE X e t) (i : ∀ σ H Q, t' σ H Q → t σ H Q) : PE X e t' := ⟨fun pins s σ H Q I q => h.run pins s σ H Q I (i _ _ _ q)⟩
theorem _root_.L2.PT.imp {t t' : TT} (h : PT X e t) (i : ∀ σ H Q, t' σ H Q → t σ H Q) : PT X e t' := ⟨fun pins s σ H Q I q => h.run pins s σ H Q I (i _ _ _ q)⟩
theorem _root_.L2.PW.imp {t t' : TT} (h : PW X e t) (i : ∀ σ H Q, t' σ H Q → t σ H Q) : PW X e t' := ⟨fun w pins s σ H Q I q => h.run w pins s σ H Q I (i _ _ _ q)⟩
theorem _root_.L2.PA.imp {t t' : TA} (h : PA X es t) (i : ∀ σ H Q, t' σ H Q → t σ H Q) : PA X es t' := ⟨fun p pins s σ H Q I q => h.run p pins s σ H Q I (i _ _ _ q)⟩
theorem _root_.L2.PS.imp {t t' : TS} (h : PS X st t) (i : ∀ D σ H, t' D σ H → t D σ H) : PS X st t' := ⟨fun pins s σ H D I q => h.run pins s σ H D I (i _ _ _ q)⟩
theorem _root_.L2.PSs.imp {t t' : TS} (h : PSs X sts t) (i : ∀ D σ H, t' D σ H → t D σ H) : PSs X sts t' := ⟨fun pins s σ H D I q => h.run pins s σ H D I (i _ _ _ q)⟩
theorem _root_.L2.PT.or {t t' : TT} (h : PT X e t) (h' : PT X e t') : PT X e (fun σ H Q => t σ H Q ∨ t' σ H Q) := ⟨fun pins s σ H Q I q => q.elim (h.run pins s σ H Q I) (h'.run pins s σ H Q I)⟩
theorem _root_.L2.PE.or {t t' : TE} (h : PE X e t) (h' : PE X e t') : PE X e (fun σ H Q => t σ H Q ∨ t' σ H Q) := ⟨fun pins s σ H Q I q => q.elim (h.run pins s σ H Q I) (h'.run pins s σ H Q I)⟩
theorem _root_.L2.PI.imp {tg : Expr} {t t' : TI} (h : PI X tg e t) (i : ∀ σ H Q, t' σ H Q → t σ H Q) : PI X tg e t' := ⟨fun pins s σ H Q I q => h.run pins s σ H Q I (i _ _ _ q)⟩
theorem _root_.L2.PI.or {tg : Expr} {t t' : TI} (h : PI X tg e t) (h' : PI X tg e t') : PI X tg e (fun σ H Q => t σ H Q ∨ t' σ H Q) := ⟨fun pins s σ H Q I q => q.elim (h.run pins s σ H Q I) (h'.run pins s σ H Q I)⟩
end

/-! ### names, constants -/
def aVar (i : Nat) : AE := fun ρ L P _ => match ρ[i]? with
  | some (some d) => P d L
  | _ => False
def aC (d : DV) : AE := fun _ L P _ => P d L
section
variable {X : Cx} {W : WX} {x : Str} {pos : Pos}
theorem cvar {k : Kx} {i : Nat} (σ : L2.St) (H : Hp) (Q : VK) (h : cE k W (aVar i) σ H Q) : tVar i σ H Q := by
  obtain ⟨I, L, F, ρ, P, px, S, h, q⟩ := h
  unfold aVar at h
  split at h
  · rename_i d e
    obtain ⟨v, e1, r⟩ := S.rs.2 i d e
    exact ⟨v, e1, q d L v I H h S.ab (Ex.refl I) r⟩
  · exact h.elim
/-- the name in slot i -/
theorem av (i : Nat) (hN : X.N[i]? = some x := by rfl) (hv : Vis X.env.scope x := by first | exact Or.inl rfl | exact Or.inr (Or.inl rfl) | exact Or.inr (Or.inr rfl)) (hd : (x == ("__debug__" : Str)) = false := by decide)
    (hcd : (x == ("__classdict__" : Str)) = false := by decide) : PE X (.Name x pos) (cE X.kx W (aVar i)) := (pv i hN hv hd hcd).imp cvar
theorem cconst {k : Kx} {d : DV} {v : V} (r : ∀ I, Rp k.K I d v) (σ : L2.St) (H : Hp) (Q : VK) (h : cE k W (aC d) σ H Q) : tC v σ H Q := by
  obtain ⟨I, L, F, ρ, P, px, S, h, q⟩ := h
  exact q d L v I H h S.ab (Ex.refl I) (r I)
theorem a_int {i j} : PE X (.Constant (.int i) j pos) (cE X.kx W (aC (.int i))) := pe_int.imp (cconst fun _ => .int i)
theorem a_bl {b j} : PE X (.Constant (.bool b) j pos) (cE X.kx W (aC (.bl b))) := pe_bl.imp (cconst fun _ => .bl b)
theorem a_non {j} : PE X (.Constant .none j pos) (cE X.kx W (aC .non)) := pe_non.imp (cconst fun _ => .non)
theorem a_str {y j} : PE X (.Constant (.str y) j pos) (cE X.kx W (aC (.str y))) := pe_str.imp (cconst fun _ => .str y)
/-- a module's constant, class, def; a built-in as a value -/
theorem a_glob {d : DV} {v : V} {u : Value} (hg : Gl X x) (hm : X.mg x = some u) (r : RelV v u) (rd : ∀ I, Rp X.K I d v) (hd : (x == ("__debug__" : Str)) = false := by decide) : PE X (.Name x pos) (cE X.kx W (aC d)) := (pe_glob hg hm r hd).imp (cconst (k := X.kx) rd)
theorem a_bltn {n : String} (hg : Gl X x) (hm : X.mg x = none) (hv : bootBuiltins x = some (.type n)) (hn : x ≠ "__name__" := by decide) (hd : (x == ("__debug__" : Str)) = false := by decide) : PE X (.Name x pos) (cE X.kx W (aC (.ty n))) :=
  (pe_bltn (v := .ty n) hg hm hv rfl hn hd).imp (cconst fun _ => .ty n)
end

/-! ### two-place operations by values -/
abbrev AR2 := DV → DV → Led → PD → Prop
def AOp (k : Kx) (r : R2) (ro : AR2) : Prop := ∀ {I F H : Hp} {L : Led} {x y : DV} {xv yv : V} {P : PD} {Q : VK}, Ab k I L F H → Rp k.K I x xv → Rp k.K I y yv → ro x y L P → Q2 k I F P Q → r xv yv H Q
def aBin (ro : AR2) (ta tb : AE) : AE := fun ρ L P px => ta ρ L (fun x L1 => tb ρ L1 (fun y L2 => ro x y L2 P) px) px
section
variable {k : Kx} {W : WX} {r : R2} {ro : AR2} {ta tb : AE}
theorem cbin (hr : AOp k r ro) (σ : L2.St) (H : Hp) (Q : VK) (h : cE k W (aBin ro ta tb) σ H Q) : tOp r (cE k W ta) (cE k W tb) σ H Q := by
  obtain ⟨I, L, F, ρ, P, px, S, h, q⟩ := h
  exact ⟨I, L, F, ρ, _, px, S, h, fun x L1 xv I1 H1 h1 A1 e1 r1 => ⟨I1, L1, F, ρ, _, px, S.go A1 e1, h1, fun y L2 yv I2 H2 h2 A2 e2 r2 => hr A2 (r1.mono e2) r2 h2 (q.mono (e1.trans e2))⟩⟩
theorem AOp.or {r r' : R2} {ro ro' : AR2} (h : AOp k r ro) (h' : AOp k r' ro') : AOp k (fun x y H Q => r x y H Q ∨ r' x y H Q) (fun x y L P => ro x y L P ∨ ro' x y L P) :=
  fun A rx ry o q => o.elim (fun z => .inl (h A rx ry z q)) fun z => .inr (h' A rx ry z q)
end
section
variable {X : Cx} {W : WX} {a b c : Expr} {ta tb tc : AE} {pos : Pos} {r r' : R2} {ro ro' : AR2}
theorem a_bin {op : Operator} (ho : OpR X (binaryOp op) r) (hr : AOp X.kx r ro) (ha : PE X a (cE X.kx W ta)) (hb : PE X b (cE X.kx W tb)) : PE X (.BinOp a op b pos) (cE X.kx W (aBin ro ta tb)) := (pe_op ho ha hb).imp (cbin hr)
theorem a_ix (ho : IxR X r) (hr : AOp X.kx r ro) (ha : PE X a (cE X.kx W ta)) (hb : PE X b (cE X.kx W tb)) (hs : PlainIx b := by intro _ _; rfl) : PE X (.Subscript a b pos) (cE X.kx W (aBin ro ta tb)) := (pe_ix ho ha hb hs).imp (cbin hr)
theorem a_cmp {op : CmpOp} (ho : OpR X (compareOp op) r) (hr : AOp X.kx r ro) (ha : PE X a (cE X.kx W ta)) (hb : PE X b (cE X.kx W tb)) (hm : behindInMarks op b = false := by first | exact nomark _ | rfl) : PE X (.Compare a [op] [b] pos) (cE X.kx W (aBin ro ta tb)) := (pe_cmpR ho ha hb hm).imp (cbin hr)
/-- a test whose value is a bool -/
def aTest (te : AE) : AT := fun ρ L P px => te ρ L (fun d L' => match d with
  | .bl b => P b L'
  | _ => False) px
theorem ctest {k : Kx} {t : TE} {te : AE} (h : ∀ σ H Q, cE k W te σ H Q → t σ H Q) (σ : L2.St) (H : Hp) (Q : Bool → Hp → Prop) (q : cT k W (aTest te) σ H Q) : tTest t σ H Q := by
  obtain ⟨I, L, F, ρ, P, px, S, q, z⟩ := q
  refine h _ _ _ ⟨I, L, F, ρ, _, px, S, q, fun d L1 v I1 H1 h1 A1 e1 r1 => ?_⟩
  cases d <;> first | exact h1.elim | skip
  cases r1
  exact ⟨_, rfl, z _ L1 I1 H1 h1 A1 e1⟩
theorem t_cmp {op : CmpOp} (ho : OpR X (compareOp op) r) (hr : AOp X.kx r ro) (ha : PE X a (cE X.kx W ta)) (hb : PE X b (cE X.kx W tb)) (hm : behindInMarks op b = false := by first | exact nomark _ | rfl) : PT X (.Compare a [op] [b] pos) (cT X.kx W (aTest (aBin ro ta tb))) := (pt_cmpR ho ha hb hm).imp (ctest (cbin hr))
theorem t_val {e : Expr} {te : AE} (h : PE X e (cE X.kx W te)) (he : ∀ whole, isTrue e X.env whole = (do let v ← whole; standAt e.pos; holding [v] (truthy v)) := by intro _; rfl) : PT X e (cT X.kx W (aTest te)) :=
  (pt_val h he).imp (ctest fun _ _ _ z => z)
/-- a op b op' c -/
def aChain (ro ro' : AR2) (ta tb tc : AE) : AE := fun ρ L P px => ta ρ L (fun x L1 => tb ρ L1 (fun y L2 => ro x y L2 (fun z L3 => match z with
  | .bl b => (b = true → tc ρ L3 (fun w L4 => ro' y w L4 P) px) ∧ (b = false → P (.bl false) L3)
  | _ => False)) px) px
theorem cchain {k : Kx} (hr : AOp k r ro) (hr' : AOp k r' ro') (σ : L2.St) (H : Hp) (Q : VK) (h : cE k W (aChain ro ro' ta tb tc) σ H Q) : tChain r r' (cE k W ta) (cE k W tb) (cE k W tc) σ H Q := by
  obtain ⟨I, L, F, ρ, P, px, S, h, q⟩ := h
  refine ⟨I, L, F, ρ, _, px, S, h, fun x L1 xv I1 H1 h1 A1 e1 r1 => ⟨I1, L1, F, ρ, _, px, S.go A1 e1, h1, fun y L2 yv I2 H2 h2 A2 e2 r2 => hr A2 (r1.mono e2) r2 h2 fun z L3 zv I3 H3 h3 A3 e3 r3 => ?_⟩⟩
  cases z <;> first | exact h3.elim | skip
  rename_i b
  cases r3
  have e03 := (e1.trans e2).trans e3
  cases b with
  | true => exact ⟨true, rfl, ⟨I3, L3, F, ρ, _, px, S.go A3 e03, h3.1 rfl, fun w L4 wv I4 H4 h4 A4 e4 r4 => hr' A4 (r2.mono (e3.trans e4)) r4 h4 (q.mono (e03.trans e4))⟩⟩
  | false => exact ⟨false, rfl, q _ _ _ _ _ (h3.2 rfl) A3 e03 (.bl false)⟩
theorem a_chain {op op' : CmpOp} (ho : OpR X (compareOp op) r) (ho' : OpR X (compareOp op') r') (hr : AOp X.kx r ro) (hr' : AOp X.kx r' ro') (ha : PE X a (cE X.kx W ta)) (hb : PE X b (cE X.kx W tb)) (hc : PE X c (cE X.kx W tc)) (hm : lastMarks [op, op'] [b, c] = false := by rfl) : PE X (.Compare a [op, op'] [b, c] pos) (cE X.kx W (aChain ro ro' ta tb tc)) :=
  (pe_chain ho ho' ha hb hc hm).imp (cchain hr hr')
theorem t_chain {op op' : CmpOp} (ho : OpR X (compareOp op) r) (ho' : OpR X (compareOp op') r') (hr : AOp X.kx r ro) (hr' : AOp X.kx r' ro') (ha : PE X a (cE X.kx W ta)) (hb : PE X b (cE X.kx W tb)) (hc : PE X c (cE X.kx W tc)) (hm : lastMarks [op, op'] [b, c] = false := by rfl) : PT X (.Compare a [op, op'] [b, c] pos) (cT X.kx W (aTest (aChain ro ro' ta tb tc))) :=
  (pt_chain ho ho' ha hb hc hm).imp (ctest (cchain hr hr'))
end

/-! ### and, or, not; conditional expressions -/
def aAnd (t u : AT) : AT := fun ρ L P px => t ρ L (fun c L1 => (c = true → u ρ L1 P px) ∧ (c = false → P false L1)) px
def aOr (t u : AT) : AT := fun ρ L P px => t ρ L (fun c L1 => (c = true → P true L1) ∧ (c = false → u ρ L1 P px)) px
def aNot (t : AT) : AT := fun ρ L P px => t ρ L (fun c L1 => P (!c) L1) px
def aIfE (t : AT) (ta tb : AE) : AE := fun ρ L P px => t ρ L (fun c L1 => (c = true → ta ρ L1 P px) ∧ (c = false → tb ρ L1 P px)) px
/-- .. of bools as values -/
def aAndV (ta tb : AE) : AE := fun ρ L P px => ta ρ L (fun d L1 => match d with
  | .bl c => (c = true → tb ρ L1 P px) ∧ (c = false → P (.bl false) L1)
  | _ => False) px
def aOrV (ta tb : AE) : AE := fun ρ L P px => ta ρ L (fun d L1 => match d with
  | .bl c => (c = true → P (.bl true) L1) ∧ (c = false → tb ρ L1 P px)
  | _ => False) px
def aNotV (t : AT) : AE := fun ρ L P px => t ρ L (fun c L1 => P (.bl (!c)) L1) px
section
variable {X : Cx} {W : WX} {a b c : Expr} {t u : AT} {ta tb : AE} {pos : Pos} {rest : List Expr}
theorem w_and1 (ha : PT X a (cT X.kx W t)) : PW X (.BoolOp .And [a] pos) (cT X.kx W t) := pw_and1 ha
theorem w_or1 (ha : PT X a (cT X.kx W t)) : PW X (.BoolOp .Or [a] pos) (cT X.kx W t) := pw_or1 ha
theorem w_and (ha : PT X a (cT X.kx W t)) (hb : PW X (.BoolOp .And (b :: rest) pos) (cT X.kx W u)) : PW X (.BoolOp .And (a :: b :: rest) pos) (cT X.kx W (aAnd t u)) :=
  (pw_and ha hb).imp fun σ H Q ⟨I, L, F, ρ, P, px, S, h, q⟩ => ⟨I, L, F, ρ, _, px, S, h, fun c L1 I1 H1 h1 A1 e1 => by
    cases c with
    | true => exact iteT ⟨I1, L1, F, ρ, _, px, S.go A1 e1, h1.1 rfl, q.mono e1⟩
    | false => exact iteF (q _ _ _ _ (h1.2 rfl) A1 e1)⟩
theorem w_or (ha : PT X a (cT X.kx W t)) (hb : PW X (.BoolOp .Or (b :: rest) pos) (cT X.kx W u)) : PW X (.BoolOp .Or (a :: b :: rest) pos) (cT X.kx W (aOr t u)) :=
  (pw_or ha hb).imp fun σ H Q ⟨I, L, F, ρ, P, px, S, h, q⟩ => ⟨I, L, F, ρ, _, px, S, h, fun c L1 I1 H1 h1 A1 e1 => by
    cases c with
    | true => exact iteT (q _ _ _ _ (h1.1 rfl) A1 e1)
    | false => exact iteF ⟨I1, L1, F, ρ, _, px, S.go A1 e1, h1.2 rfl, q.mono e1⟩⟩
theorem t_not (ha : PT X a (cT X.kx W t)) : PT X (.UnaryOp .Not a pos) (cT X.kx W (aNot t)) :=
  (pt_not ha).imp fun σ H Q ⟨I, L, F, ρ, P, px, S, h, q⟩ => ⟨I, L, F, ρ, _, px, S, h, fun c L1 I1 H1 h1 A1 e1 => q _ _ _ _ h1 A1 e1⟩
theorem a_ifE (hc : PT X c (cT X.kx W t)) (ha : PE X a (cE X.kx W ta)) (hb : PE X b (cE X.kx W tb)) : PE X (.IfExp c a b pos) (cE X.kx W (aIfE t ta tb)) :=
  (pe_ifExp hc ha hb).imp fun σ H Q ⟨I, L, F, ρ, P, px, S, h, q⟩ => ⟨I, L, F, ρ, _, px, S, h, fun c L1 I1 H1 h1 A1 e1 => by
    cases c with
    | true => exact iteT ⟨I1, L1, F, ρ, _, px, S.go A1 e1, h1.1 rfl, q.mono e1⟩
    | false => exact iteF ⟨I1, L1, F, ρ, _, px, S.go A1 e1, h1.2 rfl, q.mono e1⟩⟩
theorem a_one {op} (h : PE X a (cE X.kx W ta)) : PE X (.BoolOp op [a] pos) (cE X.kx W ta) := pe_one h
theorem a_and (ha : PE X a (cE X.kx W ta)) (hb : PE X (.BoolOp .And (b :: rest) pos) (cE X.kx W tb)) : PE X (.BoolOp .And (a :: b :: rest) pos) (cE X.kx W (aAndV ta tb)) :=
  (pe_and ha hb).imp fun σ H Q ⟨I, L, F, ρ, P, px, S, h, q⟩ => ⟨I, L, F, ρ, _, px, S, h, fun d L1 v I1 H1 h1 A1 e1 r1 => by
    cases d <;> first | exact h1.elim | skip
    rename_i c
    cases r1
    refine ⟨c, rfl, ?_⟩
    cases c with
    | true => exact iteT ⟨I1, L1, F, ρ, _, px, S.go A1 e1, h1.1 rfl, q.mono e1⟩
    | false => exact iteF (q _ _ _ _ _ (h1.2 rfl) A1 e1 (.bl false))⟩
theorem a_or (ha : PE X a (cE X.kx W ta)) (hb : PE X (.BoolOp .Or (b :: rest) pos) (cE X.kx W tb)) : PE X (.BoolOp .Or (a :: b :: rest) pos) (cE X.kx W (aOrV ta tb)) :=
  (pe_or ha hb).imp fun σ H Q ⟨I, L, F, ρ, P, px, S, h, q⟩ => ⟨I, L, F, ρ, _, px, S, h, fun d L1 v I1 H1 h1 A1 e1 r1 => by
    cases d <;> first | exact h1.elim | skip
    rename_i c
    cases r1
    refine ⟨c, rfl, ?_⟩
    cases c with
    | true => exact iteT (q _ _ _ _ _ (h1.1 rfl) A1 e1 (.bl true))
    | false => exact iteF ⟨I1, L1, F, ρ, _, px, S.go A1 e1, h1.2 rfl, q.mono e1⟩⟩
end
end AL
namespace AL
open PySem PySem.Spec PyProof.Rows L2

/-! ### lists as they are met: data, or of the ledger -/
def withL (L : Led) (x : DV) (q : List DV → Prop) : Prop := match x with
  | .lst xs => q xs
  | .ref a => ∃ ds, L a = some (.lst ds) ∧ q ds
  | _ => False
/-- list or tuple -/
def withSq (L : Led) (x : DV) (q : List DV → Prop) : Prop := match x with
  | .lst xs => q xs
  | .tup xs => q xs
  | .wl xs => q xs
  | .ref a => ∃ ds, L a = some (.lst ds) ∧ q ds
  | _ => False
/-- a new list: one that may change, or (what is the weaker word) data -/
def newL (ds : List DV) (L : Led) (P : PD) : Prop := (∀ a, L a = none → P (.ref a) (updL L a (.lst ds))) ∨ P (.lst ds) L
section
variable {k : Kx} {I F H : Hp} {L : Led} {x : DV} {xv : V} {P : PD} {Q : VK}
theorem withL_ok {q : List DV → Prop} (A : Ab k I L F H) (r : Rp k.K I x xv) (h : withL L x q) : ∃ a vs ds, xv = .ref a ∧ H a = some (.lst vs) ∧ Rps k.K I ds vs ∧ q ds := by
  cases r <;> try exact h.elim
  case ref a =>
    obtain ⟨ds, e, h⟩ := h
    obtain ⟨_, _, o, e2, r2⟩ := A.led a _ e
    cases r2 with
    | lst r => exact ⟨a, _, ds, rfl, e2, r, h⟩
  case lst a vs ds e r => exact ⟨a, vs, ds, rfl, A.imm _ _ e, r, h⟩
theorem withSq_ok {q : List DV → Prop} (A : Ab k I L F H) (r : Rp k.K I x xv) (h : withSq L x q) : ∃ a vs ds, xv = .ref a ∧ (SqL k.K H a vs ∨ SqT k.K H a vs) ∧ Rps k.K I ds vs ∧ q ds := by
  cases r <;> try exact h.elim
  case ref a =>
    obtain ⟨ds, e, h⟩ := h
    obtain ⟨_, _, o, e2, r2⟩ := A.led a _ e
    cases r2 with
    | lst r => exact ⟨a, _, ds, rfl, .inl (SqL.of e2), r, h⟩
  case lst a vs ds e r => exact ⟨a, vs, ds, rfl, .inl (SqL.of (A.imm _ _ e)), r, h⟩
  case wl a vs ds e r => exact ⟨a, vs, ds, rfl, .inl (A.imm.l e), r, h⟩
  case tup a vs ds e r => exact ⟨a, vs, ds, rfl, .inr (A.imm.t e), r, h⟩
theorem newL_ok {ds : List DV} {vs : List V} (A : Ab k I L F H) (r : Rps k.K I ds vs) (h : newL ds L P) (q : Q2 k I F P Q) : ∀ p, H p = none → Q (.ref p) (upd H p (.lst vs)) := fun p hp => by
  rcases h with h | h
  · exact q _ _ _ _ _ (h p (A.freeL hp)) (A.newL hp (.lst r)) (Ex.refl I) (.ref p)
  · exact q _ _ _ _ _ h (A.newI hp) (Ex.new (A.freeI hp)) (.lst upd_same (r.mono (Ex.new (A.freeI hp))))
theorem newT_ok {ds : List DV} {vs : List V} (A : Ab k I L F H) (r : Rps k.K I ds vs) (h : P (.tup ds) L) (q : Q2 k I F P Q) : ∀ p, H p = none → Q (.ref p) (upd H p (.tup vs)) := fun p hp =>
  q _ _ _ _ _ h (A.newI hp) (Ex.new (A.freeI hp)) (.tup (SqT.of upd_same) (r.mono (Ex.new (A.freeI hp))))
theorem here (A : Ab k I L F H) (r : Rp k.K I x xv) (h : P x L) (q : Q2 k I F P Q) : Q xv H := q _ _ _ _ _ h A (Ex.refl I) r
end

/-! ### arithmetic -/
def oI (C : Int → Int → Prop) (g : Int → Int → DV) : AR2 := fun x y L P => match x, y with
  | .int i, .int j => C i j ∧ P (g i j) L
  | _, _ => False
def oI0 (g : Int → Int → DV) : AR2 := fun x y L P => match x, y with
  | .int i, .int j => P (g i j) L
  | _, _ => False
section
variable {k : Kx}
theorem oI_ok {C : Int → Int → Prop} {g : Int → Int → DV} {g' : Int → Int → V} (hg : ∀ i j I, Rp k.K I (g i j) (g' i j)) : AOp k (rI C g') (oI C g) := by
  intro I F H L x y xv yv P Q A rx ry h q
  cases rx <;> try exact h.elim
  cases ry <;> try exact h.elim
  exact ⟨_, _, rfl, rfl, h.1, here A (hg _ _ _) h.2 q⟩
theorem oI0_ok {g : Int → Int → DV} {g' : Int → Int → V} (hg : ∀ i j I, Rp k.K I (g i j) (g' i j)) : AOp k (rI0 g') (oI0 g) := by
  intro I F H L x y xv yv P Q A rx ry h q
  cases rx <;> try exact h.elim
  cases ry <;> try exact h.elim
  exact ⟨_, _, rfl, rfl, here A (hg _ _ _) h q⟩
end
abbrev oSub : AR2 := oI0 fun i j => .int (i - j)
abbrev oMul : AR2 := oI CMul fun i j => .int (i * j)
abbrev oMod : AR2 := oI (fun _ j => 0 < j) fun i j => .int (i % j)
abbrev oDiv : AR2 := oI CDivW fun i j => .int (i / j)
abbrev oPow : AR2 := oI CPow fun i j => .int (i ^ j.toNat)
abbrev oShl : AR2 := oI CPow fun i j => .int (i * 2 ^ j.toNat)
abbrev oShr : AR2 := oI (fun _ j => 0 ≤ j) fun i j => .int (i / 2 ^ j.toNat)
abbrev oAnd : AR2 := oI0 fun i j => .int (Builtin.bitAnd i j)
abbrev oXor : AR2 := oI0 fun i j => .int (Builtin.bitXor i j)
abbrev oLt : AR2 := oI0 fun i j => .bl (decide (i < j))
abbrev oLe : AR2 := oI0 fun i j => .bl (decide (i ≤ j))
abbrev oGt : AR2 := oI0 fun i j => .bl (decide (j < i))
abbrev oGe : AR2 := oI0 fun i j => .bl (decide (j ≤ i))
/-- + of ints, texts, tuples, lists -/
def oAdd : AR2 := fun x y L P => match x, y with
  | .int i, .int j => P (.int (i + j)) L
  | .str a, .str b => a.length + b.length ≤ sizeLine ∧ P (.str (a ++ b)) L
  | .tup a, .tup b => a.length + b.length ≤ sizeLine ∧ P (.tup (a ++ b)) L
  | x, y => withL L x fun a => withL L y fun b => a.length + b.length ≤ sizeLine ∧ newL (a ++ b) L P
abbrev rAdd4 (K : PySem.W.Frag) : R2 := fun x y H Q => rI0 (fun i j => .int (i + j)) x y H Q ∨ (∃ i j, x = .str i ∧ y = .str j ∧ i.length + j.length ≤ sizeLine ∧ Q (.str (i ++ j)) H) ∨ rCatA K x y H Q ∨ rCat x y H Q
theorem opAdd {X : Cx} : OpR X (binaryOp .Add) (rAdd4 X.K) := op_add.or (op_add_str.or (op_catA.or op_cat))
theorem oAdd_ok {k : Kx} : AOp k (rAdd4 k.K) oAdd := by
  intro I F H L x y xv yv P Q A rx ry h q
  unfold oAdd at h
  split at h
  · cases rx; cases ry
    exact .inl ⟨_, _, rfl, rfl, here A (.int _) h q⟩
  · cases rx; cases ry
    exact .inr (.inl ⟨_, _, rfl, rfl, h.1, here A (.str _) h.2 q⟩)
  · cases rx with | tup hx r => ?_
    cases ry with | tup hy s => ?_
    rw [r.length, s.length] at h
    refine .inr (.inr (.inl ⟨_, _, _, _, rfl, rfl, A.imm.t hx, A.imm.t hy, h.1, fun e => ?_, fun e1 e2 => ?_, fun e1 e2 p hp => newT_ok A (r.append s) h.2 q p hp⟩))
    · subst e; cases r
      exact here A (.tup hy s) h.2 q
    · subst e2; cases s
      have h2 := h.2
      rw [List.append_nil] at h2
      exact here A (.tup hx r) h2 q
  · obtain ⟨a, vs, ds, rfl, ha, r, h⟩ := withL_ok A rx h
    obtain ⟨b, us, es, rfl, hb, s, hz, h⟩ := withL_ok A ry h
    rw [r.length, s.length] at hz
    exact .inr (.inr (.inr ⟨_, _, _, _, rfl, rfl, ha, hb, hz, newL_ok A (r.append s) h q⟩))
/-- list * int beside int * int -/
def oMulL : AR2 := fun x y L P => match x, y with
  | .int i, .int j => CMul i j ∧ P (.int (i * j)) L
  | x, .int j => withL L x fun a => -(2 ^ 63) ≤ j ∧ j < 2 ^ 63 ∧ a.length * j.toNat ≤ sizeLine ∧ newL (List.replicate j.toNat a).flatten L P
  | _, _ => False
theorem Rps.rep {K : PySem.W.Frag} {I : Hp} {ds : List DV} {vs : List V} (h : Rps K I ds vs) : ∀ n : Nat, Rps K I (List.replicate n ds).flatten (List.replicate n vs).flatten
  | 0 => .nil
  | n + 1 => by rw [List.replicate_succ, List.replicate_succ, List.flatten_cons, List.flatten_cons]; exact h.append (Rps.rep h n)
theorem oMulL_ok {k : Kx} : AOp k (fun x y H Q => rI CMul (fun i j => .int (i * j)) x y H Q ∨ rRep x y H Q) oMulL := by
  intro I F H L x y xv yv P Q A rx ry h q
  unfold oMulL at h
  split at h
  · cases rx; cases ry
    exact .inl ⟨_, _, rfl, rfl, h.1, here A (.int _) h.2 q⟩
  · cases ry
    obtain ⟨a, vs, ds, rfl, ha, r, h1, h2, hz, h⟩ := withL_ok A rx h
    rw [r.length] at hz
    exact .inr ⟨_, _, _, rfl, rfl, ha, h1, h2, hz, newL_ok A (r.rep _) h q⟩
  · exact h.elim
theorem opMulL {X : Cx} : OpR X (binaryOp .Mult) (fun x y H Q => rI CMul (fun i j => .int (i * j)) x y H Q ∨ rRep x y H Q) := op_mul.or op_rep
section
variable {X : Cx} {W : WX} {a b : Expr} {ta tb : AE} {pos : Pos}
theorem a_add (ha : PE X a (cE X.kx W ta)) (hb : PE X b (cE X.kx W tb)) : PE X (.BinOp a .Add b pos) (cE X.kx W (aBin oAdd ta tb)) := a_bin opAdd oAdd_ok ha hb
theorem a_sub (ha : PE X a (cE X.kx W ta)) (hb : PE X b (cE X.kx W tb)) : PE X (.BinOp a .Sub b pos) (cE X.kx W (aBin oSub ta tb)) := a_bin op_sub (oI0_ok fun _ _ _ => .int _) ha hb
theorem a_mul (ha : PE X a (cE X.kx W ta)) (hb : PE X b (cE X.kx W tb)) : PE X (.BinOp a .Mult b pos) (cE X.kx W (aBin oMulL ta tb)) := a_bin opMulL oMulL_ok ha hb
theorem a_mod (ha : PE X a (cE X.kx W ta)) (hb : PE X b (cE X.kx W tb)) : PE X (.BinOp a .Mod b pos) (cE X.kx W (aBin oMod ta tb)) := a_bin op_mod (oI_ok fun _ _ _ => .int _) ha hb
theorem a_div (ha : PE X a (cE X.kx W ta)) (hb : PE X b (cE X.kx W tb)) : PE X (.BinOp a .FloorDiv b pos) (cE X.kx W (aBin oDiv ta tb)) := a_bin op_fdivW (oI_ok fun _ _ _ => .int _) ha hb
theorem a_pow (ha : PE X a (cE X.kx W ta)) (hb : PE X b (cE X.kx W tb)) : PE X (.BinOp a .Pow b pos) (cE X.kx W (aBin oPow ta tb)) := a_bin op_pow (oI_ok fun _ _ _ => .int _) ha hb
theorem a_shl (ha : PE X a (cE X.kx W ta)) (hb : PE X b (cE X.kx W tb)) : PE X (.BinOp a .LShift b pos) (cE X.kx W (aBin oShl ta tb)) := a_bin op_shl (oI_ok fun _ _ _ => .int _) ha hb
theorem a_shr (ha : PE X a (cE X.kx W ta)) (hb : PE X b (cE X.kx W tb)) : PE X (.BinOp a .RShift b pos) (cE X.kx W (aBin oShr ta tb)) := a_bin op_shr (oI_ok fun _ _ _ => .int _) ha hb
theorem a_band (ha : PE X a (cE X.kx W ta)) (hb : PE X b (cE X.kx W tb)) : PE X (.BinOp a .BitAnd b pos) (cE X.kx W (aBin oAnd ta tb)) := a_bin op_and (oI0_ok fun _ _ _ => .int _) ha hb
theorem a_xor (ha : PE X a (cE X.kx W ta)) (hb : PE X b (cE X.kx W tb)) : PE X (.BinOp a .BitXor b pos) (cE X.kx W (aBin oXor ta tb)) := a_bin op_xor (oI0_ok fun _ _ _ => .int _) ha hb
/-- -a -/
def aNeg (ta : AE) : AE := fun ρ L P px => ta ρ L (fun x L1 => match x with
  | .int i => P (.int (-i)) L1
  | _ => False) px
theorem a_neg (ha : PE X a (cE X.kx W ta)) : PE X (.UnaryOp .USub a pos) (cE X.kx W (aNeg ta)) :=
  (pe_un un_neg ha).imp fun σ H Q ⟨I, L, F, ρ, P, px, S, h, q⟩ => ⟨I, L, F, ρ, _, px, S, h, fun d L1 v I1 H1 h1 A1 e1 r1 => by
    cases r1 <;> try exact h1.elim
    exact ⟨_, rfl, here A1 (.int _) h1 (q.mono e1)⟩⟩
end

/-! ### comparisons -/
def oScal (neg : Bool) : AR2 := fun x y L P => match x, y with
  | .int i, .int j => P (.bl (neg ^^ decide (i = j))) L
  | .str i, .str j => P (.bl (neg ^^ decide (i = j))) L
  | .bl i, .bl j => P (.bl (neg ^^ decide (i = j))) L
  | .non, .non => P (.bl (neg ^^ true)) L
  | .non, .int _ => P (.bl (neg ^^ false)) L
  | .int _, .non => P (.bl (neg ^^ false)) L
  | .non, .str _ => P (.bl (neg ^^ false)) L
  | .str _, .non => P (.bl (neg ^^ false)) L
  | .int _, .str _ => P (.bl (neg ^^ false)) L
  | .str _, .int _ => P (.bl (neg ^^ false)) L
  | .bl _, .str _ => P (.bl (neg ^^ false)) L
  | .str _, .bl _ => P (.bl (neg ^^ false)) L
  | .bl _, .non => P (.bl (neg ^^ false)) L
  | .non, .bl _ => P (.bl (neg ^^ false)) L
  | _, _ => False
mutual
/-- nested data as the model's == knows them; lists of the ledger as they stand -/
inductive PyOf (L : Led) : DV → PyData → Prop
  | non : PyOf L .non .none
  | bl (b : Bool) : PyOf L (.bl b) (.bool b)
  | int (i : Int) : PyOf L (.int i) (.int i)
  | str (x : Str) : PyOf L (.str x) (.str x)
  | lst {ds : List DV} {ps : List PyData} (h : PyOfs L ds ps) : PyOf L (.lst ds) (.list ps)
  | tup {ds : List DV} {ps : List PyData} (h : PyOfs L ds ps) : PyOf L (.tup ds) (.tuple ps)
  | ref {a : Addr} {ds : List DV} {ps : List PyData} (e : L a = some (.lst ds)) (h : PyOfs L ds ps) : PyOf L (.ref a) (.list ps)
inductive PyOfs (L : Led) : List DV → List PyData → Prop
  | nil : PyOfs L [] []
  | cons {d : DV} {p : PyData} {ds : List DV} {ps : List PyData} (h : PyOf L d p) (r : PyOfs L ds ps) : PyOfs L (d :: ds) (p :: ps)
end
section
variable {k : Kx} {I F H : Hp} {L : Led}
mutual
theorem PyOf.dp (A : Ab k I L F H) : ∀ {d : DV} {p : PyData} {v : V}, PyOf L d p → Rp k.K I d v → Dp k.K H v p
  | _, _, _, .non, r => by cases r; exact .non
  | _, _, _, .bl b, r => by cases r; exact .bl b
  | _, _, _, .int b, r => by cases r; exact .int b
  | _, _, _, .str b, r => by cases r; exact .str b
  | _, _, _, .lst h, r => by
    cases r with
    | lst e r => exact .lst (SqL.of (A.imm _ _ e)) (PyOfs.dp A h r)
  | _, _, _, .tup h, r => by
    cases r with
    | tup e r => exact .tup (A.imm.t e) (PyOfs.dp A h r)
  | _, _, _, .ref e h, r => by
    cases r
    obtain ⟨_, _, o, e2, r2⟩ := A.led _ _ e
    cases r2 with
    | lst r => exact .lst (SqL.of e2) (PyOfs.dp A h r)
theorem PyOfs.dp (A : Ab k I L F H) : ∀ {ds : List DV} {ps : List PyData} {vs : List V}, PyOfs L ds ps → Rps k.K I ds vs → DpAll k.K H vs ps
  | _, _, _, .nil, r => by cases r; exact .nil
  | _, _, _, .cons h t, r => by
    cases r with
    | cons r1 r2 => exact .cons (PyOf.dp A h r1) (PyOfs.dp A t r2)
end
end
/-- == of nested data -/
def oDeep (neg : Bool) : AR2 := fun x y L P => ∃ d e, PyOf L x d ∧ PyOf L y e ∧ SeqAt.shaped d = true ∧ SeqAt.shaped e = true ∧ P (.bl (neg ^^ PyData.eqv d e)) L
def oEqN (neg : Bool) : AR2 := fun x y L P => match x, y with
  | .lst a, y => oDeep neg (.lst a) y L P
  | .tup a, y => oDeep neg (.tup a) y L P
  | .ref a, y => oDeep neg (.ref a) y L P
  | x, .lst a => oDeep neg x (.lst a) L P
  | x, .tup a => oDeep neg x (.tup a) L P
  | x, .ref a => oDeep neg x (.ref a) L P
  | x, y => oScal neg x y L P
abbrev oEq : AR2 := oEqN false
abbrev oNe : AR2 := oEqN true
section
variable {k : Kx}
theorem oScal_ok : AOp k rEq (oScal false) := by
  intro I F H L x y xv yv P Q A rx ry h q
  unfold oScal at h
  split at h <;> first | exact h.elim | (cases rx; cases ry; refine ⟨rfl, ?_⟩; simp only [Bool.false_bne, Bool.false_xor] at h; first | (rw [dec_int, Int.beq_eq_decide_eq] ; exact here A (.bl _) h q) | (rw [dec_str]; refine here A (.bl _) ?_ q; simpa using h) | (rw [dec_bl]; refine here A (.bl _) ?_ q; simpa using h) | (refine here A (.bl _) ?_ q; simpa using h))
theorem oScalN_ok : AOp k rNe (oScal true) := by
  intro I F H L x y xv yv P Q A rx ry h q
  unfold oScal at h
  split at h <;> first | exact h.elim | (cases rx; cases ry; refine ⟨rfl, here A (.bl _) ?_ q⟩; simpa using h)
theorem oDeep_ok : AOp k (rEqD k.K) (oDeep false) := by
  intro I F H L x y xv yv P Q A rx ry h q
  obtain ⟨d, e, hd, he, sd, se, h⟩ := h
  rw [Bool.false_xor] at h
  exact ⟨d, e, hd.dp A rx, he.dp A ry, sd, se, here A (.bl _) h q⟩
theorem oDeepN_ok : AOp k (rNeD k.K) (oDeep true) := by
  intro I F H L x y xv yv P Q A rx ry h q
  obtain ⟨d, e, hd, he, sd, se, h⟩ := h
  rw [Bool.true_xor] at h
  exact ⟨d, e, hd.dp A rx, he.dp A ry, sd, se, here A (.bl _) h q⟩
theorem oEq_ok : AOp k (fun x y H Q => rEq x y H Q ∨ rEqD k.K x y H Q) oEq := by
  intro I F H L x y xv yv P Q A rx ry h q
  unfold oEq oEqN at h
  split at h <;> first | exact .inr (oDeep_ok A rx ry h q) | exact .inl (oScal_ok A rx ry h q)
theorem oNe_ok : AOp k (fun x y H Q => rNe x y H Q ∨ rNeD k.K x y H Q) oNe := by
  intro I F H L x y xv yv P Q A rx ry h q
  unfold oNe oEqN at h
  split at h <;> first | exact .inr (oDeepN_ok A rx ry h q) | exact .inl (oScalN_ok A rx ry h q)
end
section
variable {X : Cx} {W : WX} {a b c : Expr} {ta tb tc : AE} {pos : Pos}
theorem opEq (hu : X.A.units + 64 < cLine) : OpR X (compareOp .Eq) (fun x y H Q => rEq x y H Q ∨ rEqD X.K x y H Q) := op_eq.or (op_eqD hu)
theorem opNe (hu : X.A.units + 64 < cLine) : OpR X (compareOp .NotEq) (fun x y H Q => rNe x y H Q ∨ rNeD X.K x y H Q) := op_ne.or (op_neD hu)
theorem a_eq (hu : X.A.units + 64 < cLine) (ha : PE X a (cE X.kx W ta)) (hb : PE X b (cE X.kx W tb)) : PE X (.Compare a [.Eq] [b] pos) (cE X.kx W (aBin oEq ta tb)) := a_cmp (opEq hu) oEq_ok ha hb
theorem a_ne (hu : X.A.units + 64 < cLine) (ha : PE X a (cE X.kx W ta)) (hb : PE X b (cE X.kx W tb)) : PE X (.Compare a [.NotEq] [b] pos) (cE X.kx W (aBin oNe ta tb)) := a_cmp (opNe hu) oNe_ok ha hb
theorem t_eq (hu : X.A.units + 64 < cLine) (ha : PE X a (cE X.kx W ta)) (hb : PE X b (cE X.kx W tb)) : PT X (.Compare a [.Eq] [b] pos) (cT X.kx W (aTest (aBin oEq ta tb))) := t_cmp (opEq hu) oEq_ok ha hb
theorem t_ne (hu : X.A.units + 64 < cLine) (ha : PE X a (cE X.kx W ta)) (hb : PE X b (cE X.kx W tb)) : PT X (.Compare a [.NotEq] [b] pos) (cT X.kx W (aTest (aBin oNe ta tb))) := t_cmp (opNe hu) oNe_ok ha hb
theorem a_lt (ha : PE X a (cE X.kx W ta)) (hb : PE X b (cE X.kx W tb)) : PE X (.Compare a [.Lt] [b] pos) (cE X.kx W (aBin oLt ta tb)) := a_cmp op_lt (oI0_ok fun _ _ _ => .bl _) ha hb
theorem a_le (ha : PE X a (cE X.kx W ta)) (hb : PE X b (cE X.kx W tb)) : PE X (.Compare a [.LtE] [b] pos) (cE X.kx W (aBin oLe ta tb)) := a_cmp op_le (oI0_ok fun _ _ _ => .bl _) ha hb
theorem a_gt (ha : PE X a (cE X.kx W ta)) (hb : PE X b (cE X.kx W tb)) : PE X (.Compare a [.Gt] [b] pos) (cE X.kx W (aBin oGt ta tb)) := a_cmp op_gt (oI0_ok fun _ _ _ => .bl _) ha hb
theorem a_ge (ha : PE X a (cE X.kx W ta)) (hb : PE X b (cE X.kx W tb)) : PE X (.Compare a [.GtE] [b] pos) (cE X.kx W (aBin oGe ta tb)) := a_cmp op_ge (oI0_ok fun _ _ _ => .bl _) ha hb
theorem t_lt (ha : PE X a (cE X.kx W ta)) (hb : PE X b (cE X.kx W tb)) : PT X (.Compare a [.Lt] [b] pos) (cT X.kx W (aTest (aBin oLt ta tb))) := t_cmp op_lt (oI0_ok fun _ _ _ => .bl _) ha hb
theorem t_le (ha : PE X a (cE X.kx W ta)) (hb : PE X b (cE X.kx W tb)) : PT X (.Compare a [.LtE] [b] pos) (cT X.kx W (aTest (aBin oLe ta tb))) := t_cmp op_le (oI0_ok fun _ _ _ => .bl _) ha hb
theorem t_gt (ha : PE X a (cE X.kx W ta)) (hb : PE X b (cE X.kx W tb)) : PT X (.Compare a [.Gt] [b] pos) (cT X.kx W (aTest (aBin oGt ta tb))) := t_cmp op_gt (oI0_ok fun _ _ _ => .bl _) ha hb
theorem t_ge (ha : PE X a (cE X.kx W ta)) (hb : PE X b (cE X.kx W tb)) : PT X (.Compare a [.GtE] [b] pos) (cT X.kx W (aTest (aBin oGe ta tb))) := t_cmp op_ge (oI0_ok fun _ _ _ => .bl _) ha hb
/-- a <= b <= c, a <= b < c -/
theorem t_leLe (ha : PE X a (cE X.kx W ta)) (hb : PE X b (cE X.kx W tb)) (hc : PE X c (cE X.kx W tc)) (hm : lastMarks [.LtE, .LtE] [b, c] = false := by rfl) : PT X (.Compare a [.LtE, .LtE] [b, c] pos) (cT X.kx W (aTest (aChain oLe oLe ta tb tc))) := t_chain op_le op_le (oI0_ok fun _ _ _ => .bl _) (oI0_ok fun _ _ _ => .bl _) ha hb hc hm
theorem t_leLt (ha : PE X a (cE X.kx W ta)) (hb : PE X b (cE X.kx W tb)) (hc : PE X c (cE X.kx W tc)) (hm : lastMarks [.LtE, .Lt] [b, c] = false := by rfl) : PT X (.Compare a [.LtE, .Lt] [b, c] pos) (cT X.kx W (aTest (aChain oLe oLt ta tb tc))) := t_chain op_le op_lt (oI0_ok fun _ _ _ => .bl _) (oI0_ok fun _ _ _ => .bl _) ha hb hc hm
theorem a_leLe (ha : PE X a (cE X.kx W ta)) (hb : PE X b (cE X.kx W tb)) (hc : PE X c (cE X.kx W tc)) (hm : lastMarks [.LtE, .LtE] [b, c] = false := by rfl) : PE X (.Compare a [.LtE, .LtE] [b, c] pos) (cE X.kx W (aChain oLe oLe ta tb tc)) := a_chain op_le op_le (oI0_ok fun _ _ _ => .bl _) (oI0_ok fun _ _ _ => .bl _) ha hb hc hm
theorem a_leLt (ha : PE X a (cE X.kx W ta)) (hb : PE X b (cE X.kx W tb)) (hc : PE X c (cE X.kx W tc)) (hm : lastMarks [.LtE, .Lt] [b, c] = false := by rfl) : PE X (.Compare a [.LtE, .Lt] [b, c] pos) (cE X.kx W (aChain oLe oLt ta tb tc)) := a_chain op_le op_lt (oI0_ok fun _ _ _ => .bl _) (oI0_ok fun _ _ _ => .bl _) ha hb hc hm
/-- is None -/
def isN : DV → Bool
  | .non => true
  | _ => false
theorem isN_of {K : PySem.W.Frag} {I : Hp} {d : DV} {v : V} (r : Rp K I d v) : decide (v = V.non) = isN d := by
  cases r <;> rfl
def oIsN (neg : Bool) : AR2 := fun x y L P => match y with
  | .non => P (.bl (neg ^^ isN x)) L
  | _ => False
theorem oIsN_ok {k : Kx} : AOp k (fun x y H Q => y = .non ∧ Q (.bl (decide (x = .non))) H) (oIsN false) := by
  intro I F H L x y xv yv P Q A rx ry h q
  cases ry <;> try exact h.elim
  have h' : P (.bl (false ^^ isN x)) L := h
  rw [Bool.false_xor] at h'
  exact ⟨rfl, by rw [isN_of rx]; exact here A (.bl _) h' q⟩
theorem oIsNN_ok {k : Kx} : AOp k (fun x y H Q => y = .non ∧ Q (.bl (!decide (x = .non))) H) (oIsN true) := by
  intro I F H L x y xv yv P Q A rx ry h q
  cases ry <;> try exact h.elim
  have h' : P (.bl (true ^^ isN x)) L := h
  rw [Bool.true_xor] at h'
  exact ⟨rfl, by rw [isN_of rx]; exact here A (.bl _) h' q⟩
theorem a_isN (ha : PE X a (cE X.kx W ta)) (hb : PE X b (cE X.kx W tb)) : PE X (.Compare a [.Is] [b] pos) (cE X.kx W (aBin (oIsN false) ta tb)) := a_cmp op_isN oIsN_ok ha hb
theorem t_isN (ha : PE X a (cE X.kx W ta)) (hb : PE X b (cE X.kx W tb)) : PT X (.Compare a [.Is] [b] pos) (cT X.kx W (aTest (aBin (oIsN false) ta tb))) := t_cmp op_isN oIsN_ok ha hb
theorem a_isNN (ha : PE X a (cE X.kx W ta)) (hb : PE X b (cE X.kx W tb)) : PE X (.Compare a [.IsNot] [b] pos) (cE X.kx W (aBin (oIsN true) ta tb)) := a_cmp op_notN oIsNN_ok ha hb
theorem t_isNN (ha : PE X a (cE X.kx W ta)) (hb : PE X b (cE X.kx W tb)) : PT X (.Compare a [.IsNot] [b] pos) (cT X.kx W (aTest (aBin (oIsN true) ta tb))) := t_cmp op_notN oIsNN_ok ha hb
end
end AL
namespace AL
open PySem PySem.Spec PyProof.Rows L2

/-! ### items -/
theorem atI_rp {K : PySem.W.Frag} {I : Hp} {ds : List DV} {vs : List V} {i : Int} {d : DV} (r : Rps K I ds vs) (h : atI ds i = some d) : ∃ v, atI vs i = some v ∧ Rp K I d v := by
  unfold atI at h ⊢
  rw [r.length] at h
  cases e : ixN vs.length i with
  | none => rw [e] at h; cases h
  | some j =>
    rw [e] at h
    obtain ⟨v, h1, h2⟩ := r.get (i := j) (d := d) h
    exact ⟨v, h1, h2⟩
def oIx : AR2 := fun x y L P => match x, y with
  | .str z, .int i => z.length ≤ sizeLine ∧ ∃ c, atI z.cps.toList i = some c ∧ P (.str ⟨#[c]⟩) L
  | x, .int i => withSq L x fun ds => ∃ d, atI ds i = some d ∧ P d L
  | _, _ => False
theorem oIx_ok {k : Kx} : AOp k (rIx k.K) oIx := by
  intro I F H L x y xv yv P Q A rx ry h q
  unfold oIx at h
  split at h
  · cases rx; cases ry
    obtain ⟨hz, c, e, h⟩ := h
    exact .inr (.inr ⟨_, _, _, rfl, rfl, hz, e, here A (.str _) h q⟩)
  · cases ry
    obtain ⟨a, vs, ds, rfl, hs, r, d, e, h⟩ := withSq_ok A rx h
    obtain ⟨v, e2, r2⟩ := atI_rp r e
    rcases hs with hs | hs
    · exact .inl ⟨_, _, _, _, rfl, rfl, hs, e2, here A r2 h q⟩
    · exact .inr (.inl ⟨_, _, _, _, rfl, rfl, hs, e2, here A r2 h q⟩)
  · exact h.elim
section
variable {X : Cx} {W : WX} {a b : Expr} {ta tb : AE} {pos : Pos}
theorem a_item (ha : PE X a (cE X.kx W ta)) (hb : PE X b (cE X.kx W tb)) (hs : PlainIx b := by intro _ _; rfl) : PE X (.Subscript a b pos) (cE X.kx W (aBin oIx ta tb)) := a_ix ix_seq oIx_ok ha hb hs
end

/-! ### slices -/
abbrev AO := Sl → Led → (Option Int → Led → Prop) → PX → Prop
def cO (k : Kx) (W : WX) (t : AO) : TO := fun σ H Q => ∃ I L F ρ P px, Stt k W σ H I L F ρ px ∧ t ρ L P px ∧ ∀ o L' I' H', P o L' → Ab k I' L' F H' → Ex I I' → Q o H'
def aNoPart : AO := fun _ L P _ => P none L
def aPart (t : AE) : AO := fun ρ L P px => t ρ L (fun x L1 => match x with
  | .int i => P (some i) L1
  | _ => False) px
def cut {α : Type} (xs : List α) (lo hi : Option Int) : List α := (xs.drop (HT.sIx xs.length 0 lo)).take (HT.sIx xs.length xs.length hi - HT.sIx xs.length 0 lo)
theorem cut_rp {K : PySem.W.Frag} {I : Hp} {ds : List DV} {vs : List V} (r : Rps K I ds vs) (lo hi : Option Int) : Rps K I (cut ds lo hi) (cutV vs lo hi) := by
  unfold cut cutV
  rw [r.length]
  exact (r.drop _).take _
def oSl (x : DV) (lo hi : Option Int) (L : Led) (P : PD) : Prop := match x with
  | .str z => z.length ≤ sizeLine ∧ P (.str (cutS z lo hi)) L
  | .tup xs => P (.tup (cut xs lo hi)) L
  | x => withL L x fun ds => newL (cut ds lo hi) L P
def aSl (te : AE) (tl th : AO) : AE := fun ρ L P px => te ρ L (fun x L1 => tl ρ L1 (fun lo L2 => th ρ L2 (fun hi L3 => oSl x lo hi L3 P) px) px) px
abbrev rSlAll (K : PySem.W.Frag) : V → Option Int → Option Int → Hp → VK → Prop := fun x lo hi H Q => rSlS x lo hi H Q ∨ rSlA K x lo hi H Q ∨ rSlL K x lo hi H Q
theorem oSl_ok {k : Kx} {I F H : Hp} {L : Led} {x : DV} {xv : V} {lo hi : Option Int} {P : PD} {Q : VK} (A : Ab k I L F H) (rx : Rp k.K I x xv) (h : oSl x lo hi L P) (q : Q2 k I F P Q) : rSlAll k.K xv lo hi H Q := by
  unfold oSl at h
  split at h
  · cases rx
    exact .inl ⟨_, rfl, h.1, here A (.str _) h.2 q⟩
  · cases rx with | tup hx r => ?_
    refine .inr (.inl ⟨_, _, rfl, A.imm.t hx, fun e => ?_, fun _ p hp => newT_ok A (cut_rp r lo hi) h q p hp⟩)
    rename_i xs _ vs
    have ec : cut xs lo hi = xs := by
      unfold cut
      rw [r.length, e.1, e.2, List.drop_zero, Nat.sub_zero, ← r.length, List.take_length]
    rw [ec] at h
    exact here A (.tup hx r) h q
  · obtain ⟨a, vs, ds, rfl, ha, r, h⟩ := withL_ok A rx h
    exact .inr (.inr ⟨_, _, rfl, SqL.of ha, newL_ok A (cut_rp r lo hi) h q⟩)
section
variable {X : Cx} {W : WX} {e : Expr} {lo hi : Option Expr} {te : AE} {tl th : AO} {pos p2 : Pos}
theorem o_none : PO X none (cO X.kx W aNoPart) := by
  refine ⟨fun pins s σ H Q I h => ?_⟩
  obtain ⟨I0, L, F, ρ, P, px, S, h, q⟩ := h
  exact po_none.run pins s σ H Q I (q _ _ _ _ h S.ab (Ex.refl _))
theorem o_some (h : PE X e (cE X.kx W te)) : PO X (some e) (cO X.kx W (aPart te)) := by
  refine ⟨fun pins s σ H Q I hq => ?_⟩
  obtain ⟨I0, L, F, ρ, P, px, S, hq, q⟩ := hq
  refine (po_some h).run pins s σ H Q I ⟨I0, L, F, ρ, _, px, S, hq, fun d L1 v I1 H1 h1 A1 e1 r1 => ?_⟩
  cases r1 <;> try exact h1.elim
  exact ⟨_, rfl, q _ _ _ _ h1 A1 e1⟩
theorem a_slice (he : PE X e (cE X.kx W te)) (hl : PO X lo (cO X.kx W tl)) (hu : PO X hi (cO X.kx W th)) : PE X (.Subscript e (.Slice lo hi none p2) pos) (cE X.kx W (aSl te tl th)) :=
  (pe_slice (sl_str.or (sl_tupA.or sl_list)) he hl hu).imp fun σ H Q ⟨I, L, F, ρ, P, px, S, h, q⟩ => ⟨I, L, F, ρ, _, px, S, h, fun x L1 xv I1 H1 h1 A1 e1 r1 => ⟨I1, L1, F, ρ, _, px, S.go A1 e1, h1, fun l L2 I2 H2 h2 A2 e2 =>
    ⟨I2, L2, F, ρ, _, px, S.go A2 (e1.trans e2), h2, fun u L3 I3 H3 h3 A3 e3 => oSl_ok A3 (r1.mono (e2.trans e3)) h3 (q.mono ((e1.trans e2).trans e3))⟩⟩⟩
/-- xs[::-1] -/
def aRev (te : AE) : AE := fun ρ L P px => te ρ L (fun x L1 => withL L1 x fun ds => newL ds.reverse L1 P) px
theorem a_rev {k : Nat} {p1 p3 p4 : Pos} (he : PE X e (cE X.kx W te)) : PE X (.Subscript e (.Slice none none (some (.UnaryOp .USub (.Constant (.int 1) k p1) p3)) p4) pos) (cE X.kx W (aRev te)) :=
  (pe_revL he).imp fun σ H Q ⟨I, L, F, ρ, P, px, S, h, q⟩ => ⟨I, L, F, ρ, _, px, S, h, fun x L1 xv I1 H1 h1 A1 e1 r1 => by
    obtain ⟨a, vs, ds, rfl, ha, r, h⟩ := withL_ok A1 r1 h1
    exact ⟨_, _, rfl, SqL.of ha, newL_ok A1 r.reverse h (q.mono e1)⟩⟩
end

/-! ### arguments, displays -/
def aNil : AA := fun _ L P _ => P [] L
def aCons (ta : AE) (tr : AA) : AA := fun ρ L P px => ta ρ L (fun x L1 => tr ρ L1 (fun xs L2 => P (x :: xs) L2) px) px
/-- few items -/
def few : List DV → Nat → Prop → Prop
  | [], _, q => q
  | _ :: _, 0, _ => False
  | _ :: r, n + 1, q => few r n q
theorem few_ok : ∀ {ds : List DV} {n : Nat} {q : Prop}, few ds n q → ds.length ≤ n ∧ q
  | [], _, _, h => ⟨Nat.zero_le _, h⟩
  | _ :: _, 0, _, h => h.elim
  | _ :: r, n + 1, q, h => ⟨Nat.succ_le_succ (few_ok (ds := r) h).1, (few_ok (ds := r) h).2⟩
def aTup (ta : AA) : AE := fun ρ L P px => ta ρ L (fun ds L1 => few ds 200 (P (.tup ds) L1)) px
def aLst (ta : AA) : AE := fun ρ L P px => ta ρ L (fun ds L1 => few ds 200 (newL ds L1 P)) px
theorem z200 {n : Nat} (h : n ≤ 200) : n ≤ sizeLine := Nat.le_trans h (by decide)
section
variable {X : Cx} {W : WX} {e : Expr} {es : List Expr} {te : AE} {t : AA} {pos : Pos}
theorem g_nil : PA X [] (cA X.kx W aNil) := pa_nil.imp fun σ H Q ⟨I, L, F, ρ, P, px, S, h, q⟩ => q _ _ _ _ _ h S.ab (Ex.refl _) .nil
theorem g_cons (ha : PE X e (cE X.kx W te)) (hr : PA X es (cA X.kx W t)) (hs : starEach (e :: es) X.env = (false, eval e X.env) :: starEach es X.env := by rfl) : PA X (e :: es) (cA X.kx W (aCons te t)) :=
  (pa_cons ha hr hs).imp fun σ H Q ⟨I, L, F, ρ, P, px, S, h, q⟩ => ⟨I, L, F, ρ, _, px, S, h, fun x L1 xv I1 H1 h1 A1 e1 r1 => ⟨I1, L1, F, ρ, _, px, S.go A1 e1, h1, fun xs L2 vs I2 H2 h2 A2 e2 r2 => q _ _ _ _ _ h2 A2 (e1.trans e2) (.cons (r1.mono e2) r2)⟩⟩
theorem a_tup {x1} (h : PA X es (cA X.kx W t)) : PE X (.Tuple es x1 pos) (cE X.kx W (aTup t)) :=
  (pe_tup h).imp fun σ H Q ⟨I, L, F, ρ, P, px, S, h, q⟩ => ⟨I, L, F, ρ, _, px, S, h, fun ds L1 vs I1 H1 h1 A1 e1 r1 => ⟨by rw [← r1.length]; exact z200 (few_ok h1).1, newT_ok A1 r1 (few_ok h1).2 (q.mono e1)⟩⟩
theorem a_lst (h : PA X es (cA X.kx W t)) : PE X (.List es pos) (cE X.kx W (aLst t)) :=
  (pe_lst h).imp fun σ H Q ⟨I, L, F, ρ, P, px, S, h, q⟩ => ⟨I, L, F, ρ, _, px, S, h, fun ds L1 vs I1 H1 h1 A1 e1 r1 => ⟨by rw [← r1.length]; exact z200 (few_ok h1).1, newL_ok A1 r1 (few_ok h1).2 (q.mono e1)⟩⟩
end

/-! ### built-in calls by values -/
abbrev AC := List DV → Led → PD → Prop
def ACl (k : Kx) (r : List V → Hp → VK → Prop) (ro : AC) : Prop := ∀ {I F H : Hp} {L : Led} {ds : List DV} {vs : List V} {P : PD} {Q : VK}, Ab k I L F H → Rps k.K I ds vs → ro ds L P → Q2 k I F P Q → r vs H Q
def aCB (ro : AC) (t : AA) : AE := fun ρ L P px => t ρ L (fun ds L1 => ro ds L1 P) px
section
variable {X : Cx} {W : WX} {e : Expr} {es : List Expr} {t : AA} {p pos : Pos} {x : Str} {id T : String} {r : List V → Hp → VK → Prop} {ro : AC}
theorem a_callB (hc : CallR X (.builtin id) r) (hr : ACl X.kx r ro) (hg : Gl X x) (hm : X.mg x = none) (hv : bootBuiltins x = some (.builtin id)) (ha : PA X (e :: es) (cA X.kx W t)) (hn : x ≠ "__name__" := by decide) (hdb : (x == ("__debug__" : Str)) = false := by decide)
    (he : starEach (e :: es) X.env = (false, eval e X.env) :: starEach es X.env := by rfl) (hpl : (backTo pos (starEach es X.env)).any (·.1) = false := by rfl) : PE X (.Call (.Name x p) (e :: es) [] pos) (cE X.kx W (aCB ro t)) :=
  (pe_callB hc hg hm hv ha hn hdb he hpl).imp fun σ H Q ⟨I, L, F, ρ, P, px, S, h, q⟩ => ⟨I, L, F, ρ, _, px, S, h, fun ds L1 vs I1 H1 h1 A1 e1 r1 => hr A1 r1 h1 (q.mono e1)⟩
theorem a_callTy (hc : CallR X (.type T) r) (hr : ACl X.kx r ro) (hg : Gl X x) (hm : X.mg x = none) (hv : bootBuiltins x = some (.type T)) (ha : PA X (e :: es) (cA X.kx W t)) (hn : x ≠ "__name__" := by decide) (hdb : (x == ("__debug__" : Str)) = false := by decide)
    (he : starEach (e :: es) X.env = (false, eval e X.env) :: starEach es X.env := by rfl) (hpl : (backTo pos (starEach es X.env)).any (·.1) = false := by rfl) : PE X (.Call (.Name x p) (e :: es) [] pos) (cE X.kx W (aCB ro t)) :=
  (pe_callTy hc hg hm hv ha hn hdb he hpl).imp fun σ H Q ⟨I, L, F, ρ, P, px, S, h, q⟩ => ⟨I, L, F, ρ, _, px, S, h, fun ds L1 vs I1 H1 h1 A1 e1 r1 => hr A1 r1 h1 (q.mono e1)⟩
end
/-- int(x) of an int, a bool -/
def bInt : AC := fun ds L P => match ds with
  | [.int i] => P (.int i) L
  | [.bl b] => P (.int (if b then 1 else 0)) L
  | _ => False
def bAbs : AC := fun ds L P => match ds with
  | [.int i] => P (.int (if i < 0 then -i else i)) L
  | _ => False
def bMax2 : AC := fun ds L P => match ds with
  | [.int i, .int j] => P (.int (if j > i then j else i)) L
  | _ => False
def bMin2 : AC := fun ds L P => match ds with
  | [.int i, .int j] => P (.int (if j < i then j else i)) L
  | _ => False
def bLen : AC := fun ds L P => match ds with
  | [.str z] => z.length ≤ sizeLine ∧ P (.int (z.length : Nat)) L
  | [x] => withSq L x fun ds => P (.int (ds.length : Nat)) L
  | _ => False
def bList : AC := fun ds L P => match ds with
  | [x] => withSq L x fun ds => newL ds L P
  | _ => False
def bTuple : AC := fun ds L P => match ds with
  | [.tup xs] => P (.tup xs) L
  | [x] => withL L x fun ds => P (.tup ds) L
  | _ => False
def bStr : AC := fun ds L P => match ds with
  | [.int i] => i.natAbs.log2 < 1920 ∧ P (.str (toString i)) L
  | _ => False
section
variable {k : Kx}
theorem one_rp {I : Hp} {x : DV} {vs : List V} (r : Rps k.K I [x] vs) : ∃ v, vs = [v] ∧ Rp k.K I x v := by
  cases r with | cons h t => cases t; exact ⟨_, rfl, h⟩
theorem two_rp {I : Hp} {x y : DV} {vs : List V} (r : Rps k.K I [x, y] vs) : ∃ v w, vs = [v, w] ∧ Rp k.K I x v ∧ Rp k.K I y w := by
  cases r with | cons h t => cases t with | cons h' t => cases t; exact ⟨_, _, rfl, h, h'⟩
theorem bInt_ok : ACl k (fun xs H Q => (∃ i, xs = [.int i] ∧ Q (.int i) H) ∨ ∃ k, xs = [.bl k] ∧ Q (.int (if k then 1 else 0)) H) bInt := by
  intro I F H L ds vs P Q A r h q
  unfold bInt at h
  split at h
  · obtain ⟨v, rfl, r1⟩ := one_rp r; cases r1
    exact .inl ⟨_, rfl, here A (.int _) h q⟩
  · obtain ⟨v, rfl, r1⟩ := one_rp r; cases r1
    exact .inr ⟨_, rfl, here A (.int _) h q⟩
  · exact h.elim
theorem bAbs_ok : ACl k (fun xs H Q => ∃ i, xs = [.int i] ∧ Q (.int (if i < 0 then -i else i)) H) bAbs := by
  intro I F H L ds vs P Q A r h q
  unfold bAbs at h
  split at h
  · obtain ⟨v, rfl, r1⟩ := one_rp r; cases r1
    exact ⟨_, rfl, here A (.int _) h q⟩
  · exact h.elim
theorem bMax2_ok : ACl k (fun xs H Q => ∃ i j, xs = [.int i, .int j] ∧ Q (.int (if j > i then j else i)) H) bMax2 := by
  intro I F H L ds vs P Q A r h q
  unfold bMax2 at h
  split at h
  · obtain ⟨v, w, rfl, r1, r2⟩ := two_rp r; cases r1; cases r2
    exact ⟨_, _, rfl, here A (.int _) h q⟩
  · exact h.elim
theorem bMin2_ok : ACl k (fun xs H Q => ∃ i j, xs = [.int i, .int j] ∧ Q (.int (if j < i then j else i)) H) bMin2 := by
  intro I F H L ds vs P Q A r h q
  unfold bMin2 at h
  split at h
  · obtain ⟨v, w, rfl, r1, r2⟩ := two_rp r; cases r1; cases r2
    exact ⟨_, _, rfl, here A (.int _) h q⟩
  · exact h.elim
theorem bLen_ok : ACl k (fun xs H Q => ∃ x n, xs = [x] ∧ LenV k.K x H n ∧ Q (.int n) H) bLen := by
  intro I F H L ds vs P Q A r h q
  unfold bLen at h
  split at h
  · obtain ⟨v, rfl, r1⟩ := one_rp r; cases r1
    exact ⟨_, _, rfl, ⟨h.1, rfl⟩, here A (.int _) h.2 q⟩
  · obtain ⟨v, rfl, r1⟩ := one_rp r
    obtain ⟨a, vs, ds, rfl, hs, r, h⟩ := withSq_ok A r1 h
    refine ⟨_, ds.length, rfl, ?_, here A (.int _) h q⟩
    rcases hs with hs | hs
    · exact .inl ⟨_, hs, r.length⟩
    · exact .inr ⟨_, hs, r.length⟩
  · exact h.elim
theorem bList_ok : ACl k (fun xs H Q => ∃ p ys, xs = [.ref p] ∧ (SqL k.K H p ys ∨ SqT k.K H p ys) ∧ ∀ l, H l = none → Q (.ref l) (upd H l (.lst ys))) bList := by
  intro I F H L ds vs P Q A r h q
  unfold bList at h
  split at h
  · obtain ⟨v, rfl, r1⟩ := one_rp r
    obtain ⟨a, vs, ds, rfl, hs, r, h⟩ := withSq_ok A r1 h
    exact ⟨_, _, rfl, hs, newL_ok A r h q⟩
  · exact h.elim
theorem bTuple_ok : ACl k (fun xs H Q => ∃ p ys, xs = [.ref p] ∧ ((SqL k.K H p ys ∧ ∀ l, H l = none → Q (.ref l) (upd H l (.tup ys))) ∨ (SqT k.K H p ys ∧ Q (.ref p) H))) bTuple := by
  intro I F H L ds vs P Q A r h q
  unfold bTuple at h
  split at h
  · obtain ⟨v, rfl, r1⟩ := one_rp r
    cases r1 with | tup hx rr => exact ⟨_, _, rfl, .inr ⟨A.imm.t hx, here A (.tup hx (by assumption)) h q⟩⟩
  · obtain ⟨v, rfl, r1⟩ := one_rp r
    obtain ⟨a, vs, ds, rfl, ha, r, h⟩ := withL_ok A r1 h
    exact ⟨_, _, rfl, .inl ⟨SqL.of ha, newT_ok A r h q⟩⟩
  · exact h.elim
theorem bStr_ok : ACl k (fun xs H Q => ∃ i, xs = [.int i] ∧ i.natAbs.log2 < 1920 ∧ Q (.str (toString i)) H) bStr := by
  intro I F H L ds vs P Q A r h q
  unfold bStr at h
  split at h
  · obtain ⟨v, rfl, r1⟩ := one_rp r; cases r1
    exact ⟨_, rfl, h.1, here A (.str _) h.2 q⟩
  · exact h.elim
end
section
variable {X : Cx} {W : WX} {e : Expr} {es : List Expr} {t : AA} {p pos : Pos}
theorem a_intc (hg : Gl X "int") (hm : X.mg "int" = none) (ha : PA X [e] (cA X.kx W t)) (he : starEach [e] X.env = (false, eval e X.env) :: starEach [] X.env := by rfl) : PE X (.Call (.Name "int" p) [e] [] pos) (cE X.kx W (aCB bInt t)) := a_callTy call_int1 bInt_ok hg hm (by decide +kernel) ha (he := he)
theorem a_abs (hg : Gl X "abs") (hm : X.mg "abs" = none) (ha : PA X [e] (cA X.kx W t)) (he : starEach [e] X.env = (false, eval e X.env) :: starEach [] X.env := by rfl) : PE X (.Call (.Name "abs" p) [e] [] pos) (cE X.kx W (aCB bAbs t)) := a_callB call_abs bAbs_ok hg hm (by decide +kernel) ha (he := he)
theorem a_max2 (hc : X.calm = true) {e2 : Expr} (hg : Gl X "max") (hm : X.mg "max" = none) (ha : PA X [e, e2] (cA X.kx W t)) (he : starEach [e, e2] X.env = (false, eval e X.env) :: starEach [e2] X.env := by rfl) (hpl : (backTo pos (starEach [e2] X.env)).any (·.1) = false := by rfl) :
    PE X (.Call (.Name "max" p) [e, e2] [] pos) (cE X.kx W (aCB bMax2 t)) := a_callB (call_max2 hc) bMax2_ok hg hm (by decide +kernel) ha (he := he) (hpl := hpl)
theorem a_min2 (hc : X.calm = true) {e2 : Expr} (hg : Gl X "min") (hm : X.mg "min" = none) (ha : PA X [e, e2] (cA X.kx W t)) (he : starEach [e, e2] X.env = (false, eval e X.env) :: starEach [e2] X.env := by rfl) (hpl : (backTo pos (starEach [e2] X.env)).any (·.1) = false := by rfl) :
    PE X (.Call (.Name "min" p) [e, e2] [] pos) (cE X.kx W (aCB bMin2 t)) := a_callB (call_min2 hc) bMin2_ok hg hm (by decide +kernel) ha (he := he) (hpl := hpl)
theorem a_len (hg : Gl X "len") (hm : X.mg "len" = none) (ha : PA X [e] (cA X.kx W t)) (he : starEach [e] X.env = (false, eval e X.env) :: starEach [] X.env := by rfl) : PE X (.Call (.Name "len" p) [e] [] pos) (cE X.kx W (aCB bLen t)) := a_callB call_len bLen_ok hg hm (by decide +kernel) ha (he := he)
theorem a_list (hg : Gl X "list") (hm : X.mg "list" = none) (ha : PA X [e] (cA X.kx W t)) (he : starEach [e] X.env = (false, eval e X.env) :: starEach [] X.env := by rfl) : PE X (.Call (.Name "list" p) [e] [] pos) (cE X.kx W (aCB bList t)) := a_callTy call_list_of bList_ok hg hm (by decide +kernel) ha (he := he)
theorem a_tuple (hg : Gl X "tuple") (hm : X.mg "tuple" = none) (ha : PA X [e] (cA X.kx W t)) (he : starEach [e] X.env = (false, eval e X.env) :: starEach [] X.env := by rfl) : PE X (.Call (.Name "tuple" p) [e] [] pos) (cE X.kx W (aCB bTuple t)) := a_callTy call_tuple_of bTuple_ok hg hm (by decide +kernel) ha (he := he)
theorem a_strc (hg : Gl X "str") (hm : X.mg "str" = none) (ha : PA X [e] (cA X.kx W t)) (he : starEach [e] X.env = (false, eval e X.env) :: starEach [] X.env := by rfl) : PE X (.Call (.Name "str" p) [e] [] pos) (cE X.kx W (aCB bStr t)) := a_callTy call_str_int bStr_ok hg hm (by decide +kernel) ha (he := he)
end

/-! ### truth -/
def truD (d : DV) (L : Led) (q : Bool → Prop) : Prop := match d with
  | .bl b => q b
  | .non => q false
  | .int i => q (i != 0)
  | .str s => s.length ≤ sizeLine ∧ q ((s.length : Int) != 0)
  | .lst ds => q (!ds.isEmpty)
  | .tup ds => q (!ds.isEmpty)
  | .ref a => ∃ ds, L a = some (.lst ds) ∧ q (!ds.isEmpty)
  | _ => False
def aTru (te : AE) : AT := fun ρ L P px => te ρ L (fun d L' => truD d L' fun b => P b L') px
theorem Rps.isEmpty {K : PySem.W.Frag} {I : Hp} {ds : List DV} {vs : List V} (r : Rps K I ds vs) : ds.isEmpty = vs.isEmpty := by cases r <;> rfl
theorem truD_ok {k : Kx} {I F H : Hp} {L : Led} {d : DV} {v : V} {q : Bool → Prop} (A : Ab k I L F H) (r : Rp k.K I d v) (h : truD d L q) : ∃ b, TruV k.K v H b ∧ q b := by
  cases r <;> try exact h.elim
  case non => exact ⟨_, rfl, h⟩
  case bl b => exact ⟨_, rfl, h⟩
  case int b => exact ⟨_, rfl, h⟩
  case str b => exact ⟨_, ⟨h.1, rfl⟩, h.2⟩
  case ref a =>
    obtain ⟨ds, e, h⟩ := h
    obtain ⟨_, _, o, e2, r2⟩ := A.led _ _ e
    cases r2 with
    | lst r => exact ⟨_, .inl ⟨_, SqL.of e2, by rw [r.isEmpty]⟩, h⟩
  case lst a vs ds e r => exact ⟨_, .inl ⟨_, SqL.of (A.imm _ _ e), by rw [r.isEmpty]⟩, h⟩
  case tup a vs ds e r => exact ⟨_, .inr (.inl ⟨_, A.imm.t e, by rw [r.isEmpty]⟩), h⟩
section
variable {X : Cx} {W : WX} {a : Expr} {ta : AE}
theorem t_tru (ha : PE X a (cE X.kx W ta)) (he : ∀ whole, isTrue a X.env whole = (do let v ← whole; standAt a.pos; holding [v] (truthy v)) := by intro _; rfl) : PT X a (cT X.kx W (aTru ta)) :=
  (pt_truth ha he).imp fun σ H Q ⟨I, L, F, ρ, P, px, S, h, q⟩ => ⟨I, L, F, ρ, _, px, S, h, fun d L1 v I1 H1 h1 A1 e1 r1 => by
    obtain ⟨b, hb, h⟩ := truD_ok A1 r1 h1
    exact ⟨b, hb, q _ _ _ _ h A1 e1⟩⟩
end
end AL
namespace AL
open PySem PySem.Spec PyProof.Rows L2

/-! ### attributes -/
theorem lookup_at {f : Str} {v : V} : ∀ {fs : List (Str × V)} {j : Nat}, (fs.map (·.1)).Nodup → (fs.map (·.1))[j]? = some f → (fs.map (·.2))[j]? = some v → fs.lookup f = some v
  | [], j, _, h, _ => by simp at h
  | (g, w) :: fs, 0, _, h1, h2 => by
    simp only [List.map_cons, List.getElem?_cons_zero, Option.some.injEq] at h1 h2
    subst h1; subst h2
    simp [List.lookup_cons]
  | (g, w) :: fs, j + 1, nd, h1, h2 => by
    simp only [List.map_cons, List.getElem?_cons_succ, List.nodup_cons] at h1 h2 nd
    have hm : f ∈ fs.map (·.1) := List.mem_of_getElem? h1
    have hne : f ≠ g := fun e => nd.1 (e ▸ hm)
    rw [List.lookup_cons]
    have : (f == g) = false := by simpa using hne
    rw [this]
    exact lookup_at nd.2 h1 h2
theorem lookup_no {f : Str} : ∀ {fs : List (Str × V)}, f ∉ fs.map (·.1) → fs.lookup f = none
  | [], _ => rfl
  | (g, w) :: fs, h => by
    simp only [List.map_cons, List.mem_cons, not_or] at h
    rw [List.lookup_cons]
    have : (f == g) = false := by simpa using h.1
    rw [this]
    exact lookup_no h.2
theorem putF_new {f : Str} {v : V} : ∀ {fs : List (Str × V)}, f ∉ fs.map (·.1) → putF f v fs = fs ++ [(f, v)]
  | [], _ => rfl
  | (g, w) :: fs, h => by
    simp only [List.map_cons, List.mem_cons, not_or] at h
    unfold putF
    rw [if_neg (fun e => h.1 e.symm), putF_new h.2]
    rfl
theorem putF_old {f : Str} {v : V} : ∀ {fs : List (Str × V)} {j : Nat}, (fs.map (·.1)).Nodup → (fs.map (·.1))[j]? = some f → (putF f v fs).map (·.1) = fs.map (·.1) ∧ (putF f v fs).map (·.2) = (fs.map (·.2)).set j v
  | [], j, _, h => by simp at h
  | (g, w) :: fs, 0, _, h1 => by
    simp only [List.map_cons, List.getElem?_cons_zero, Option.some.injEq] at h1
    subst h1
    unfold putF
    rw [if_pos rfl]
    exact ⟨rfl, rfl⟩
  | (g, w) :: fs, j + 1, nd, h1 => by
    simp only [List.map_cons, List.getElem?_cons_succ, List.nodup_cons] at h1 nd
    have hm : f ∈ fs.map (·.1) := List.mem_of_getElem? h1
    have hne : ¬ g = f := fun e => nd.1 (e ▸ hm)
    unfold putF
    rw [if_neg hne]
    obtain ⟨e1, e2⟩ := putF_old (v := v) nd.2 h1
    simp [e1, e2]
/-- an instance: its class, names, values -/
def withI (L : Led) (x : DV) (q : Addr → List Str → List DV → Prop) : Prop := match x with
  | .ins C ks ds => q C ks ds
  | .ref a => ∃ C dx ks ds, L a = some (.ins C dx ks ds) ∧ q C ks ds
  | _ => False
theorem withI_ok {k : Kx} {I F H : Hp} {L : Led} {x : DV} {xv : V} {q : Addr → List Str → List DV → Prop} (A : Ab k I L F H) (r : Rp k.K I x xv) (h : withI L x q) :
    ∃ a C dx fs ks ds, xv = .ref a ∧ H a = some (.ins C dx fs) ∧ fs.map (·.1) = ks ∧ FOk k.K C ks ∧ Rps k.K I ds (fs.map (·.2)) ∧ q C ks ds := by
  cases r <;> try exact h.elim
  case ref a =>
    obtain ⟨C, dx, ks, ds, e, h⟩ := h
    obtain ⟨_, _, o, e2, r2⟩ := A.led a _ e
    cases r2 with
    | ins q c r => exact ⟨a, C, dx, _, ks, ds, rfl, e2, q, c, r, h⟩
  case ins a C dx fs ks ds e q c r => exact ⟨a, C, dx, fs, ks, ds, rfl, A.imm _ _ e, q, c, r, h⟩
def aFld (f : Str) (j : Nat) (te : AE) : AE := fun ρ L P px => te ρ L (fun x L1 => withI L1 x fun _ ks ds => ks[j]? = some f ∧ ∃ d, ds[j]? = some d ∧ P d L1) px
section
variable {X : Cx} {W : WX} {e : Expr} {te tv : AE} {f : Str} {pos pos' : Pos}
theorem a_fld (j : Nat) (he : PE X e (cE X.kx W te)) (hb : attributeBase e f X.env (eval e X.env) = eval e X.env := by rfl) : PE X (.Attribute e f pos) (cE X.kx W (aFld f j te)) :=
  (pe_fld he hb).imp fun σ H Q ⟨I, L, F, ρ, P, px, S, h, q⟩ => ⟨I, L, F, ρ, _, px, S, h, fun x L1 xv I1 H1 h1 A1 e1 r1 => by
    obtain ⟨a, C, dx, fs, ks, ds, rfl, ha, ek, c, r, hk, d, hd, h⟩ := withI_ok A1 r1 h1
    obtain ⟨v, hv, rv⟩ := r.get hd
    subst ek
    exact ⟨a, C, dx, fs, v, rfl, ha, c.cl, c.no f (List.mem_of_getElem? hk), lookup_at c.nd hk hv, here A1 rv h (q.mono e1)⟩⟩
/-- o.f = value, f new (in __init__, of the class at C) -/
def aFNew (C : Addr) (f : Str) (te tv : AE) : AS := fun AD ρ L => tv ρ L (fun d L1 => te ρ L1 (fun x L2 => match x with
  | .ref a => ∃ dx ks ds, L2 a = some (.ins C dx ks ds) ∧ (!ks.contains f && decide (ks.length < 900)) = true ∧ AD.nx ρ (updL L2 a (.ins C dx (ks ++ [f]) (ds ++ [d])))
  | _ => False) AD.px) AD.px
/-- .. f there, at j -/
def aFUpd (f : Str) (j : Nat) (te tv : AE) : AS := fun AD ρ L => tv ρ L (fun d L1 => te ρ L1 (fun x L2 => match x with
  | .ref a => ∃ C dx ks ds, L2 a = some (.ins C dx ks ds) ∧ ks[j]? = some f ∧ AD.nx ρ (updL L2 a (.ins C dx ks (ds.set j d)))
  | _ => False) AD.px) AD.px
theorem s_fnew {C : Addr} {o value : Expr} (ha : PE X o (cE X.kx W te)) (hv : PE X value (cE X.kx W tv)) (hn : NoAttr X.K C f) (hs : swapsWith value (some (.Attribute o f pos')) pos.line X.env = pure false := by rfl) :
    PS X (.Assign [.Attribute o f pos'] value pos) (cS X.kx W (aFNew C f te tv)) :=
  (ps_fld ha hv hs).imp fun D σ H ⟨I, L, F, ρ, AD, S, h, q⟩ => ⟨I, L, F, ρ, _, AD.px, S, h, fun d L1 v I1 H1 h1 A1 e1 r1 => ⟨I1, L1, F, ρ, _, AD.px, S.go A1 e1, h1, fun x L2 xv I2 H2 h2 A2 e2 r2 => by
    cases r2 <;> try exact h2.elim
    obtain ⟨dx, ks, ds, e, c, h⟩ := h2
    obtain ⟨_, _, ob, e3, r3⟩ := A2.led _ _ e
    cases r3 with
    | @ins _ _ _ _ fs ek cc r =>
    simp only [Bool.and_eq_true, Bool.not_eq_true', decide_eq_true_eq] at c
    have hf : f ∉ ks := by
      intro z
      have := List.contains_iff_mem.mpr z
      rw [this] at c
      exact absurd c.1 (by simp)
    have el : fs.length = ks.length := by rw [← ek, List.length_map]
    refine ⟨_, C, dx, fs, rfl, e3, cc.cl, hn, by omega, ?_⟩
    have ef : f ∉ fs.map (·.1) := by rw [ek]; exact hf
    rw [putF_new ef]
    refine q.nx ρ _ σ I2 _ h (A2.write e (.ins (by rw [List.map_append, ek]; rfl) ⟨cc.cl, cc.ty, fun g hg => ?_, ?_, ?_⟩ (by rw [List.map_append]; exact r.append (.cons (r1.mono e2) .nil)))) (e1.trans e2) (S.rs.mono (e1.trans e2))
    · rcases List.mem_append.mp hg with hg | hg
      · exact cc.no g hg
      · rw [List.mem_singleton.mp hg]; exact hn
    · exact List.nodup_append.mpr ⟨cc.nd, by simp, fun a ha b hb => by rw [List.mem_singleton.mp hb]; rintro rfl; exact hf ha⟩
    · rw [List.length_append]; simp; omega⟩⟩
theorem s_fupd {o value : Expr} (j : Nat) (ha : PE X o (cE X.kx W te)) (hv : PE X value (cE X.kx W tv)) (hs : swapsWith value (some (.Attribute o f pos')) pos.line X.env = pure false := by rfl) :
    PS X (.Assign [.Attribute o f pos'] value pos) (cS X.kx W (aFUpd f j te tv)) :=
  (ps_fld ha hv hs).imp fun D σ H ⟨I, L, F, ρ, AD, S, h, q⟩ => ⟨I, L, F, ρ, _, AD.px, S, h, fun d L1 v I1 H1 h1 A1 e1 r1 => ⟨I1, L1, F, ρ, _, AD.px, S.go A1 e1, h1, fun x L2 xv I2 H2 h2 A2 e2 r2 => by
    cases r2 <;> try exact h2.elim
    obtain ⟨C, dx, ks, ds, e, hk, h⟩ := h2
    obtain ⟨_, _, ob, e3, r3⟩ := A2.led _ _ e
    cases r3 with
    | @ins _ _ _ _ fs ek cc r =>
    have el : fs.length = ks.length := by rw [← ek, List.length_map]
    have hl := cc.few
    subst ek
    obtain ⟨p1, p2⟩ := putF_old (v := v) cc.nd hk
    refine ⟨_, C, dx, fs, rfl, e3, cc.cl, cc.no f (List.mem_of_getElem? hk), by omega, ?_⟩
    exact q.nx ρ _ σ I2 _ h (A2.write e (.ins p1 cc (by rw [p2]; exact Rps.set (r1.mono e2) j r))) (e1.trans e2) (S.rs.mono (e1.trans e2))⟩⟩
end

/-! ### isinstance -/
def withTy (L : Led) (x : DV) (q : Value → Prop) : Prop := match x with
  | .non => q (.type "NoneType")
  | .bl _ => q (.type "bool")
  | .int _ => q (.type "int")
  | .str _ => q (.type "str")
  | .lst _ => q (.type "list")
  | .tup _ => q (.type "tuple")
  | .ins C _ _ => q (.ref C)
  | .ref a => (∃ C dx ks ds, L a = some (.ins C dx ks ds) ∧ q (.ref C)) ∨ (∃ ds, L a = some (.lst ds) ∧ q (.type "list")) ∨ ∃ kvs, L a = some (.dK kvs) ∧ q (.type "dict")
  | _ => False
theorem withTy_ok {k : Kx} {I F H : Hp} {L : Led} {x : DV} {xv : V} {q : Value → Prop} (A : Ab k I L F H) (r : Rp k.K I x xv) (h : withTy L x q) : ∃ t, TyX k.K H xv t ∧ q t := by
  cases r <;> try exact h.elim
  case non => exact ⟨_, .base .non, h⟩
  case bl b => exact ⟨_, .base (.bl b), h⟩
  case int b => exact ⟨_, .base (.int b), h⟩
  case str b => exact ⟨_, .base (.str b), h⟩
  case lst a vs ds e r => exact ⟨_, .base (.lst (A.imm _ _ e)), h⟩
  case tup a vs ds e r =>
    rcases A.imm.t e with (e | ⟨o, e⟩) | ⟨o, its, n, e, hc, _⟩
    · exact ⟨_, .base (.tup e), h⟩
    · exact ⟨_, .fTuple e, h⟩
    · exact ⟨_, .kTuple e hc, h⟩
  case ins a C dx fs ks ds e q c r => exact ⟨_, .base (.ins (A.imm _ _ e) c.cl c.ty.ha c.ty.hn c.ty.htk c.ty.hm), h⟩
  case ref a =>
    rcases h with ⟨C, dx, ks, ds, e, h⟩ | ⟨ds, e, h⟩ | ⟨kvs, e, h⟩
    · obtain ⟨_, _, o, e2, r2⟩ := A.led _ _ e
      cases r2 with
      | ins q c r => exact ⟨_, .base (.ins e2 c.cl c.ty.ha c.ty.hn c.ty.htk c.ty.hm), h⟩
    · obtain ⟨_, _, o, e2, r2⟩ := A.led _ _ e
      cases r2 with
      | lst r => exact ⟨_, .base (.lst e2), h⟩
    · obtain ⟨_, _, o, e2, r2⟩ := A.led _ _ e
      cases r2 with
      | dK q r => exact ⟨_, .base (.dK e2), h⟩
def withCl (c : DV) (q : Value → Prop) : Prop := match c with
  | .ty n => q (.type n)
  | .ref C => q (.ref C)
  | _ => False
def bIsi (K : PySem.W.Frag) : AC := fun ds L P => match ds with
  | [x, c] => withTy L x fun t => withCl c fun u => ∃ b, PySem.W.kitOne K t u = some b ∧ P (.bl b) L
  | _ => False
theorem bIsi_ok {k : Kx} : ACl k (rIsi k.K) (bIsi k.K) := by
  intro I F H L ds vs P Q A r h q
  unfold bIsi at h
  split at h
  · obtain ⟨v, w, rfl, r1, r2⟩ := two_rp r
    obtain ⟨t, ht, h⟩ := withTy_ok A r1 h
    cases r2 <;> try exact h.elim
    case ty n =>
      obtain ⟨b, hb, h⟩ := h
      exact ⟨_, _, _, _, _, rfl, .ty _, ht, hb, here A (.bl _) h q⟩
    case ref C =>
      obtain ⟨b, hb, h⟩ := h
      exact ⟨_, _, _, _, _, rfl, .own _, ht, hb, here A (.bl _) h q⟩
  · exact h.elim
section
variable {X : Cx} {W : WX} {e e2 : Expr} {t : AA} {p pos : Pos}
theorem a_isi (hg : Gl X "isinstance") (hm : X.mg "isinstance" = none) (ha : PA X [e, e2] (cA X.kx W t)) (he : starEach [e, e2] X.env = (false, eval e X.env) :: starEach [e2] X.env := by rfl) (hpl : (backTo pos (starEach [e2] X.env)).any (·.1) = false := by rfl) :
    PE X (.Call (.Name "isinstance" p) [e, e2] [] pos) (cE X.kx W (aCB (bIsi X.K) t)) := a_callB call_isi bIsi_ok hg hm (by decide +kernel) ha (he := he) (hpl := hpl)
end

/-! ### statements -/
def aNext : AS := fun AD ρ L => AD.nx ρ L
def aSeq (t u : AS) : AS := fun AD ρ L => t { AD with nx := fun ρ1 L1 => u AD ρ1 L1 } ρ L
def aBrk : AS := fun AD ρ L => AD.bk ρ L
def aCnt : AS := fun AD ρ L => AD.ct ρ L
def aDrop (te : AE) : AS := fun AD ρ L => te ρ L (fun _ L1 => AD.nx ρ L1) AD.px
def aRet (te : AE) : AS := fun AD ρ L => te ρ L AD.rt AD.px
def aRetN : AS := fun AD _ L => AD.rt .non L
def aIf (c : AT) (t u : AS) : AS := fun AD ρ L => c ρ L (fun b L1 => (b = true → t AD ρ L1) ∧ (b = false → u AD ρ L1)) AD.px
def aSet (i : Nat) (te : AE) : AS := fun AD ρ L => te ρ L (fun d L1 => AD.nx (ρ.set i (some d)) L1) AD.px
/-- the data d are told otherwise from now on -/
def FrzD (k : Kx) (d : DV) (L : Led) (d2 : DV) (L2 : Led) : Prop := ∀ I F H v, Ab k I L F H → Rp k.K I d v → ∃ I2, Ex I I2 ∧ Ab k I2 L2 F H ∧ Rp k.K I2 d2 v
theorem FrzD.refl (k : Kx) (d : DV) (L : Led) : FrzD k d L d L := fun I F H v A r => ⟨I, Ex.refl I, A, r⟩
theorem FrzD.sub {k : Kx} {d : DV} {L L2 : Led} (s : Sub L2 L) : FrzD k d L d L2 := fun I F H v A r => ⟨I, Ex.refl I, A.sub s, r⟩
theorem FrzD.trans {k : Kx} {d1 d2 d3 : DV} {L1 L2 L3 : Led} (a : FrzD k d1 L1 d2 L2) (b : FrzD k d2 L2 d3 L3) : FrzD k d1 L1 d3 L3 := fun I F H v A r => by
  obtain ⟨I2, e2, A2, r2⟩ := a I F H v A r
  obtain ⟨I3, e3, A3, r3⟩ := b I2 F H v A2 r2
  exact ⟨I3, e2.trans e3, A3, r3⟩
theorem FrzD.lst {k : Kx} {a : Addr} {ds : List DV} {L : Led} (h : L a = some (.lst ds)) : FrzD k (.ref a) L (.lst ds) (delL L a) := fun I F H v A r => by
  cases r
  exact A.freeze h
theorem FrzD.ins {k : Kx} {a C dx : Addr} {ks : List Str} {ds : List DV} {L : Led} (h : L a = some (.ins C dx ks ds)) : FrzD k (.ref a) L (.ins C ks ds) (delL L a) := fun I F H v A r => by
  cases r
  exact A.freezeI h
/-- what came is told otherwise -/
def FrzP (k : Kx) (d : DV) (L : Led) (P : PD) : Prop := ∃ d2 L2, FrzD k d L d2 L2 ∧ P d2 L2
theorem FrzP.ok {k : Kx} {I F H : Hp} {L : Led} {d : DV} {v : V} {P : PD} {Q : VK} (A : Ab k I L F H) (r : Rp k.K I d v) (h : FrzP k d L P) (q : Q2 k I F P Q) : Q v H := by
  obtain ⟨d2, L2, z, h⟩ := h
  obtain ⟨I2, e2, A2, r2⟩ := z I F H v A r
  exact q _ _ _ _ _ h A2 e2 r2
def aFrz (k : Kx) (te : AE) : AE := fun ρ L P px => te ρ L (fun d L1 => FrzP k d L1 P) px
/-- the slots are told otherwise -/
def FrzS (k : Kx) (ρ : Sl) (L : Led) (ρ2 : Sl) (L2 : Led) : Prop := ∀ I F H σ, Ab k I L F H → RpS k.K I ρ σ → ∃ I2, Ex I I2 ∧ Ab k I2 L2 F H ∧ RpS k.K I2 ρ2 σ
theorem FrzS.refl (k : Kx) (ρ : Sl) (L : Led) : FrzS k ρ L ρ L := fun I F H σ A r => ⟨I, Ex.refl I, A, r⟩
theorem FrzS.sub {k : Kx} {ρ : Sl} {L L2 : Led} (s : Sub L2 L) : FrzS k ρ L ρ L2 := fun I F H σ A r => ⟨I, Ex.refl I, A.sub s, r⟩
theorem FrzS.trans {k : Kx} {d1 d2 d3 : Sl} {L1 L2 L3 : Led} (a : FrzS k d1 L1 d2 L2) (b : FrzS k d2 L2 d3 L3) : FrzS k d1 L1 d3 L3 := fun I F H v A r => by
  obtain ⟨I2, e2, A2, r2⟩ := a I F H v A r
  obtain ⟨I3, e3, A3, r3⟩ := b I2 F H v A2 r2
  exact ⟨I3, e2.trans e3, A3, r3⟩
theorem FrzS.lst {k : Kx} {a : Addr} {ds : List DV} {L : Led} {ρ : Sl} {i : Nat} (q : ρ[i]? = some (some (.ref a))) (h : L a = some (.lst ds)) : FrzS k ρ L (ρ.set i (some (.lst ds))) (delL L a) := fun I F H σ A r => by
  obtain ⟨I2, e2, A2, r2⟩ := A.freeze h
  refine ⟨I2, e2, A2, (r.mono e2).re q fun v z => ?_⟩
  cases z
  exact r2
theorem FrzS.forget {k : Kx} {L : Led} {ρ : Sl} (i : Nat) : FrzS k ρ L (ρ.set i none) L := fun I F H σ A r => by
  refine ⟨I, Ex.refl I, A, by rw [List.length_set]; exact r.1, fun j d q => ?_⟩
  by_cases hj : j = i
  · subst hj
    by_cases hl : j < ρ.length
    · rw [List.getElem?_set_self hl] at q; cases q
    · rw [List.getElem?_eq_none (by rw [List.length_set]; omega)] at q; cases q
  · rw [List.getElem?_set_ne (Ne.symm hj)] at q
    exact r.2 j d q
def aGh (k : Kx) (u : AS) : AS := fun AD ρ L => ∃ ρ2 L2, FrzS k ρ L ρ2 L2 ∧ u AD ρ2 L2
section
variable {X : Cx} {W : WX} {e : Expr} {te : AE} {t u : AS} {st : Stmt} {rest body orelse : List Stmt} {pos pos' : Pos} {c : Expr} {tc : AT}
theorem a_frz (h : PE X e (cE X.kx W te)) : PE X e (cE X.kx W (aFrz X.kx te)) := h.imp fun σ H Q ⟨I, L, F, ρ, P, px, S, h, q⟩ => ⟨I, L, F, ρ, _, px, S, h, fun d L1 v I1 H1 h1 A1 e1 r1 => h1.ok A1 r1 (q.mono e1)⟩
theorem b_gh (h : PSs X rest (cS X.kx W u)) : PSs X rest (cS X.kx W (aGh X.kx u)) := h.imp fun D σ H ⟨I, L, F, ρ, AD, S, ⟨ρ2, L2, z, h⟩, q⟩ => by
  obtain ⟨I2, e2, A2, r2⟩ := z I F H σ S.ab S.rs
  exact ⟨I2, L2, F, ρ2, AD, S.go2 A2 e2 r2, h, q.mono e2⟩
theorem b_nil : PSs X [] (cS X.kx W aNext) := pss_nil.imp fun D σ H ⟨I, L, F, ρ, AD, S, h, q⟩ => q.nx _ _ _ _ _ h S.ab (Ex.refl _) S.rs
theorem b_cons (h1 : PS X st (cS X.kx W t)) (h2 : PSs X rest (cS X.kx W u)) : PSs X (st :: rest) (cS X.kx W (aSeq t u)) :=
  (pss_cons h1 h2).imp fun D σ H ⟨I, L, F, ρ, AD, S, h, q⟩ => ⟨I, L, F, ρ, { AD with nx := fun ρ1 L1 => u AD ρ1 L1 }, ⟨S.ab, S.rs, S.xx⟩, h, ⟨fun ρ' L' σ' I' H' h' A' e' r' => ⟨I', L', F, ρ', AD, S.go2 A' e' r', h', q.mono e'⟩, q.rt, q.bk, q.ct⟩⟩
theorem b_one (h1 : PS X st (cS X.kx W t)) : PSs X [st] (cS X.kx W t) := pss_one h1
theorem s_pass : PS X (.Pass pos) (cS X.kx W aNext) := ps_pass.imp fun D σ H ⟨I, L, F, ρ, AD, S, h, q⟩ => q.nx _ _ _ _ _ h S.ab (Ex.refl _) S.rs
theorem s_break : PS X (.Break pos) (cS X.kx W aBrk) := ps_break.imp fun D σ H ⟨I, L, F, ρ, AD, S, h, q⟩ => q.bk _ _ _ _ _ h S.ab (Ex.refl _) S.rs
theorem s_continue : PS X (.Continue pos) (cS X.kx W aCnt) := ps_continue.imp fun D σ H ⟨I, L, F, ρ, AD, S, h, q⟩ => q.ct _ _ _ _ _ h S.ab (Ex.refl _) S.rs
theorem s_expr (he : PE X e (cE X.kx W te)) (hs : swapsWith e none pos.line X.env = pure false := by rfl) : PS X (.Expr e pos) (cS X.kx W (aDrop te)) :=
  (ps_expr he hs).imp fun D σ H ⟨I, L, F, ρ, AD, S, h, q⟩ => ⟨I, L, F, ρ, _, AD.px, S, h, fun d L1 v I1 H1 h1 A1 e1 r1 => q.nx _ _ _ _ _ h1 A1 e1 (S.rs.mono e1)⟩
theorem s_ret (he : PE X e (cE X.kx W te)) : PS X (.Return (some e) pos) (cS X.kx W (aRet te)) :=
  (ps_ret he).imp fun D σ H ⟨I, L, F, ρ, AD, S, h, q⟩ => ⟨I, L, F, ρ, _, AD.px, S, h, q.rt⟩
theorem s_retN : PS X (.Return none pos) (cS X.kx W aRetN) := ps_retN.imp fun D σ H ⟨I, L, F, ρ, AD, S, h, q⟩ => q.rt _ _ _ _ _ h S.ab (Ex.refl _) .non
theorem s_if (hc : PT X c (cT X.kx W tc)) (ha : PSs X body (cS X.kx W t)) (hb : PSs X orelse (cS X.kx W u)) : PS X (.If c body orelse pos) (cS X.kx W (aIf tc t u)) :=
  (ps_if hc ha hb).imp fun D σ H ⟨I, L, F, ρ, AD, S, h, q⟩ => ⟨I, L, F, ρ, _, AD.px, S, h, fun b L1 I1 H1 h1 A1 e1 => by
    cases b with
    | true => exact iteT ⟨I1, L1, F, ρ, AD, S.go A1 e1, h1.1 rfl, q.mono e1⟩
    | false => exact iteF ⟨I1, L1, F, ρ, AD, S.go A1 e1, h1.2 rfl, q.mono e1⟩⟩
theorem s_set {i : Nat} {x : Str} (hN : X.N.Nodup) (he : PE X e (cE X.kx W te)) (hi : X.N[i]? = some x := by rfl) (hx : Loc X.env.scope x := by first | exact Or.inl rfl | exact Or.inr rfl) (hs : swapsWith e (some (.Name x pos')) pos.line X.env = pure false := by rfl)
    (hf : X.fn x = true ∨ X.env.scope.names.lookup x = some .local := by first | exact .inl rfl | exact .inr rfl | assumption) : PS X (.Assign [.Name x pos'] e pos) (cS X.kx W (aSet i te)) :=
  (ps_set hN hi hx he hs hf).imp fun D σ H ⟨I, L, F, ρ, AD, S, h, q⟩ => ⟨I, L, F, ρ, _, AD.px, S, h, fun d L1 v I1 H1 h1 A1 e1 r1 => q.nx _ _ _ _ _ h1 A1 e1 ((S.rs.mono e1).set r1 i)⟩
/-- xs[i] = e -/
def oSetL (x y : DV) (d : DV) (L : Led) (q : Led → Prop) : Prop := match x, y with
  | .ref a, .int i => ∃ ds j, L a = some (.lst ds) ∧ ixN ds.length i = some j ∧ q (updL L a (.lst (ds.set j d)))
  | _, _ => False
def aSetIx (to ti tv : AE) : AS := fun AD ρ L => tv ρ L (fun d L1 => to ρ L1 (fun x L2 => ti ρ L2 (fun y L3 => oSetL x y d L3 (AD.nx ρ)) AD.px) AD.px) AD.px
theorem s_setIx {o i v : Expr} {to ti tv : AE} {p2 : Pos} (ho : PE X o (cE X.kx W to)) (hi : PE X i (cE X.kx W ti)) (hv : PE X v (cE X.kx W tv))
    (ha : ∀ w, assign (.Subscript o i p2) X.env w = (do
      let ov ← holding [w] (eval o X.env)
      let iv ← holding [w, ov] (eval i X.env)
      standAt p2
      holding [w, ov, iv] (setItem ov iv w)
      release [w, ov, iv] []) := by intro _; rfl) (hs : swapsWithSole [.Subscript o i p2] v pos.line X.env = pure false := by rfl) (hw : swappedStores [.Subscript o i p2] v X.env = pure none := by rfl)
    (h1 : (assignEach [.Subscript o i p2] X.env).map (·.2) = [assign (.Subscript o i p2) X.env] := by rfl) : PS X (.Assign [.Subscript o i p2] v pos) (cS X.kx W (aSetIx to ti tv)) :=
  (ps_asg hv (pg_sub ho hi set_list ha) hs hw h1).imp fun D σ H ⟨I, L, F, ρ, AD, S, h, q⟩ => ⟨I, L, F, ρ, _, AD.px, S, h, fun d L1 v I1 H1 h1 A1 e1 r1 => ⟨I1, L1, F, ρ, _, AD.px, S.go A1 e1, h1, fun x L2 xv I2 H2 h2 A2 e2 r2 => ⟨I2, L2, F, ρ, _, AD.px, S.go A2 (e1.trans e2), h2, fun y L3 yv I3 H3 h3 A3 e3 r3 => by
    unfold oSetL at h3
    split at h3
    · cases r2; cases r3
      obtain ⟨ds, j, e, hj, h3⟩ := h3
      obtain ⟨_, _, ob, e4, r4⟩ := A3.led _ _ e
      cases r4 with
      | lst r =>
      rw [r.length] at hj
      exact ⟨_, _, _, j, rfl, rfl, e4, hj, q.nx _ _ _ _ _ h3 (A3.write e (.lst (Rps.set (r1.mono (e2.trans e3)) j r))) ((e1.trans e2).trans e3) (S.rs.mono ((e1.trans e2).trans e3))⟩
    · exact h3.elim⟩⟩⟩
end
end AL
namespace AL
open PySem PySem.Spec PyProof.Rows L2

/-! ### promises over data and the ledger -/
/-- arguments, ledger; what is wanted of the value and ledger behind; of an exception's class and ledger -/
abbrev ASp := List DV → Led → PD → (Addr → Led → Prop) → Prop
def liftSp (k : Kx) (asp : ASp) : Sp := fun vs H Q E => ∃ ds I L F P R, Ab k I L F H ∧ Rps k.K I ds vs ∧ asp ds L P R ∧ Q2 k I F P Q ∧ ∀ c L' I' H', R c L' → Ab k I' L' F H' → Ex I I' → E (.ref c) none H'
/-- the slots at a def's entry -/
def startA (n : Nat) (ds : List DV) : Sl := ds.map some ++ List.replicate (n - ds.length) none
theorem startA_rp {K : PySem.W.Frag} {I : Hp} {N : List Str} {ds : List DV} {vs : List V} (r : Rps K I ds vs) : RpS K I (startA N.length ds) (L2.start N vs) := by
  unfold startA L2.start
  refine ⟨by simp [r.length], fun i d h => ?_⟩
  by_cases hi : i < ds.length
  · rw [List.getElem?_append_left (by simpa using hi), List.getElem?_map] at h
    cases e : ds[i]? with
    | none => rw [e] at h; cases h
    | some d0 =>
      rw [e] at h
      cases h
      obtain ⟨v, h1, h2⟩ := r.get e
      refine ⟨v, ?_, h2⟩
      rw [List.getElem?_append_left (by rw [List.length_map, ← r.length]; exact hi), List.getElem?_map, h1]
      rfl
  · rw [List.getElem?_append_right (by simpa using Nat.le_of_not_lt hi), List.getElem?_replicate] at h
    split at h <;> cases h
/-! ### room, measured finely: one step of depth a call -/
structure Room (k : Nat) (A : Around) : Prop where
  hd : A.handled = none
  dp : A.depth + k + 17 < recursionLimit
  un : A.units + 4 * k + 300 < cLine
section
variable {j k : Nat} {A : Around}
theorem Room.mono (r : Room k A) (h : j ≤ k) : Room j A :=
  ⟨r.hd, by have := r.dp; omega, by have := r.un; omega⟩
theorem Room.deeper (r : Room (k + 1) A) (env : Env) : Room k (A.deeper env) := by
  refine ⟨r.hd, ?_, ?_⟩
  · have := r.dp
    show A.depth + 1 + k + 17 < _
    omega
  · have := r.un
    show A.units + 3 + 4 * k + 300 < _
    omega
theorem Room.in1 (r : Room (k + 1) A) : Room k A.in1 := by
  refine ⟨r.hd, ?_, ?_⟩
  · have := r.dp
    show A.depth + k + 17 < _
    omega
  · have := r.un
    show A.units + 1 + 4 * k + 300 < _
    omega
theorem Room.make (r : Room (k + 1) A) (C : Addr) (us : List Value) (kw : List (Str × Value)) : Room k (A.under (.builtin "type.__call__" ⟨.ref C :: us, kw⟩)) := by
  refine ⟨r.hd, ?_, ?_⟩
  · have := r.dp
    rw [make_depth]
    omega
  · have := r.un
    rw [make_units]
    omega
theorem Room.depth (r : Room k A) : A.depth < recursionLimit := by
  have := r.dp
  omega
theorem Room.old (r : Room k A) : L2.Room 0 A :=
  ⟨r.hd, by have := r.dp; omega, by have := r.un; omega⟩
theorem Room.units (r : Room k A) : A.units + 64 < cLine := by
  have := r.un
  omega
end
structure FnOk (P : Program) (w : World) (K : PySem.W.Frag) (mg : Str → Option Value) (base : Heap) (CX : CXT) (k : Nat) (f : Addr) (fd : FuncData) (ps : List Str) (sp : Sp) : Prop where
  len : ∀ vs H Q E, sp vs H Q E → vs.length = ps.length
  run : ∀ (A : Around) (outer : List Env) (s : Shared) (H : Hp) (args : Args) (us : List Value) (vs : List V) (Q : VK) (E : XK), Room k A →
    Env0 P w K mg base A outer s H → BindsTo s fd args (ps.zip us) → Vals vs us → sp vs H Q E →
      codeAny (model P w) A (.call (.ref f) args) (CR CX outer P w H s Q E) s
section
variable {P : Program} {w : World} {K : PySem.W.Frag} {mg : Str → Option Value} {base : Heap} {CX : CXT} {j k : Nat} {f : Addr} {fd : FuncData} {N ps : List Str} {sp : Sp} {name qual : Str} {params : Arguments} {body : List Stmt} {scope : Scope} {dV kV doc pm cdv ct oc : Value} {an od : Option Addr} {osl : Array (Option Value)}
/-- .. as the hand layer measures it -/
theorem FnOk.kit (F : FnOk P w K mg base CX j f fd ps sp) (h1 : j + 12 ≤ 3 * k) (h2 : 4 * j + 100 ≤ 16 * k) : L2.FnOk P w K mg base CX k f fd ps sp :=
  ⟨F.len, fun A outer s H args us vs Q E r => F.run A outer s H args us vs Q E ⟨r.hd, by have := r.dp; omega, by have := r.un; omega⟩⟩
theorem fn_ofF (lk : K.lookup f = some ⟨oc, od, .func (PySem.W.fnOf name qual params body scope dV kV doc pm an cdv ct), osl⟩) (hcd : PySem.W.codeIn K cdv qual = true) (S : FnScope N ps scope) (len : ∀ vs H Q E, sp vs H Q E → vs.length = ps.length)
    (hb0 : ∀ (A : Around) (outer : List Env) (s : Shared) (H : Hp) (vs : List V) (Q : VK) (E : XK), Room k (A.deeper (envOfC qual scope s.heap.objs.size f cdv)) → sp vs H Q E → ∃ t, PSs (cxOf CX P w K mg base N qual scope f cdv A outer s H E) body t ∧ t { nx := fun _ H' => Q .non H', rt := Q } (start N vs) H) :
    FnOk P w K mg base CX (k + 1) f (PySem.W.fnOf name qual params body scope dV kV doc pm an cdv ct) ps sp where
  len := len
  run := fun A outer s H args us vs Q E room env0 bd rv want => by
    have old : ∀ b o, base.get? b = some o → s.heap.get? b = some o := fun b o e => (env0.bs b o e).1
    have KIn : K.In s.heap := env0.mod.kin.keeps old
    have nol : s.heap.NoLimit := env0.mod.nolimit.keeps old
    have kinds : ∀ y ∈ ps.zip us, scope.names.lookup y.1 = some .local ∨ (scope.names.lookup y.1 = some .cell ∧ ((cellsFrom (s.heap.objs.size + 1) scope.names []).lookup y.1).isSome = true) := by
      rintro ⟨n, v⟩ hy
      exact (S.par n (List.of_mem_zip hy).1).imp id fun q => ⟨q, PySem.W.cellsFrom_some _ _ _ (.inl q)⟩
    refine codeAny_call_function room.depth (KIn _ _ lk) rfl S.co S.gen rfl (PySem.W.codeRec_of KIn hcd) (bd _ _ _ _ (wpAny_newFunctionEnv_cells S.kind kinds fun env he s1 x => ?_))
    subst he
    obtain ⟨t, ht, hq⟩ := hb0 A outer s H vs Q E (room.deeper _) want
    have inv : Inv (cxOf CX P w K mg base N qual scope f cdv A outer s H E) [] (start N vs) H s1 := inv_start S room.hd env0 (len _ _ _ _ want) rv x
    refine ⟨nol.keeps x.toInCall.keep, codeAny_func (wpAny_mono (ht.run [] s1 (start N vs) H _ inv hq) (fun fl s' hs => ?_) fun e s' z => z)⟩
    cases fl with
    | ret u => exact let ⟨v, _, H', J, rel, q⟩ := hs; ⟨v, H', J.os, J.bare, J.base, J.hok, rel, q⟩
    | next => exact let ⟨_, H', J, q⟩ := hs; ⟨V.non, H', J.os, J.bare, J.base, J.hok, rfl, q⟩
    | brk => exact let ⟨_, _, _, q⟩ := hs; q.elim
    | cont => exact let ⟨_, _, _, q⟩ := hs; q.elim
end
theorem okXF {P : Program} {w : World} {K : PySem.W.Frag} {mg : Str → Option Value} {base : Heap} {x qual : Str} {st : Stmt} {f : Addr} {fd : FuncData} {N ps : List Str} {k : Nat} {sp : Sp} (F : Fun K x qual st f fd) (S : FnScope N ps (defScope st)) (len : ∀ vs H Q E, sp vs H Q E → vs.length = ps.length)
    (h : ∀ (cdv : Value) (A : Around) (outer : List Env) (s : Shared) (H : Hp) (vs : List V) (Q : VK) (E : XK), Room k (A.deeper (envOfC qual (defScope st) s.heap.objs.size f cdv)) → sp vs H Q E → ∃ t, PSs (cxOf (L2N.CX P w) P w K mg base N qual (defScope st) f cdv A outer s H E) (defBody st) t ∧ t { nx := fun _ H' => Q .non H', rt := Q } (start N vs) H) :
    FnOk P w K mg base (L2N.CX P w) (k + 1) f fd ps sp := by
  obtain ⟨_, _, _, _, _, _, cdv, _, _, rfl, l1, l2⟩ := F.ex
  exact fn_ofF l1 l2 S len (h cdv)
/-- a def by its body's derivation and its reading -/
theorem fun_ok {P : Program} {w : World} {K : PySem.W.Frag} {mg : Str → Option Value} {base : Heap} {x qual : Str} {st : Stmt} {f : Addr} {fd : FuncData} {N ps : List Str} {k : Nat} {asp : ASp} {tb : AS} (F : Fun K x qual st f fd) (S : FnScope N ps (defScope st))
    (len : ∀ ds L P R, asp ds L P R → ds.length = ps.length)
    (der : ∀ (cdv : Value) (A : Around) (outer : List Env) (s : Shared) (H : Hp) (E : XK), Room k (A.deeper (envOfC qual (defScope st) s.heap.objs.size f cdv)) →
      PSs (cxOf (L2N.CX P w) P w K mg base N qual (defScope st) f cdv A outer s H E) (defBody st) (cS ⟨P, w, K⟩ (fun cls d _ H => E cls d H) tb))
    (read : ∀ ds L P R, asp ds L P R → tb ⟨fun _ L => P .non L, P, fun _ _ => False, fun _ _ => False, fun c _ L => R c L⟩ (startA N.length ds) L) : FnOk P w K mg base (L2N.CX P w) (k + 1) f fd ps (liftSp ⟨P, w, K⟩ asp) := by
  refine okXF F S (fun vs H Q E ⟨ds, I, L, F, P, R, A, r, h, _, _⟩ => by rw [← r.length]; exact len ds L P R h) (fun cdv A outer s H vs Q E hr h => ?_)
  obtain ⟨ds, I, L, F0, P0, R, Ab0, r, h, q, qx⟩ := h
  refine ⟨_, der cdv A outer s H E hr, ⟨I, L, F0, _, _, ⟨Ab0, startA_rp r, fun c ρ' σ' L' I' H' h' A' e' _ => qx c L' I' H' h' A' e'⟩, read ds L P0 R h, ⟨fun ρ' L' σ' I' H' h' A' e' _ => q _ _ _ _ _ h' A' e' .non, q, fun _ _ _ _ _ z => z.elim, fun _ _ _ _ _ z => z.elim⟩⟩⟩

/-! ### calls -/
/-- arguments ahead of a call of g -/
def GoArgs (X : Cx) (es : List Expr) (t : TA) : Prop := ∀ (pos : Pos) (g : Addr) (first : List Value) (pins : List (Addr × Obj)) (s : Shared) (σ : L2.St) (H : Hp) (Q : Value → Shared → Prop), PySem.W.keepIn X.K (.ref g) = true → Inv X pins σ H s →
  t σ H (fun vs H1 => ∀ s1 us, Inv X pins σ H1 s1 → Vals vs us → wpAny (model X.prog X.w) X.A (call (.ref g) (first ++ us)) Q X.xe s1) →
  wpAny (model X.prog X.w) X.A (callWith pos (.ref g) first (backTo pos (starEach es X.env)) []) Q X.xe s
section
variable {X : Cx} {W : WX} {e o : Expr} {es : List Expr} {t : AA} {te : AE}
theorem args0 : GoArgs X [] (cA X.kx W aNil) := fun pos g first pins s σ H Q hk I h => by
  obtain ⟨I0, L, F, ρ, P, px, S, h, q⟩ := h
  exact PySem.W.callWith_K0 I.kIn hk (q _ _ _ _ _ h S.ab (Ex.refl _) .nil s [] I .nil)
theorem args1 (ha : PA X (e :: es) (cA X.kx W t)) (he : starEach (e :: es) X.env = (false, eval e X.env) :: starEach es X.env := by rfl) (hpl : ∀ pos, (backTo pos (starEach es X.env)).any (·.1) = false := by intro _; rfl) : GoArgs X (e :: es) (cA X.kx W t) := fun pos g first pins s σ H Q hk I h =>
  PySem.W.callWith_K (h₀ := X.base) I.ok.mod.kin hk (thn (ha.run pos pins s σ H _ I h) fun us s1 ⟨vs, H1, I1, r, q⟩ => ⟨I1.kIn, q s1 us I1 r⟩) he (hpl pos)

variable {k : Nat} {f C : Addr} {fd : FuncData} {ps : List Str} {asp : ASp} {x m : Str} {p pos apos : Pos} {ds0 : List Value} {dvs : List V} {dds : List DV}
theorem goes {pins : List (Addr × Obj)} {σ : L2.St} {H : Hp} {s : Shared} {Q : VK} {us : List Value} {vs : List V} {sp : Sp} {E : XK} (F : FnOk X.prog X.w X.K X.mg X.base (L2N.CX X.prog X.w) k f fd ps sp) (hr : Room k X.A) (hb : Binds X.K fd ps ds0) (hd : Vals dvs ds0)
    (hx : PassesAt (L2N.CX X.prog X.w) X σ E) (I : Inv X pins σ H s) (r : Vals vs us) (h : sp (vs ++ dvs) H Q E) : wpAny (model X.prog X.w) X.A (call (.ref f) us) (EP X pins σ Q) X.xe s :=
  wpAny_call (codeAny_mono (F.run X.A X.stack s H ⟨us, []⟩ (us ++ ds0) (vs ++ dvs) Q E hr I.env0 (hb s us I.kIn (by rw [← (r.append hd).length]; exact F.len _ _ _ _ h)) (r.append hd) h) fun r s' hq => match r, hq with
    | .error e, hq => hx pins H s e s' I hq
    | .ok (.ret u), hq => I.after hq
    | .ok .next, hq => hq.elim
    | .ok .brk, hq => hq.elim
    | .ok .cont, hq => hq.elim)
/-- the promise asked at the caller's state -/
theorem lift_at {k : Kx} {σ : L2.St} {H I : Hp} {L : Led} {F : Hp} {ρ : Sl} {px : PX} {P : PD} {Q : VK} {ds : List DV} {vs : List V} (S : Stt k W σ H I L F ρ px) (r : Rps k.K I ds vs) (h : asp ds L P fun c L' => px c ρ L') (q : Q2 k I F P Q) :
    liftSp k asp vs H Q (fun cls d H' => W cls d σ H') := ⟨ds, I, L, F, P, _, S.ab, r, h, q, fun c L' I' H' h' A' e' => S.xx c ρ σ L' I' H' h' A' e' (S.rs.mono e')⟩
def aCall (asp : ASp) (dds : List DV) (t : AA) : AE := fun ρ L P px => t ρ L (fun ds L1 => asp (ds ++ dds) L1 P fun c L' => px c ρ L') px
theorem a_call (F : FnOk X.prog X.w X.K X.mg X.base (L2N.CX X.prog X.w) k f fd ps (liftSp X.kx asp)) (hr : Room k X.A) (hg : Gl X x) (hm : X.mg x = some (.ref f)) (hk : PySem.W.keepIn X.K (.ref f) = true) (hb : Binds X.K fd ps ds0) (hd : Vals dvs ds0) (hdd : ∀ I, Rps X.K I dds dvs) (tk : L2N.Takes X W) (ga : GoArgs X es (cA X.kx W t))
    (hdb : (x == ("__debug__" : Str)) = false := by decide) : PE X (.Call (.Name x p) es [] pos) (cE X.kx W (aCall asp dds t)) := by
  refine ⟨fun pins s σ H Q I h => ?_⟩
  obtain ⟨I0, L, F0, ρ, P, px, S, h, q⟩ := h
  refine wpAny_Call_Name_kw (ld_glob I hg hm ?_ hdb)
  refine ga pos f [] pins s σ H _ hk I ⟨I0, L, F0, ρ, _, px, S, h, fun ds L1 vs I1 H1 h1 A1 e1 r1 s1 us J r => ?_⟩
  exact goes F hr hb hd (L2N.passAt tk σ) J r (lift_at (S.go A1 e1) (r1.append (hdd _)) h1 (q.mono e1))

def isC (L : Led) (x : DV) (C : Addr) (q : Prop) : Prop := match x with
  | .ins D _ _ => D = C ∧ q
  | .ref a => ∃ dx ks ds, L a = some (.ins C dx ks ds) ∧ q
  | _ => False
theorem isC_ok {k : Kx} {I F H : Hp} {L : Led} {x : DV} {xv : V} {q : Prop} (A : Ab k I L F H) (r : Rp k.K I x xv) (h : isC L x C q) : ∃ a dx fs, xv = .ref a ∧ H a = some (.ins C dx fs) ∧ FOk k.K C (fs.map (·.1)) ∧ q := by
  cases r <;> try exact h.elim
  case ref a =>
    obtain ⟨dx, ks, ds, e, h⟩ := h
    obtain ⟨_, _, o, e2, r2⟩ := A.led a _ e
    cases r2 with
    | ins q c r => subst q; exact ⟨a, dx, _, rfl, e2, c, h⟩
  case ins a D dx fs ks ds e q c r =>
    obtain ⟨rfl, h⟩ := h
    subst q
    exact ⟨a, dx, fs, rfl, A.imm _ _ e, c, h⟩
theorem meth_no {K : PySem.W.Frag} {fs : List (Str × V)} (c : FOk K C (fs.map (·.1))) (hm : Meth K C m f) : fs.lookup m = none := by
  refine lookup_no fun z => ?_
  have h1 : PySem.W.findIn K (.ref C) m = some none := c.no m z
  rw [hm.at_] at h1
  cases h1
/-- o.m(..) -/
def aMeth (C : Addr) (asp : ASp) (dds : List DV) (te : AE) (t : AA) : AE := fun ρ L P px => te ρ L (fun x L1 => isC L1 x C (t ρ L1 (fun ds L2 => asp (x :: (ds ++ dds)) L2 P fun c L' => px c ρ L') px)) px
theorem a_meth {pl : Sem Bool} (he : PE X o (cE X.kx W te)) (c : Cls X.K C) (hm : Meth X.K C m f) (F : FnOk X.prog X.w X.K X.mg X.base (L2N.CX X.prog X.w) k f fd ps (liftSp X.kx asp)) (hr : Room k X.A) (hb : Binds X.K fd ps ds0) (hd : Vals dvs ds0) (hdd : ∀ I, Rps X.K I dds dvs) (tk : L2N.Takes X W) (ga : GoArgs X es (cA X.kx W t))
    (ht : eval (.Call (.Attribute o m apos) es [] pos) X.env = (do
      let ov ← eval o X.env
      standAt apos.atName
      let (f, first) ← holding [ov] (getMethod ov m pl)
      callWith pos f first (backTo pos (starEach es X.env)) (backToKw pos (keywordEach [] X.env))) := by rfl) : PE X (.Call (.Attribute o m apos) es [] pos) (cE X.kx W (aMeth C asp dds te t)) := by
  refine ⟨fun pins s σ H Q I h => ?_⟩
  obtain ⟨I0, L, F0, ρ, P, px, S, h, q⟩ := h
  refine methcall_of he I ⟨I0, L, F0, ρ, _, px, S, h, fun xd L1 xv I1 H1 h1 A1 e1 r1 => ?_⟩ ht
  obtain ⟨a, dx, fs, rfl, ha, cc, h1⟩ := isC_ok A1 r1 h1
  refine ⟨a, C, dx, fs, f, rfl, ha, c, hm, meth_no cc hm, fun s1 J => ?_⟩
  refine ga pos f [.ref a] pins s1 σ H1 _ hm.kp J ⟨I1, L1, F0, ρ, _, px, S.go A1 e1, h1, fun ds L2 vs I2 H2 h2 A2 e2 r2 s2 us J2 r => ?_⟩
  exact goes (us := .ref a :: us) (vs := .ref a :: vs) F hr hb hd (L2N.passAt tk σ) J2 (.cons rfl r) (lift_at (S.go A2 (e1.trans e2)) (.cons (r1.mono e2) (r2.append (hdd _))) h2 (q.mono (e1.trans e2)))
/-- o.p, a property -/
def aProp (C : Addr) (asp : ASp) (te : AE) : AE := fun ρ L P px => te ρ L (fun x L1 => isC L1 x C (asp [x] L1 P fun _ _ => False)) px
theorem passN {X : Cx} : Passes (L2N.CX X.prog X.w) X.nox (fun _ _ _ => False) := fun _ _ _ _ _ _ _ h => by
  obtain ⟨_, _, _, _, _, _, _, _, _, _, _, _, z⟩ := h
  exact z
theorem getpropF {pins : List (Addr × Obj)} {σ : L2.St} {H : Hp} {s : Shared} {Q : VK} {b : Bool} {E' : Value → Shared → Prop} {a dx g pa : Addr} {fs : List (Str × V)} {sp : Sp} {E : XK} (I : Inv X pins σ H s) (ea : H a = some (.ins C dx fs)) (c : Cls X.K C) (hp : PropOf X.K C m pa g) (F : FnOk X.prog X.w X.K X.mg X.base (L2N.CX X.prog X.w) k g fd ps sp) (hr : Room (k + 1) X.A) (hb : Binds X.K fd ps []) (hx : Passes (L2N.CX X.prog X.w) X.nox E) (h : sp [.ref a] H Q E) :
    wpAny (model X.prog X.w) X.A (getAttr (.ref a) m b) (EP X pins σ Q) E' s := by
  obtain ⟨_, O, _⟩ := ins_get I.hok ea
  obtain ⟨_, J, _⟩ := O.look
  obtain ⟨_, hrec⟩ := hp.rec_
  have I1 := I.tok (s.toks + 1)
  have hl : [Value.ref a].length = ps.length := F.len _ _ _ _ h
  have hc : (PySem.W.clsIn X.K C).isSome = true := let ⟨_, e, _⟩ := PySem.W.any_some c.hd; by rw [e]; rfl
  have pg := PySem.W.plainGet_of (c.get m)
  refine PySem.W.get_bind I.kIn J pg.1 (PySem.W.findObj_data hc hp.at_ hp.get hp.tak) pg.2 (wpAny_call (PySem.W.prop_get (s := { s with toks := s.toks + 1 }) I.kIn hrec (codeAny_mono (F.run X.A.in1 X.stack { s with toks := s.toks + 1 } H ⟨[.ref a], []⟩ [.ref a] [.ref a] Q E hr.in1 I1.env0.in1 (hb _ [.ref a] I1.kIn hl) (.cons rfl .nil) h) fun r s' hq => ?_)))
  cases r with
  | error er => exact (hx pins σ H _ er s' (I1.wish _) hq).elim
  | ok fl =>
    cases fl with
    | ret u =>
      obtain ⟨v, H', I3, rv, q3⟩ := I1.after hq
      show wpAny _ _ (handedOut u) _ _ _
      rw [PySem.W.handedOut_of (handed_of rv)]
      exact wpAny_pure ⟨v, H', I3, rv, q3⟩
    | next => exact hq.elim
    | brk => exact hq.elim
    | cont => exact hq.elim
theorem pe_propF {pa g : Addr} {ta : TE} {sp : Sp} {E : XK} (he : PE X e ta) (c : Cls X.K C) (hp : PropOf X.K C m pa g) (F : FnOk X.prog X.w X.K X.mg X.base (L2N.CX X.prog X.w) k g fd ps sp) (hr : Room (k + 1) X.A) (hb : Binds X.K fd ps []) (hx : Passes (L2N.CX X.prog X.w) X.nox E) (hab : attributeBase e m X.env (eval e X.env) = eval e X.env) : PE X (.Attribute e m pos) (tProp C sp [] E ta) :=
  ⟨fun pins s σ H Q I h => attr_of hab (thn (he.run pins s σ H _ I h) fun u s1 ⟨x, H1, I1, rx, a, dx, fs, ex, ea, q⟩ => by
    subst ex
    cases rx
    exact getpropF I1 ea c hp F hr hb hx q)⟩
theorem a_prop {pa g : Addr} (he : PE X e (cE X.kx W te)) (c : Cls X.K C) (hp : PropOf X.K C m pa g) (F : FnOk X.prog X.w X.K X.mg X.base (L2N.CX X.prog X.w) k g fd ps (liftSp X.kx asp)) (hr : Room (k + 1) X.A) (hb : Binds X.K fd ps [])
    (hab : attributeBase e m X.env (eval e X.env) = eval e X.env := by rfl) : PE X (.Attribute e m pos) (cE X.kx W (aProp C asp te)) :=
  (pe_propF he c hp F hr hb passN hab).imp fun σ H Q ⟨I, L, F, ρ, P, px, S, h, q⟩ => ⟨I, L, F, ρ, _, px, S, h, fun x L1 xv I1 H1 h1 A1 e1 r1 => by
    obtain ⟨a, dx, fs, rfl, ha, cc, h1⟩ := isC_ok A1 r1 h1
    exact ⟨a, dx, fs, rfl, ha, ⟨_, I1, L1, F, P, _, A1, .cons r1 .nil, h1, q.mono e1, fun c L' I' H' h' A' e' => h'.elim⟩⟩⟩
/-- C(..): mk tells of the arguments what the made instance is -/
def aMake (mk : ASp) (t : AA) : AE := fun ρ L P px => t ρ L (fun ds L1 => mk ds L1 P fun c L' => px c ρ L') px
/-- what __init__ promises makes what mk tells -/
def MkOk (k : Kx) (C : Addr) (asp mk : ASp) (dds : List DV) : Prop := ∀ ds L P R, mk ds L P R → ∀ x dx, L x = none → asp (.ref x :: (ds ++ dds)) (updL L x (.ins C dx [] [])) (fun v L2 => v = .non ∧ FrzP k (.ref x) L2 P) R
theorem made_ab {k : Kx} {I F H : Hp} {L : Led} {x dx : Addr} (A : Ab k I L F H) (c : FOk k.K C []) (hx : H x = none) (hd : H dx = none) (ne : dx ≠ x) : Ab k I (updL L x (.ins C dx [] [])) F (upd (upd H dx (.own x)) x (.ins C dx [])) := by
  have A1 : Ab k I L F (upd H dx (.own x)) := A.lost hd
  exact A1.newL (by rw [upd_ne (Ne.symm ne)]; exact hx) (.ins rfl c .nil)
theorem run_mk {pins : List (Addr × Obj)} {σ : L2.St} {H : Hp} {s : Shared} {Q : VK} {us : List Value} {vs : List V} {sp : Sp} {E : XK} (M : Mk X.K C f) (F : FnOk X.prog X.w X.K X.mg X.base (L2N.CX X.prog X.w) k f fd ps sp) (hr : Room (k + 1) X.A) (hb : Binds X.K fd ps ds0) (hd : Vals dvs ds0)
    (hx : PassesAt (L2N.CX X.prog X.w) X σ E) (I : Inv X pins σ H s) (r : Vals vs us)
    (h : ∀ x dx, H x = none → H dx = none → dx ≠ x → sp (.ref x :: (vs ++ dvs)) (upd (upd H dx (.own x)) x (.ins C dx [])) (fun v H2 => v = .non ∧ Q (.ref x) H2) E) : wpAny (model X.prog X.w) X.A (call (.ref C) us) (EP X pins σ Q) X.xe s := by
  obtain ⟨n, hn⟩ : ∃ n, n = s.heap.objs.size := ⟨_, rfl⟩
  have f0 : H n = none := I.hok.fresh (by rw [hn]; exact Nat.le_refl _)
  have f1 : H (n + 1) = none := I.hok.fresh (by rw [hn]; exact Nat.le_succ _)
  have hq := h (n + 1) n f1 f0 (Nat.ne_of_lt (Nat.lt_succ_self n))
  have J := Inv.made (C := C) I
  rw [← hn] at J
  have rr : Vals (V.ref (n + 1) :: (vs ++ dvs)) (Value.ref (n + 1) :: (us ++ ds0)) := .cons rfl (r.append hd)
  have hl : (Value.ref (n + 1) :: us ++ ds0).length = ps.length := by
    have e := F.len _ _ _ _ hq
    rw [rr.length] at e
    exact e
  subst hn
  refine wpAny_call (make_map (f := f) I.kIn M.makes M.init (beq_iff_eq.mp M.fn) (codeAny_mono (F.run _ X.stack _ _ ⟨Value.ref (s.heap.objs.size + 1) :: us, []⟩ _ _ _ E (hr.make C us []) (J.env0.make C us []) (hb _ (Value.ref (s.heap.objs.size + 1) :: us) J.kIn hl) rr hq) fun r s' z => ?_))
  cases r with
  | error e => exact hx pins _ _ e s' J z
  | ok fl =>
    cases fl with
    | ret u =>
      obtain ⟨v, H', J3, rv, ev, q3⟩ := J.after z
      subst ev
      exact ⟨rv, V.ref (s.heap.objs.size + 1), H', J3, (rfl : Value.ref _ = Value.ref _), q3⟩
    | next => exact z.elim
    | brk => exact z.elim
    | cont => exact z.elim
theorem a_make {mk : ASp} (M : Mk X.K C f) (c : FOk X.K C []) (F : FnOk X.prog X.w X.K X.mg X.base (L2N.CX X.prog X.w) k f fd ps (liftSp X.kx asp)) (hmk : MkOk X.kx C asp mk dds) (hr : Room (k + 1) X.A) (hg : Gl X x) (hm : X.mg x = some (.ref C)) (hb : Binds X.K fd ps ds0) (hd : Vals dvs ds0) (hdd : ∀ I, Rps X.K I dds dvs) (tk : L2N.Takes X W) (ga : GoArgs X es (cA X.kx W t))
    (hdb : (x == ("__debug__" : Str)) = false := by decide) : PE X (.Call (.Name x p) es [] pos) (cE X.kx W (aMake mk t)) := by
  refine ⟨fun pins s σ H Q I h => ?_⟩
  obtain ⟨I0, L, F0, ρ, P, px, S, h, q⟩ := h
  refine wpAny_Call_Name_kw (ld_glob I hg hm ?_ hdb)
  refine ga pos C [] pins s σ H _ M.kp I ⟨I0, L, F0, ρ, _, px, S, h, fun ds L1 vs I1 H1 h1 A1 e1 r1 s1 us J r => ?_⟩
  refine run_mk M F hr hb hd (E := fun cls d H' => W cls d σ H') (L2N.passAt tk σ) J r fun x dx hx hdx ne => ?_
  have S1 : Stt X.kx W σ _ I1 (updL L1 x (.ins C dx [] [])) F0 ρ px := S.go (made_ab A1 c hx hdx ne) e1
  refine lift_at S1 (.cons (.ref x) (r1.append (hdd _))) (hmk ds L1 P _ h1 x dx (A1.freeL hx)) fun d L2 v I2 H2 z A2 e2 r2 => ?_
  obtain ⟨rfl, z⟩ := z
  cases r2
  exact ⟨rfl, z.ok A2 (.ref x) (q.mono (e1.trans e2))⟩
end

theorem takesN {X : Cx} : L2N.Takes X (fun _ _ _ _ => False) := fun _ _ ⟨_, _, _, _, _, _, _, _, _, _, _, _, _, _, _, _, z⟩ => z.elim
/-! ### raise -/
def aRaise (C : Addr) : AS := fun AD ρ L => ∃ L2, Sub L2 L ∧ AD.px C ρ L2
section
variable {X : Cx} {W : WX} {C : Addr} {x m : Str} {j : Nat} {p p2 pos pos' : Pos}
theorem s_raise {bmB : List Value} {B newId initId : String} (hc : X.calm = true) (tk : L2N.Takes X W) (F : ExcBaseFacts B newId initId bmB) (q : PySem.W.excIn X.K C bmB newId = true) (gC : X.mg x = some (.ref C)) (kC : PySem.W.keepIn X.K (.ref C) = true) (r : Raises X (.ref C)) (hg : Gl X x)
    (hdb : (x == ("__debug__" : Str)) = false := by decide) : PS X (.Raise (some (.Call (.Name x p) [.Constant (.str m) j p2] [] pos')) none pos) (cS X.kx W (aRaise C)) :=
  (L2N.ps_raise hc tk (L2N.pmk_own F q gC kC r hg hdb)).imp fun D σ H ⟨I, L, F, ρ, AD, S, ⟨L2, s, h⟩, q⟩ => S.xx C ρ σ L2 I H h (S.ab.sub s) (Ex.refl _) S.rs
end
end AL
namespace AL
open PySem PySem.Spec PyProof.Rows L2

/-! ### what a for walks: its items; what must stay -/
abbrev AI := Sl → Led → (List DV → (Led → Prop) → Led → Prop) → PX → Prop
structure ItOk (k : Kx) (J : It) (I0 : Hp) (items : List DV) (stay : Led → Prop) : Prop where
  stop : ∀ {I F H : Hp} {L : Led} (i : Nat), Ab k I L F H → Ex I0 I → stay L → items.length ≤ i → J.stop i H
  go : ∀ {I F H : Hp} {L : Led} (i : Nat) (d : DV), Ab k I L F H → Ex I0 I → stay L → items[i]? = some d → J.go i H
  yld : ∀ {I F H : Hp} {L : Led} (i : Nat) (d : DV) (x : V) (H' : Hp), Ab k I L F H → Ex I0 I → stay L → items[i]? = some d → J.yld i H x H' → ∃ I', Ab k I' L F H' ∧ Ex I I' ∧ Rp k.K I' d x
def cI (k : Kx) (W : WX) (t : AI) : TI := fun σ H R => ∃ I L F ρ P px, Stt k W σ H I L F ρ px ∧ t ρ L P px ∧ ∀ items stay L' J I' H', P items stay L' → Ab k I' L' F H' → Ex I I' → ItOk k J I' items stay → R J H'
def seqI (x : DV) (L : Led) (P : List DV → (Led → Prop) → Led → Prop) : Prop := match x with
  | .lst xs => P xs (fun _ => True) L
  | .tup xs => P xs (fun _ => True) L
  | .wl xs => P xs (fun _ => True) L
  | .ref a => ∃ ds, L a = some (.lst ds) ∧ P ds (fun L' => L' a = some (.lst ds)) L
  | _ => False
def iSeq (te : AE) : AI := fun ρ L P px => te ρ L (fun x L1 => seqI x L1 P) px
def rangeD (lo : Int) (n : Nat) : List DV := (List.range n).map fun i => DV.int (lo + (i : Nat))
def rng1 (ds : List DV) (L : Led) (P : List DV → (Led → Prop) → Led → Prop) : Prop := match ds with
  | [.int j] => (-(2 ^ 62) ≤ j ∧ j < 2 ^ 62) ∧ P (rangeD 0 j.toNat) (fun _ => True) L
  | _ => False
def rng2 (ds : List DV) (L : Led) (P : List DV → (Led → Prop) → Led → Prop) : Prop := match ds with
  | [.int i, .int j] => (-(2 ^ 62) ≤ i ∧ i < 2 ^ 62 ∧ -(2 ^ 62) ≤ j ∧ j < 2 ^ 62) ∧ P (rangeD i (j - i).toNat) (fun _ => True) L
  | _ => False
/-- range(i, j, -1) -/
def downD (lo : Int) (n : Nat) : List DV := (List.range n).map fun i => DV.int (lo - (i : Nat))
def rng3 (ds : List DV) (L : Led) (P : List DV → (Led → Prop) → Led → Prop) : Prop := match ds with
  | [.int i, .int j, .int (.negSucc 0)] => (-(2 ^ 62) ≤ i ∧ i < 2 ^ 62 ∧ -(2 ^ 62) ≤ j ∧ j < 2 ^ 62) ∧ P (downD i (i - j).toNat) (fun _ => True) L
  | _ => False
def iRng (r : List DV → Led → (List DV → (Led → Prop) → Led → Prop) → Prop) (ta : AA) : AI := fun ρ L P px => ta ρ L (fun ds L1 => r ds L1 P) px
def signs (z : Str) : List DV := z.cps.toList.map fun c => DV.str ⟨#[c]⟩
def iSig (te : AE) : AI := fun ρ L P px => te ρ L (fun x L1 => match x with
  | .str z => P (signs z) (fun _ => True) L1
  | _ => False) px
section
variable {k : Kx} {I0 : Hp} {a : Addr} {vs : List V} {ds : List DV}
theorem it_list (h : SqL k.K I0 a vs) (r : Rps k.K I0 ds vs) : ItOk k (Itl k.K a) I0 ds (fun _ => True) where
  stop i A e _ hi := ⟨vs, A.imm.l (e.l h), by rw [← r.length]; exact hi⟩
  go i d A e _ hd := let ⟨v, hv, _⟩ := r.get hd; ⟨vs, v, A.imm.l (e.l h), hv⟩
  yld i d x H' A e _ hd y := by
    obtain ⟨rfl, y⟩ := y
    obtain ⟨v, hv, rv⟩ := r.get hd
    have := y vs (A.imm.l (e.l h))
    rw [hv] at this; cases this
    exact ⟨_, A, Ex.refl _, rv.mono e⟩
theorem it_tup (h : SqT k.K I0 a vs) (r : Rps k.K I0 ds vs) : ItOk k (Itt k.K a) I0 ds (fun _ => True) where
  stop i A e _ hi := ⟨vs, A.imm.t (e.t h), by rw [← r.length]; exact hi⟩
  go i d A e _ hd := let ⟨v, hv, _⟩ := r.get hd; ⟨vs, v, A.imm.t (e.t h), hv⟩
  yld i d x H' A e _ hd y := by
    obtain ⟨rfl, y⟩ := y
    obtain ⟨v, hv, rv⟩ := r.get hd
    have := y vs (A.imm.t (e.t h))
    rw [hv] at this; cases this
    exact ⟨_, A, Ex.refl _, rv.mono e⟩
theorem it_led : ItOk k (Itl k.K a) I0 ds (fun L' => L' a = some (.lst ds)) where
  stop i A e st hi := by
    obtain ⟨_, _, o, e2, r2⟩ := A.led _ _ st
    cases r2 with
    | lst r => exact ⟨_, SqL.of e2, by rw [← r.length]; exact hi⟩
  go i d A e st hd := by
    obtain ⟨_, _, o, e2, r2⟩ := A.led _ _ st
    cases r2 with
    | lst r =>
      obtain ⟨v, hv, _⟩ := r.get hd
      exact ⟨_, v, SqL.of e2, hv⟩
  yld i d x H' A e st hd y := by
    obtain ⟨rfl, y⟩ := y
    obtain ⟨_, _, o, e2, r2⟩ := A.led _ _ st
    cases r2 with
    | lst r =>
      obtain ⟨v, hv, rv⟩ := r.get hd
      have := y _ (SqL.of e2)
      rw [hv] at this; cases this
      exact ⟨_, A, Ex.refl _, rv⟩
theorem rangeD_get {lo : Int} {n i : Nat} {d : DV} (h : (rangeD lo n)[i]? = some d) : i < n ∧ d = .int (lo + (i : Nat)) := by
  unfold rangeD at h
  rw [List.getElem?_map] at h
  by_cases hi : i < n
  · rw [List.getElem?_range hi] at h
    exact ⟨hi, (Option.some.inj h).symm⟩
  · rw [List.getElem?_eq_none (by simpa using Nat.le_of_not_lt hi)] at h; cases h
theorem rangeD_length (lo : Int) (n : Nat) : (rangeD lo n).length = n := by simp [rangeD]
theorem it_range {lo : Int} {n : Nat} : ItOk k (Itr lo n) I0 (rangeD lo n) (fun _ => True) where
  stop i A e _ hi := by rw [rangeD_length] at hi; exact hi
  go i d A e _ hd := (rangeD_get hd).1
  yld i d x H' A e _ hd y := by
    obtain ⟨rfl, rfl⟩ := y
    rw [(rangeD_get hd).2]
    exact ⟨_, A, Ex.refl _, .int _⟩
theorem it_signs {z : Str} : ItOk k (Its z) I0 (signs z) (fun _ => True) where
  stop i A e _ hi := by
    show z.cps.size ≤ i
    simpa [signs] using hi
  go i d A e _ hd := by
    have := (List.getElem?_eq_some_iff.mp hd).1
    show i < z.cps.size
    simpa [signs] using this
  yld i d x H' A e _ hd y := by
    obtain ⟨rfl, c, hc, rfl⟩ := y
    unfold signs at hd
    rw [List.getElem?_map, Array.getElem?_toList, hc] at hd
    cases hd
    exact ⟨_, A, Ex.refl _, .str _⟩
end
section
variable {X : Cx} {W : WX} {tg e a b : Expr} {te : AE} {ta : AA} {p pos : Pos}
/-- list or tuple, known when it has come -/
theorem pi_both {t : TE} (h : PE X e t) : PI X tg e (fun σ H R => t σ H fun x H1 => ∃ l, x = .ref l ∧ (((∃ xs, SqL X.K H1 l xs) ∧ R (Itl X.K l) H1) ∨ ((∃ xs, SqT X.K H1 l xs) ∧ R (Itt X.K l) H1))) := by
  refine ⟨fun pins s σ H R I hh => ?_⟩
  refine thn (h.run pins s σ H _ I hh) fun v s1 ⟨x, H1, I1, r1, l, ex, q⟩ => ?_
  subst ex
  cases r1
  have fresh : ∀ b ∈ [s1.heap.objs.size], FpOk X pins H1 b := fun b hb => by
    rw [List.mem_singleton.mp hb]
    exact I1.fpOk (Nat.le_refl _) (I1.hok.fresh (Nat.le_refl _))
  rcases q with ⟨⟨xs, hq⟩, q⟩ | ⟨⟨xs, hq⟩, q⟩
  · obtain ⟨its, rv, pl, hz⟩ := I1.list hq
    refine wpAny_pyIter_list pl.isList ⟨s1.heap.objs.size, [s1.heap.objs.size], _, _, H1, rfl, ?_, turn_list l _, ⟨_, Heap.get?_push_size _ rfl, rfl, rfl⟩, fresh, q⟩
    exact I1.kept (t' := s1.toks) fun b o z => Heap.get?_push_of_some _ z
  · obtain ⟨its, rv, pl, hz⟩ := I1.tuple hq
    refine wpAny_pyIter_tuple (show s1.heap.IsTuple l its.toArray from pl) ⟨s1.heap.objs.size, [s1.heap.objs.size], _, _, H1, rfl, ?_, turn_tuple l _, ⟨_, Heap.get?_push_size _ rfl, rfl, rfl⟩, fresh, q⟩
    exact I1.kept (t' := s1.toks) fun b o z => Heap.get?_push_of_some _ z
theorem i_seq (h : PE X e (cE X.kx W te)) : PI X tg e (cI X.kx W (iSeq te)) :=
  (pi_both h).imp fun σ H R ⟨I, L, F, ρ, P, px, S, h, q⟩ => ⟨I, L, F, ρ, _, px, S, h, fun x L1 xv I1 H1 h1 A1 e1 r1 => by
    cases r1 <;> try exact h1.elim
    case ref l =>
      obtain ⟨ds, hl, h1⟩ := h1
      obtain ⟨_, _, o, e2, r2⟩ := A1.led _ _ hl
      cases r2 with
      | lst r => exact ⟨l, rfl, .inl ⟨⟨_, SqL.of e2⟩, q _ _ _ _ _ _ h1 A1 e1 it_led⟩⟩
    case lst l vs ds hl r => exact ⟨l, rfl, .inl ⟨⟨_, SqL.of (A1.imm _ _ hl)⟩, q _ _ _ _ _ _ h1 A1 e1 (it_list (SqL.of hl) r)⟩⟩
    case wl l vs ds hl r => exact ⟨l, rfl, .inl ⟨⟨_, A1.imm.l hl⟩, q _ _ _ _ _ _ h1 A1 e1 (it_list hl r)⟩⟩
    case tup l vs ds hl r => exact ⟨l, rfl, .inr ⟨⟨_, A1.imm.t hl⟩, q _ _ _ _ _ _ h1 A1 e1 (it_tup hl r)⟩⟩⟩
theorem i_rng1 (hg : Gl X "range") (hm : X.mg "range" = none) (ha : PA X [a] (cA X.kx W ta)) (hs : starEach [a] X.env = [(false, eval a X.env)] := by rfl) : PI X tg (.Call (.Name "range" p) [a] [] pos) (cI X.kx W (iRng rng1 ta)) :=
  (pi_range1 hg hm ha hs).imp fun σ H R ⟨I, L, F, ρ, P, px, S, h, q⟩ => ⟨I, L, F, ρ, _, px, S, h, fun ds L1 vs I1 H1 h1 A1 e1 r1 => by
    unfold rng1 at h1
    split at h1
    · obtain ⟨v, rfl, r2⟩ := one_rp (k := X.kx) r1; cases r2
      exact ⟨_, rfl, h1.1.1, h1.1.2, q _ _ _ _ _ _ h1.2 A1 e1 it_range⟩
    · exact h1.elim⟩
theorem i_rng2 (hg : Gl X "range") (hm : X.mg "range" = none) (ha : PA X [a, b] (cA X.kx W ta)) (hs : starEach [a, b] X.env = [(false, eval a X.env), (false, eval b X.env)] := by rfl) (hs2 : starEach [b] X.env = [(false, eval b X.env)] := by rfl) : PI X tg (.Call (.Name "range" p) [a, b] [] pos) (cI X.kx W (iRng rng2 ta)) :=
  (pi_range2 hg hm ha hs hs2).imp fun σ H R ⟨I, L, F, ρ, P, px, S, h, q⟩ => ⟨I, L, F, ρ, _, px, S, h, fun ds L1 vs I1 H1 h1 A1 e1 r1 => by
    unfold rng2 at h1
    split at h1
    · obtain ⟨v, w, rfl, r2, r3⟩ := two_rp (k := X.kx) r1; cases r2; cases r3
      exact ⟨_, _, rfl, h1.1, q _ _ _ _ _ _ h1.2 A1 e1 it_range⟩
    · exact h1.elim⟩
theorem it_down {k : Kx} {I0 : Hp} {lo : Int} {n : Nat} : ItOk k (Itc lo (-1) n) I0 (downD lo n) (fun _ => True) where
  stop i A e _ hi := by
    show n ≤ i
    simpa [downD] using hi
  go i d A e _ hd := by
    show i < n
    simpa [downD] using (List.getElem?_eq_some_iff.mp hd).1
  yld i d x H' A e _ hd y := by
    obtain ⟨rfl, rfl⟩ := y
    unfold downD at hd
    rw [List.getElem?_map] at hd
    have hi : i < n := by
      by_cases hi : i < n
      · exact hi
      · rw [List.getElem?_eq_none (by simpa using Nat.le_of_not_lt hi)] at hd; cases hd
    rw [List.getElem?_range hi] at hd
    have ed : d = .int (lo - (i : Nat)) := (Option.some.inj hd).symm
    rw [ed, show lo - (i : Int) = lo + (i : Nat) * (-1) by omega]
    exact ⟨_, A, Ex.refl _, .int _⟩
theorem i_rng3 {c : Expr} (hg : Gl X "range") (hm : X.mg "range" = none) (ha : PA X [a, b, c] (cA X.kx W ta)) (hs : starEach [a, b, c] X.env = (false, eval a X.env) :: starEach [b, c] X.env := by rfl) (hpl : (backTo pos (starEach [b, c] X.env)).any (·.1) = false := by rfl) :
    PI X tg (.Call (.Name "range" p) [a, b, c] [] pos) (cI X.kx W (iRng rng3 ta)) :=
  (pi_range3 hg hm ha hs hpl).imp fun σ H R ⟨I, L, F, ρ, P, px, S, h, q⟩ => ⟨I, L, F, ρ, _, px, S, h, fun ds L1 vs I1 H1 h1 A1 e1 r1 => by
    unfold rng3 at h1
    split at h1
    · cases r1 with | cons r2 r1 => cases r1 with | cons r3 r1 => cases r1 with | cons r4 r1 =>
      cases r1; cases r2; cases r3; cases r4
      exact ⟨_, _, _, _, rfl, RgC.neg h1.1.1 h1.1.2.1 h1.1.2.2.1 h1.1.2.2.2, q _ _ _ _ _ _ h1.2 A1 e1 it_down⟩
    · exact h1.elim⟩
theorem i_sig (h : PE X e (cE X.kx W te)) : PI X tg e (cI X.kx W (iSig te)) :=
  (pi_str h).imp fun σ H R ⟨I, L, F, ρ, P, px, S, h, q⟩ => ⟨I, L, F, ρ, _, px, S, h, fun x L1 xv I1 H1 h1 A1 e1 r1 => by
    cases r1 <;> try exact h1.elim
    exact ⟨_, rfl, q _ _ _ _ _ _ h1 A1 e1 it_signs⟩⟩
/-- enumerate of a list -/
def enumD (ds : List DV) : List DV := ds.zipIdx.map fun p => DV.tup [.int (p.2 : Nat), p.1]
def iEnu (ta : AA) : AI := fun ρ L P px => ta ρ L (fun ds L1 => match ds with
  | [.lst xs] => P (enumD xs) (fun _ => True) L1
  | [.ref a] => ∃ xs, L1 a = some (.lst xs) ∧ P (enumD xs) (fun L' => L' a = some (.lst xs)) L1
  | _ => False) px
theorem enumD_get {ds : List DV} {i : Nat} {d : DV} (h : (enumD ds)[i]? = some d) : ∃ x, ds[i]? = some x ∧ d = .tup [.int (i : Nat), x] := by
  unfold enumD at h
  rw [List.getElem?_map, List.getElem?_zipIdx] at h
  cases e : ds[i]? with
  | none => rw [e] at h; cases h
  | some x =>
    rw [e] at h
    refine ⟨x, rfl, ?_⟩
    have := (Option.some.inj h).symm
    simpa using this
theorem enumD_length (ds : List DV) : (enumD ds).length = ds.length := by simp [enumD]
theorem pair_new {k : Kx} {I F H : Hp} {L : Led} {T : Addr} {i : Nat} {v : V} {x : DV} (A : Ab k I L F H) (h : H T = none) (r : Rp k.K I x v) : ∃ I', Ab k I' L F (upd H T (.tup [.int (i : Nat), v])) ∧ Ex I I' ∧ Rp k.K I' (.tup [.int (i : Nat), x]) (.ref T) :=
  ⟨_, A.newI h, Ex.new (A.freeI h), .tup (SqT.of upd_same) (.cons (.int _) (.cons (r.mono (Ex.new (A.freeI h))) .nil))⟩
theorem it_enum {k : Kx} {I0 : Hp} {a : Addr} {ds : List DV} {st : Led → Prop} (hh : ∀ {I F H : Hp} {L : Led}, Ab k I L F H → Ex I0 I → st L → ∃ vs, SqL k.K H a vs ∧ Rps k.K I ds vs) : ItOk k (Ite k.K a) I0 (enumD ds) st where
  stop i A e s hi := by
    obtain ⟨vs, h1, r⟩ := hh A e s
    exact ⟨vs, h1, by rw [← r.length]; simpa [enumD_length] using hi⟩
  go i d A e s hd := by
    obtain ⟨vs, h1, r⟩ := hh A e s
    obtain ⟨x, hx, _⟩ := enumD_get hd
    obtain ⟨v, hv, _⟩ := r.get hx
    exact ⟨vs, v, h1, hv⟩
  yld i d x H' A e s hd y := by
    obtain ⟨T, v, rfl, hT, rfl, y⟩ := y
    obtain ⟨vs, h1, r⟩ := hh A e s
    obtain ⟨z, hz, rfl⟩ := enumD_get hd
    obtain ⟨w, hw, rw'⟩ := r.get hz
    have := y vs h1
    rw [hw] at this; cases this
    exact pair_new A hT rw'
theorem i_enu {elts : List Expr} {kk : Nat} {tpos : Pos} (hg : Gl X "enumerate") (hm : X.mg "enumerate" = none) (ha : PA X [e] (cA X.kx W ta)) (hs : starEach [e] X.env = [(false, eval e X.env)] := by rfl) :
    PI X (.Tuple elts kk tpos) (.Call (.Name "enumerate" p) [e] [] pos) (cI X.kx W (iEnu ta)) :=
  (pi_enum hg hm ha hs).imp fun σ H R ⟨I, L, F, ρ, P, px, S, h, q⟩ => ⟨I, L, F, ρ, _, px, S, h, fun ds L1 vs I1 H1 h1 A1 e1 r1 => by
    split at h1
    · obtain ⟨v, rfl, r2⟩ := one_rp (k := X.kx) r1
      cases r2 with
      | lst hl r => exact ⟨_, _, rfl, SqL.of (A1.imm _ _ hl), q _ _ _ _ _ _ h1 A1 e1 (it_enum fun A e _ => ⟨_, SqL.of (A.imm _ _ (e _ _ hl)), r.mono e⟩)⟩
    · obtain ⟨v, rfl, r2⟩ := one_rp (k := X.kx) r1
      cases r2
      obtain ⟨xs, hl, h1⟩ := h1
      obtain ⟨_, _, o, e2, r2⟩ := A1.led _ _ hl
      cases r2 with
      | lst r =>
        refine ⟨_, _, rfl, SqL.of e2, q _ _ _ _ _ _ h1 A1 e1 (it_enum fun A e s => ?_)⟩
        obtain ⟨_, _, o, e3, r3⟩ := A.led _ _ s
        cases r3 with
        | lst r => exact ⟨_, SqL.of e3, r⟩
    · exact h1.elim⟩
end

/-! ### targets -/
abbrev AG := DV → Sl → Led → (Sl → Led → Prop) → Prop
abbrev AGs := List DV → Sl → Led → (Sl → Led → Prop) → Prop
def gN (i : Nat) : AG := fun d ρ L P => P (ρ.set i (some d)) L
/-- the slots js take the items -/
def setsA : List Nat → List DV → Sl → Sl
  | j :: js, d :: ds, ρ => setsA js ds (ρ.set j (some d))
  | _, _, ρ => ρ
def setsV : List Nat → List V → L2.St → L2.St
  | j :: js, d :: ds, ρ => setsV js ds (ρ.set j (some d))
  | _, _, ρ => ρ
def gT (js : List Nat) : AG := fun d ρ L P => match d with
  | .tup ds => ds.length = js.length ∧ P (setsA js ds ρ) L
  | _ => False
/-- the model's target and ours; vs: slots that a block forgets -/
structure GOk (X : Cx) (gc : TG) (ga : AG) (js : List Nat) : Prop where
  go : ∀ {k : Kx} {I F H : Hp} {L : Led} {σ : L2.St} {ρ : Sl} {d : DV} {v : V} {P : Sl → Led → Prop} {Q : L2.St → Hp → Prop}, k.K = X.K → Ab k I L F H → RpS k.K I ρ σ → Rp k.K I d v → ga d ρ L P →
    (∀ ρ' σ' (us : List V), P ρ' L → RpS k.K I ρ' σ' → σ' = setsV js us σ → Q σ' H) → gc v σ H Q
theorem gok_name {X : Cx} (i : Nat) : GOk X (L2.gName i) (gN i) [i] where
  go {k I F H L σ ρ d v P Q} _ A rs r h q := q _ _ [v] h (rs.set r i) rfl
theorem setsA_rp {K : PySem.W.Frag} {I : Hp} : ∀ {js : List Nat} {ds : List DV} {vs : List V} {ρ : Sl} {σ : L2.St}, Rps K I ds vs → RpS K I ρ σ → RpS K I (setsA js ds ρ) (setsV js vs σ)
  | [], _, _, _, _, _, h => by simpa [setsA, setsV] using h
  | j :: js, [], _, _, _, .nil, h => by simpa [setsA, setsV] using h
  | j :: js, _, _, _, _, .cons r rr, h => setsA_rp (js := js) rr (h.set r j)
/-- the model's target of several names -/
def gNames : List Nat → TGs
  | [] => L2.gNil
  | j :: js => L2.gCons (L2.gName j) (gNames js)
theorem gNames_go : ∀ {js : List Nat} {vs : List V} {σ : L2.St} {H : Hp} {Q : L2.St → Hp → Prop}, vs.length = js.length → Q (setsV js vs σ) H → gNames js vs σ H Q
  | [], [], _, _, _, _, q => ⟨rfl, q⟩
  | j :: js, v :: vs, _, _, _, h, q => ⟨v, vs, rfl, gNames_go (js := js) (by simpa using h) q⟩
theorem gok_tup {X : Cx} (js : List Nat) : GOk X (L2.gTup X.K js.length (gNames js)) (gT js) js where
  go {k I F H L σ ρ d v P Q} ek A rs r h q := by
    cases r <;> try exact h.elim
    rename_i a vs ds ht rr
    exact ⟨a, vs, rfl, by rw [← ek]; exact A.imm.t ht, by rw [← rr.length]; exact h.1, gNames_go (by rw [← rr.length]; exact h.1) (q _ _ vs h.2 (setsA_rp rr rs) rfl)⟩

/-! ### for -/
def aFor (ti : AI) (g : AG) (tb : AS) : AS := fun AD ρ L => ti ρ L (fun items stay L1 => ∃ Pv : Nat → Sl → Led → Prop, Pv 0 ρ L1 ∧ (∀ i ρ' L', Pv i ρ' L' → stay L') ∧
  (∀ i d ρ' L', items[i]? = some d → Pv i ρ' L' → g d ρ' L' fun ρ2 L2 => tb { AD with nx := Pv (i + 1), ct := Pv (i + 1), bk := AD.nx } ρ2 L2) ∧ ∀ ρ' L', Pv items.length ρ' L' → AD.nx ρ' L') AD.px
section
variable {X : Cx} {W : WX} {tg iter : Expr} {body : List Stmt} {ti : AI} {gc : TG} {ga : AG} {js : List Nat} {tb : AS} {pos : Pos}
theorem s_for (hp : PassesOwn (model X.prog X.w) X.A X.env X.xe) (hc : X.calm = true) (hi : PI X tg iter (cI X.kx W ti)) (hg : PG X tg gc) (ok : GOk X gc ga js) (hb : PSs X body (cS X.kx W tb)) (hs : ∀ x, foldedSetIterable iter X.env x = pure x := by intro _; rfl) :
    PS X (.For tg iter body [] pos) (cS X.kx W (aFor ti ga tb)) :=
  (ps_for hp hc hi hg hb hs).imp fun D σ H ⟨I, L, F, ρ, AD, S, h, q⟩ => ⟨I, L, F, ρ, _, AD.px, S, h, fun items stay L1 J I1 H1 ⟨Pv, p0, ps, pt, pd⟩ A1 e1 it => by
    refine ⟨fun i m σ' H' => m = items.length - i ∧ i ≤ items.length ∧ ∃ I' L' ρ', Ab X.kx I' L' F H' ∧ Ex I1 I' ∧ RpS X.K I' ρ' σ' ∧ Pv i ρ' L', ⟨_, rfl, Nat.zero_le _, I1, L1, ρ, A1, Ex.refl _, S.rs.mono e1, p0⟩, ?_⟩
    rintro i m σ' H' ⟨rfl, hi', I', L', ρ', A', e', r', p'⟩
    have e2 := e1.trans e'
    have hst := ps i ρ' L' p'
    by_cases hlt : i < items.length
    · refine .inr ⟨it.go i items[i] A' e' hst (List.getElem?_eq_getElem hlt), fun σ'' H'' => ∃ I'' L'' ρ'', Ab X.kx I'' L'' F H'' ∧ Ex I1 I'' ∧ RpS X.K I'' ρ'' σ'' ∧ Pv (i + 1) ρ'' L'', fun σ'' H'' z => ⟨items.length - (i + 1), by omega, rfl, hlt, z⟩, fun x H2 y => ?_⟩
      obtain ⟨I2, A2, e3, r2⟩ := it.yld i items[i] x H2 A' e' hst (List.getElem?_eq_getElem hlt) y
      refine ok.go (k := X.kx) rfl A2 (r'.mono e3) r2 (pt i _ ρ' L' (List.getElem?_eq_getElem hlt) p') fun ρ3 σ3 us h3 r3 _ => ?_
      have e4 := e'.trans e3
      have e5 := e1.trans e4
      refine ⟨I2, L', F, ρ3, { AD with nx := Pv (i + 1), ct := Pv (i + 1), bk := AD.nx }, ⟨A2, r3, S.xx.mono e5⟩, h3, ⟨fun ρ6 L6 σ6 I6 H6 h6 A6 e6 r6 => ⟨I6, L6, ρ6, A6, e4.trans e6, r6, h6⟩, q.rt.mono e5, q.nx.mono e5, fun ρ6 L6 σ6 I6 H6 h6 A6 e6 r6 => ⟨I6, L6, ρ6, A6, e4.trans e6, r6, h6⟩⟩⟩
    · have hi2 : i = items.length := by omega
      subst hi2
      exact .inl ⟨it.stop _ A' e' hst (Nat.le_refl _), q.nx _ _ _ _ _ (pd ρ' L' p') A' e2 r'⟩⟩

/-! ### list comprehensions -/
def wipeA (ρ : Sl) : List Nat → Sl
  | [] => ρ
  | v :: vs => (wipeA ρ vs).set v none
theorem wipeA_rp {K : PySem.W.Frag} {I : Hp} {ρ : Sl} {σ : L2.St} (h : RpS K I ρ σ) : ∀ vs : List Nat, RpS K I (wipeA ρ vs) (wipe σ vs)
  | [] => h
  | v :: vs => (wipeA_rp h vs).setNone v
theorem wipe_get (σ : L2.St) (i : Nat) : ∀ vs : List Nat, (wipe σ vs)[i]? = if i ∈ vs then (if i < σ.length then some none else none) else σ[i]?
  | [] => by simp [wipe]
  | v :: vs => by
    unfold wipe
    by_cases h : v = i
    · subst h
      rw [if_pos List.mem_cons_self]
      by_cases hl : v < σ.length
      · rw [if_pos hl, List.getElem?_set_self (by rw [wipe_length]; exact hl)]
      · rw [if_neg hl, List.getElem?_eq_none (by rw [List.length_set, wipe_length]; omega)]
    · rw [List.getElem?_set_ne h, wipe_get σ i vs]
      by_cases hm : i ∈ vs
      · rw [if_pos hm, if_pos (List.mem_cons_of_mem _ hm)]
      · rw [if_neg hm, if_neg (by simp only [List.mem_cons, not_or]; exact ⟨fun z => h z.symm, hm⟩)]
theorem setsV_len : ∀ (js : List Nat) (us : List V) (σ : L2.St), (setsV js us σ).length = σ.length
  | [], _, _ => rfl
  | _ :: _, [], _ => rfl
  | j :: js, u :: us, σ => by rw [setsV, setsV_len js us, List.length_set]
theorem setsV_out : ∀ (js : List Nat) (us : List V) (σ : L2.St) (i : Nat), i ∉ js → (setsV js us σ)[i]? = σ[i]?
  | [], _, _, _, _ => rfl
  | _ :: _, [], _, _, _ => rfl
  | j :: js, u :: us, σ, i, h => by
    simp only [List.mem_cons, not_or] at h
    rw [setsV, setsV_out js us _ i h.2, List.getElem?_set_ne (Ne.symm h.1)]
theorem wipe_sets (σ : L2.St) (js : List Nat) (us : List V) (vs : List Nat) (h : ∀ j ∈ js, j ∈ vs) : wipe (setsV js us (wipe σ vs)) vs = wipe σ vs := by
  apply List.ext_getElem?
  intro i
  rw [wipe_get, wipe_get, setsV_len, wipe_length]
  by_cases hm : i ∈ vs
  · rw [if_pos hm, if_pos hm]
  · rw [if_neg hm, if_neg hm, setsV_out js us _ i (fun z => hm (h i z)), wipe_get, if_neg hm]
def noPX : PX := fun _ _ _ => False
abbrev W0 : WX := fun _ _ _ _ => False
def aLcN (nw : List DV → Led → PD → Prop) (ti : AI) (g : AG) (tt : AT) (te : AE) (vs : List Nat) : AE := fun ρ L P px => ti ρ L (fun items stay L1 => items.length < sizeLine ∧ ∃ Pv : Nat → List DV → Led → Prop, Pv 0 [] L1 ∧ (∀ i acc L', Pv i acc L' → stay L' ∧ acc.length ≤ i) ∧
  (∀ i d acc L', items[i]? = some d → Pv i acc L' → g d (wipeA ρ vs) L' fun ρ2 L2 => tt ρ2 L2 (fun b L3 => (b = true → te ρ2 L3 (fun y L4 => Pv (i + 1) (acc ++ [y]) L4) noPX) ∧ (b = false → Pv (i + 1) acc L3)) noPX) ∧ ∀ acc L', Pv items.length acc L' → nw acc L' P) px
abbrev aLc (ti : AI) (g : AG) (tt : AT) (te : AE) (vs : List Nat) : AE := aLcN newL ti g tt te vs
def aYes : AT := fun _ L P _ => P true L
theorem t_yes {X : Cx} : PTs X [] (cT X.kx W0 aYes) := ⟨fun pins s σ H Q I h => by
  obtain ⟨I0, L, F, ρ, P, px, S, h, q⟩ := h
  exact pts_nil.run pins s σ H Q I (q _ _ _ _ h S.ab (Ex.refl _))⟩
theorem t_one {X : Cx} {c : Expr} {t : AT} (h : PT X c (cT X.kx W0 t)) : PTs X [c] (cT X.kx W0 t) := pts_one h
theorem hid_upd {k : Kx} {I F H : Hp} {L : Led} {D : Addr} {o o' : HO} (A : Ab k I L (upd F D o) H) : Ab k I L (upd F D o') (upd H D o') := by
  have hD : (upd F D o) D = some o := upd_same
  refine ⟨fun a u e => ?_, fun a u e => ?_, fun a m e => ?_, fun a u e => ?_⟩
  · have : a ≠ D := fun z => by
      subst z
      rw [A.sep _ _ hD] at e; cases e
    rw [upd_ne this]; exact A.imm a u e
  · by_cases z : a = D
    · subst z; rw [upd_same] at e ⊢; exact e
    · rw [upd_ne z] at e ⊢; exact A.frm a u (by rw [upd_ne z]; exact e)
  · obtain ⟨h1, h2, o2, h3, h4⟩ := A.led a m e
    have : a ≠ D := fun z => by subst z; rw [hD] at h2; cases h2
    exact ⟨h1, by rw [upd_ne this] at h2 ⊢; exact h2, o2, by rw [upd_ne this]; exact h3, h4⟩
  · by_cases z : a = D
    · subst z; exact A.sep _ _ hD
    · rw [upd_ne z] at e; exact A.sep a u (by rw [upd_ne z]; exact e)
theorem lc_go {k : Kx} {K : PySem.W.Frag} {W : WX} {σ : L2.St} {H : Hp} {Q : VK} {tt : AT} {te : AE} {vs : List Nat} (ek : k = X.kx) (ok : GOk X gc ga js) (hj : ∀ j ∈ js, j ∈ vs) {nw : List DV → Led → PD → Prop} (hn : ∀ ds L P, nw ds L P → newL ds L P) (h : cE k W (aLcN nw ti ga tt te vs) σ H Q) :
    tLc (cI k W ti) gc (cT k W0 tt) (cE k W0 te) vs σ H Q := by
  subst ek
  obtain ⟨I, L, F, ρ, P, px, S, h, q⟩ := h
  refine ⟨I, L, F, ρ, _, px, S, h, fun items stay L1 J I1 H1 ⟨hlen, Pv, p0, ps, pt, pd⟩ A1 e1 it D hD => ?_⟩
  have hF := A1.freeF hD
  refine ⟨fun i m H' => m = items.length - i ∧ i ≤ items.length ∧ ∃ I' L' acc av, Ab X.kx I' L' (upd F D (.lst av)) H' ∧ Ex I1 I' ∧ Rps X.K I' acc av ∧ Pv i acc L', ⟨_, rfl, Nat.zero_le _, I1, L1, [], [], A1.newF hD, Ex.refl _, .nil, p0⟩, ?_⟩
  rintro i m H' ⟨rfl, hi', I', L', acc, av, A', e', r', p'⟩
  obtain ⟨hst, hal⟩ := ps i acc L' p'
  by_cases hlt : i < items.length
  · refine .inr ⟨it.go i items[i] A' e' hst (List.getElem?_eq_getElem hlt), fun H'' => ∃ I'' L'' acc2 av2, Ab X.kx I'' L'' (upd F D (.lst av2)) H'' ∧ Ex I1 I'' ∧ Rps X.K I'' acc2 av2 ∧ Pv (i + 1) acc2 L'', fun H'' z => ⟨items.length - (i + 1), by omega, rfl, hlt, z⟩, fun x H2 y => ?_⟩
    obtain ⟨I2, A2, e3, r2⟩ := it.yld i items[i] x H2 A' e' hst (List.getElem?_eq_getElem hlt) y
    have e4 := e'.trans e3
    refine ok.go (k := X.kx) rfl A2 (wipeA_rp (S.rs.mono (e1.trans e4)) vs) r2 (pt i _ acc L' (List.getElem?_eq_getElem hlt) p') fun ρ3 σ3 us h3 r3 es => ⟨by rw [es]; exact wipe_sets σ js us vs hj, ?_⟩
    refine ⟨I2, L', upd F D (.lst av), ρ3, _, noPX, ⟨A2, r3, fun _ _ _ _ _ _ z => z.elim⟩, h3, fun b L5 I5 H5 h5 A5 e5 => ?_⟩
    cases b with
    | false => exact iteF ⟨I5, L5, acc, av, A5, e4.trans e5, r'.mono (e3.trans e5), h5.2 rfl⟩
    | true =>
      refine iteT ⟨I5, L5, upd F D (.lst av), ρ3, _, noPX, ⟨A5, r3.mono e5, fun _ _ _ _ _ _ z => z.elim⟩, h5.1 rfl, fun y L6 yv I6 H6 h6 A6 e6 r6 => ?_⟩
      refine ⟨av, A6.frm _ _ upd_same, by have := r'.length; omega, I6, L6, acc ++ [y], av ++ [yv], hid_upd A6, (e4.trans e5).trans e6, (r'.mono ((e3.trans e5).trans e6)).append (.cons r6 .nil), h6⟩
  · have hi2 : i = items.length := by omega
    subst hi2
    refine .inl ⟨it.stop _ A' e' hst (Nat.le_refl _), ?_⟩
    have hL : L' D = none := by
      cases z : L' D with
      | none => rfl
      | some mo =>
        obtain ⟨_, h2, _⟩ := A'.led _ _ z
        rw [upd_same] at h2; cases h2
    have A3 := A'.unhide hF r'
    rcases hn _ _ _ (pd acc L' p') with h | h
    · exact q _ _ _ _ _ (h D hL) A3 (e1.trans e') (.ref D)
    · obtain ⟨I4, e4, A4, r4⟩ := A3.freeze updL_same
      rw [delL_updL hL] at A4
      exact q _ _ _ _ _ h A4 ((e1.trans e').trans e4) r4
theorem a_lc {elt tg iter : Expr} {ifs : List Expr} {scope : Scope} {own : List (Str × Nat)} {tt : AT} {te : AE} (hc : X.calm = true) (hN : X.N.Nodup) (hi : PI X tg iter (cI X.kx W ti)) (ok : BlkOk X.N X.env.scope scope own) (gk : GOk X gc ga js) (hj : ∀ j ∈ js, j ∈ own.map (·.2))
    (hg : ∀ (s : Shared) (H : Hp) (C : Addr) (cl : List (Str × Addr)) (fp : List Addr), PG (X.blk s H scope (compEnvC scope cl C X.env) fp) tg gc) (ht : ∀ (s : Shared) (H : Hp) (C : Addr) (cl : List (Str × Addr)) (fp : List Addr), PTs (X.blk s H scope (compEnvC scope cl C X.env) fp) ifs (cT X.kx W0 tt))
    (he : ∀ (s : Shared) (H : Hp) (C : Addr) (cl : List (Str × Addr)) (fp : List Addr), PE (X.blk s H scope (compEnvC scope cl C X.env) fp) elt (cE X.kx W0 te)) (hs : ∀ x, foldedSetIterable iter X.env x = pure x := by intro _; rfl) :
    PE X (.ListComp elt [⟨tg, iter, ifs, 0⟩] scope pos) (cE X.kx W (aLc ti ga tt te (own.map (·.2)))) := (pe_lc hc hN hi ok hg ht he hs).imp fun σ H Q h => lc_go (K := X.K) rfl gk hj (fun _ _ _ h => h) h
theorem s_setLc {i : Nat} {y : Str} {py spos : Pos} {elt tg iter : Expr} {ifs : List Expr} {scope : Scope} {own : List (Str × Nat)} {tt : AT} {te : AE} (hc : X.calm = true) (hN : X.N.Nodup) (hy : X.N[i]? = some y) (hyl : X.env.scope.names.lookup y = some .local)
    (hsw : swapsWith (.ListComp elt [⟨tg, iter, ifs, 0⟩] scope pos) (some (.Name y py)) spos.line X.env = pure true) (hi : PI X tg iter (cI X.kx W ti)) (ok : BlkOk X.N X.env.scope scope own) (gk : GOk X gc ga js) (hj : ∀ j ∈ js, j ∈ own.map (·.2))
    (hg : ∀ (s : Shared) (H : Hp) (C : Addr) (cl : List (Str × Addr)) (fp : List Addr), PG (X.blk s H scope (compEnvC scope cl C X.env) fp) tg gc) (ht : ∀ (s : Shared) (H : Hp) (C : Addr) (cl : List (Str × Addr)) (fp : List Addr), PTs (X.blk s H scope (compEnvC scope cl C X.env) fp) ifs (cT X.kx W0 tt))
    (he : ∀ (s : Shared) (H : Hp) (C : Addr) (cl : List (Str × Addr)) (fp : List Addr), PE (X.blk s H scope (compEnvC scope cl C X.env) fp) elt (cE X.kx W0 te)) (hs : ∀ x, foldedSetIterable iter X.env x = pure x := by intro _; rfl) :
    PS X (.Assign [.Name y py] (.ListComp elt [⟨tg, iter, ifs, 0⟩] scope pos) spos) (cS X.kx W (aSet i (aLc ti ga tt te (own.map (·.2))))) :=
  (ps_setLc hc hN hy hyl hsw hi ok hg ht he hs).imp fun D σ H ⟨I, L, F, ρ, AD, S, h, q⟩ => lc_go (K := X.K) rfl gk hj (fun _ _ _ h => h) ⟨I, L, F, ρ, _, AD.px, S, h, fun d L1 v I1 H1 h1 A1 e1 r1 => q.nx _ _ _ _ _ h1 A1 e1 ((S.rs.mono e1).set r1 i)⟩
theorem a_lcN {elt tg iter : Expr} {ifs : List Expr} {scope : Scope} {own : List (Str × Nat)} {tt : AT} {te : AE} {nw : List DV → Led → PD → Prop} (hn : ∀ ds L P, nw ds L P → newL ds L P) (hc : X.calm = true) (hN : X.N.Nodup) (hi : PI X tg iter (cI X.kx W ti)) (ok : BlkOk X.N X.env.scope scope own) (gk : GOk X gc ga js) (hj : ∀ j ∈ js, j ∈ own.map (·.2))
    (hg : ∀ (s : Shared) (H : Hp) (C : Addr) (cl : List (Str × Addr)) (fp : List Addr), PG (X.blk s H scope (compEnvC scope cl C X.env) fp) tg gc) (ht : ∀ (s : Shared) (H : Hp) (C : Addr) (cl : List (Str × Addr)) (fp : List Addr), PTs (X.blk s H scope (compEnvC scope cl C X.env) fp) ifs (cT X.kx W0 tt))
    (he : ∀ (s : Shared) (H : Hp) (C : Addr) (cl : List (Str × Addr)) (fp : List Addr), PE (X.blk s H scope (compEnvC scope cl C X.env) fp) elt (cE X.kx W0 te)) (hs : ∀ x, foldedSetIterable iter X.env x = pure x := by intro _; rfl) :
    PE X (.ListComp elt [⟨tg, iter, ifs, 0⟩] scope pos) (cE X.kx W (aLcN nw ti ga tt te (own.map (·.2)))) := (pe_lc hc hN hi ok hg ht he hs).imp fun σ H Q h => lc_go (K := X.K) rfl gk hj hn h
theorem s_setLcN {i : Nat} {y : Str} {py spos : Pos} {elt tg iter : Expr} {ifs : List Expr} {scope : Scope} {own : List (Str × Nat)} {tt : AT} {te : AE} {nw : List DV → Led → PD → Prop} (hn : ∀ ds L P, nw ds L P → newL ds L P) (hc : X.calm = true) (hN : X.N.Nodup) (hy : X.N[i]? = some y) (hyl : X.env.scope.names.lookup y = some .local)
    (hsw : swapsWith (.ListComp elt [⟨tg, iter, ifs, 0⟩] scope pos) (some (.Name y py)) spos.line X.env = pure true) (hi : PI X tg iter (cI X.kx W ti)) (ok : BlkOk X.N X.env.scope scope own) (gk : GOk X gc ga js) (hj : ∀ j ∈ js, j ∈ own.map (·.2))
    (hg : ∀ (s : Shared) (H : Hp) (C : Addr) (cl : List (Str × Addr)) (fp : List Addr), PG (X.blk s H scope (compEnvC scope cl C X.env) fp) tg gc) (ht : ∀ (s : Shared) (H : Hp) (C : Addr) (cl : List (Str × Addr)) (fp : List Addr), PTs (X.blk s H scope (compEnvC scope cl C X.env) fp) ifs (cT X.kx W0 tt))
    (he : ∀ (s : Shared) (H : Hp) (C : Addr) (cl : List (Str × Addr)) (fp : List Addr), PE (X.blk s H scope (compEnvC scope cl C X.env) fp) elt (cE X.kx W0 te)) (hs : ∀ x, foldedSetIterable iter X.env x = pure x := by intro _; rfl) :
    PS X (.Assign [.Name y py] (.ListComp elt [⟨tg, iter, ifs, 0⟩] scope pos) spos) (cS X.kx W (aSet i (aLcN nw ti ga tt te (own.map (·.2))))) :=
  (ps_setLc hc hN hy hyl hsw hi ok hg ht he hs).imp fun D σ H ⟨I, L, F, ρ, AD, S, h, q⟩ => lc_go (K := X.K) rfl gk hj hn ⟨I, L, F, ρ, _, AD.px, S, h, fun d L1 v I1 H1 h1 A1 e1 r1 => q.nx _ _ _ _ _ h1 A1 e1 ((S.rs.mono e1).set r1 i)⟩
end
end AL
namespace AL
open PySem PySem.Spec PyProof.Rows L2

/-! ### methods of lists of the ledger -/
abbrev AM := Addr → List DV → List DV → Led → PD → Prop
def AMt (k : Kx) (r : V → List V → Hp → VK → Prop) (ro : AM) : Prop := ∀ {I F H : Hp} {L : Led} {a : Addr} {xs ds : List DV} {us vs : List V} {P : PD} {Q : VK}, Ab k I L F H → L a = some (.lst xs) → H a = some (.lst us) → Rps k.K I xs us → Rps k.K I ds vs → ro a xs ds L P → Q2 k I F P Q → r (.ref a) vs H Q
/-- o.m(..), o a list that may change -/
def aLm (ro : AM) (te : AE) (t : AA) : AE := fun ρ L P px => te ρ L (fun x L1 => match x with
  | .ref a => (∃ ds, L1 a = some (.lst ds)) ∧ t ρ L1 (fun ds L2 => ∃ xs, L2 a = some (.lst xs) ∧ ro a xs ds L2 P) px
  | _ => False) px
section
variable {X : Cx} {W : WX} {o e : Expr} {es : List Expr} {te : AE} {t : AA} {name : Str} {apos cpos : Pos} {id : String} {r : V → List V → Hp → VK → Prop} {ro : AM}
theorem a_lm0 (pa : PySem.PlainAttrs "list") (slot : PySem.Slot "list" name id) (hty : typeOf (.builtin id) = pure (.type "method_descriptor")) (hm : MtR X id r) (hr : AMt X.kx r ro) (ho : PE X o (cE X.kx W te))
    (hbase : attributeBase o name X.env (eval o X.env) = eval o X.env := by rfl) (hline : (apos.endLine == cpos.line) = true := by rfl) : PE X (.Call (.Attribute o name apos) [] [] cpos) (cE X.kx W (aLm ro te aNil)) :=
  (pe_bm0 pa slot hty hm ho hbase hline).imp fun σ H Q ⟨I, L, F, ρ, P, px, S, h, q⟩ => ⟨I, L, F, ρ, _, px, S, h, fun x L1 xv I1 H1 h1 A1 e1 r1 => by
    cases r1 <;> try exact h1.elim
    obtain ⟨_, xs, e2, h2⟩ := h1
    obtain ⟨_, _, ob, e3, r3⟩ := A1.led _ _ e2
    cases r3 with
    | lst r => exact ⟨.inl ⟨rfl, _, SqL.of e3⟩, hr A1 e2 e3 r .nil h2 (q.mono e1)⟩⟩
theorem a_lm (pa : PySem.PlainAttrs "list") (slot : PySem.Slot "list" name id) (hty : typeOf (.builtin id) = pure (.type "method_descriptor")) (hm : MtR X id r) (hr : AMt X.kx r ro) (ho : PE X o (cE X.kx W te)) (ha : PA X (e :: es) (cA X.kx W t))
    (hbase : attributeBase o name X.env (eval o X.env) = eval o X.env := by rfl)
    (hfew : ((backTo cpos (starEach (e :: es) X.env)).all (fun x => !x.1) && (backToKw cpos (keywordEach [] X.env)).all (fun x => x.1.isSome) && decide ((e :: es).length + ([] : List Keyword).length + (if ([] : List Keyword).isEmpty then 0 else 1) < 30)) = true := by rfl)
    (hline : (apos.endLine == cpos.line) = true := by rfl) (hs : starEach (e :: es) X.env = (false, eval e X.env) :: starEach es X.env := by rfl) (hplain : (backTo cpos (starEach es X.env)).any (·.1) = false := by rfl) :
    PE X (.Call (.Attribute o name apos) (e :: es) [] cpos) (cE X.kx W (aLm ro te t)) :=
  (pe_bm pa slot hty hm ho ha hbase hfew hline hs hplain).imp fun σ H Q ⟨I, L, F, ρ, P, px, S, h, q⟩ => ⟨I, L, F, ρ, _, px, S, h, fun x L1 xv I1 H1 h1 A1 e1 r1 => by
    cases r1 <;> try exact h1.elim
    obtain ⟨⟨xs0, e0⟩, h1⟩ := h1
    obtain ⟨_, _, ob0, e3, r3⟩ := A1.led _ _ e0
    cases r3 with
    | lst r0 =>
    refine ⟨.inl ⟨rfl, _, SqL.of e3⟩, I1, L1, F, ρ, _, px, S.go A1 e1, h1, fun ds L2 vs I2 H2 ⟨xs, e2, h2⟩ A2 e4 r2 => ?_⟩
    obtain ⟨_, _, ob, e5, r5⟩ := A2.led _ _ e2
    cases r5 with
    | lst r => exact hr A2 e2 e5 r r2 h2 (q.mono (e1.trans e4))⟩
end
def mAppend : AM := fun a xs ds L P => match ds with
  | [d] => xs.length < sizeLine ∧ P .non (updL L a (.lst (xs ++ [d])))
  | _ => False
def mExtend : AM := fun a xs ds L P => match ds with
  | [y] => withL L y fun ys => xs.length + ys.length ≤ sizeLine ∧ P .non (updL L a (.lst (xs ++ ys)))
  | _ => False
def mPop : AM := fun a xs ds L P => match ds with
  | [] => ∃ d, xs[xs.length - 1]? = some d ∧ P d (updL L a (.lst xs.dropLast))
  | _ => False
def mReverse : AM := fun a xs ds L P => match ds with
  | [] => P .non (updL L a (.lst xs.reverse))
  | _ => False
def mClear : AM := fun a xs ds L P => match ds with
  | [] => P .non (updL L a (.lst []))
  | _ => False
section
variable {k : Kx}
theorem mAppend_ok : AMt k rAppend mAppend := by
  intro I F H L a xs ds us vs P Q A hl hh r rd h q
  unfold mAppend at h
  split at h
  · cases rd with | cons r1 rr => cases rr; exact ⟨a, us, _, rfl, rfl, hh, by rw [← r.length]; exact h.1, q _ _ _ _ _ h.2 (A.write hl (.lst (r.append (.cons r1 .nil)))) (Ex.refl _) .non⟩
  · exact h.elim
theorem mExtend_ok : AMt k rExtend mExtend := by
  intro I F H L a xs ds us vs P Q A hl hh r rd h q
  unfold mExtend at h
  split at h
  · cases rd with | cons r1 rr =>
    cases rr
    obtain ⟨b, ws, ys, rfl, hb, rb, hz, h⟩ := withL_ok A r1 h
    exact ⟨a, b, us, ws, rfl, rfl, hh, hb, by rw [← r.length, ← rb.length]; exact hz, q _ _ _ _ _ h (A.write hl (.lst (r.append rb))) (Ex.refl _) .non⟩
  · exact h.elim
theorem mPop_ok : AMt k rPop mPop := by
  intro I F H L a xs ds us vs P Q A hl hh r rd h q
  unfold mPop at h
  split at h
  · cases rd
    obtain ⟨d, hd, h⟩ := h
    obtain ⟨v, hv, rv⟩ := r.get hd
    exact ⟨a, us, v, rfl, rfl, hh, by rw [← r.length]; exact hv, q _ _ _ _ _ h (A.write hl (.lst r.dropLast)) (Ex.refl _) rv⟩
  · exact h.elim
theorem mReverse_ok : AMt k rReverse mReverse := by
  intro I F H L a xs ds us vs P Q A hl hh r rd h q
  unfold mReverse at h
  split at h
  · cases rd
    exact ⟨a, us, rfl, rfl, hh, q _ _ _ _ _ h (A.write hl (.lst r.reverse)) (Ex.refl _) .non⟩
  · exact h.elim
theorem mClear_ok : AMt k rClear mClear := by
  intro I F H L a xs ds us vs P Q A hl hh r rd h q
  unfold mClear at h
  split at h
  · cases rd
    exact ⟨a, us, rfl, rfl, hh, q _ _ _ _ _ h (A.write hl (.lst .nil)) (Ex.refl _) .non⟩
  · exact h.elim
end
section
variable {X : Cx} {W : WX} {o e : Expr} {te : AE} {t : AA} {apos cpos : Pos}
theorem a_append (ho : PE X o (cE X.kx W te)) (ha : PA X [e] (cA X.kx W t)) (hbase : attributeBase o "append" X.env (eval o X.env) = eval o X.env := by rfl)
    (hfew : ((backTo cpos (starEach [e] X.env)).all (fun x => !x.1) && (backToKw cpos (keywordEach [] X.env)).all (fun x => x.1.isSome) && decide ([e].length + ([] : List Keyword).length + (if ([] : List Keyword).isEmpty then 0 else 1) < 30)) = true := by rfl)
    (hline : (apos.endLine == cpos.line) = true := by rfl) (hs : starEach [e] X.env = (false, eval e X.env) :: starEach [] X.env := by rfl) : PE X (.Call (.Attribute o "append" apos) [e] [] cpos) (cE X.kx W (aLm mAppend te t)) :=
  a_lm PySem.F.plainAttrs_list PySem.F.slot_list_append PySem.F.type_list_append mt_append mAppend_ok ho ha hbase hfew hline hs
theorem a_extend (ho : PE X o (cE X.kx W te)) (ha : PA X [e] (cA X.kx W t)) (hbase : attributeBase o "extend" X.env (eval o X.env) = eval o X.env := by rfl)
    (hfew : ((backTo cpos (starEach [e] X.env)).all (fun x => !x.1) && (backToKw cpos (keywordEach [] X.env)).all (fun x => x.1.isSome) && decide ([e].length + ([] : List Keyword).length + (if ([] : List Keyword).isEmpty then 0 else 1) < 30)) = true := by rfl)
    (hline : (apos.endLine == cpos.line) = true := by rfl) (hs : starEach [e] X.env = (false, eval e X.env) :: starEach [] X.env := by rfl) : PE X (.Call (.Attribute o "extend" apos) [e] [] cpos) (cE X.kx W (aLm mExtend te t)) :=
  a_lm PySem.F.plainAttrs_list PySem.F.slot_list_extend PySem.F.type_list_extend mt_extend mExtend_ok ho ha hbase hfew hline hs
theorem a_pop (ho : PE X o (cE X.kx W te)) (hbase : attributeBase o "pop" X.env (eval o X.env) = eval o X.env := by rfl) (hline : (apos.endLine == cpos.line) = true := by rfl) : PE X (.Call (.Attribute o "pop" apos) [] [] cpos) (cE X.kx W (aLm mPop te aNil)) :=
  a_lm0 PySem.F.plainAttrs_list PySem.F.slot_list_pop PySem.F.type_list_pop mt_pop mPop_ok ho hbase hline
theorem a_reverse (ho : PE X o (cE X.kx W te)) (hbase : attributeBase o "reverse" X.env (eval o X.env) = eval o X.env := by rfl) (hline : (apos.endLine == cpos.line) = true := by rfl) : PE X (.Call (.Attribute o "reverse" apos) [] [] cpos) (cE X.kx W (aLm mReverse te aNil)) :=
  a_lm0 PySem.F.plainAttrs_list PySem.F.slot_list_reverse PySem.F.type_list_reverse mt_reverse mReverse_ok ho hbase hline
theorem a_clear (ho : PE X o (cE X.kx W te)) (hbase : attributeBase o "clear" X.env (eval o X.env) = eval o X.env := by rfl) (hline : (apos.endLine == cpos.line) = true := by rfl) : PE X (.Call (.Attribute o "clear" apos) [] [] cpos) (cE X.kx W (aLm mClear te aNil)) :=
  a_lm0 PySem.F.plainAttrs_list PySem.F.slot_list_clear PySem.F.type_list_clear mt_clear mClear_ok ho hbase hline
end

/-! ### built-ins over lists -/
def bAll : AC := fun ds L P => match ds with
  | [x] => withL L x fun ds => ∃ bs : List Bool, ds = bs.map DV.bl ∧ P (.bl (bs.all id)) L
  | _ => False
def bAny : AC := fun ds L P => match ds with
  | [x] => withL L x fun ds => ∃ bs : List Bool, ds = bs.map DV.bl ∧ P (.bl (bs.any id)) L
  | _ => False
def bSum : AC := fun ds L P => match ds with
  | [x] => withL L x fun ds => ∃ ns : List Int, ds = ns.map DV.int ∧ P (.int ns.sum) L
  | _ => False
def bMaxL : AC := fun ds L P => match ds with
  | [x] => withL L x fun ds => ∃ ns : List Int, ds = ns.map DV.int ∧ 0 < ns.length ∧ ∀ m, m ∈ ns → (∀ y, y ∈ ns → y ≤ m) → P (.int m) L
  | _ => False
def bMinL : AC := fun ds L P => match ds with
  | [x] => withL L x fun ds => ∃ ns : List Int, ds = ns.map DV.int ∧ 0 < ns.length ∧ ∀ m, m ∈ ns → (∀ y, y ∈ ns → m ≤ y) → P (.int m) L
  | _ => False
def bSorted : AC := fun ds L P => match ds with
  | [x] => withL L x fun ds => ∃ ns : List Int, ds = ns.map DV.int ∧ ∀ ns' : List Int, ns'.Perm ns → ns'.Pairwise (· ≤ ·) → newL (ns'.map DV.int) L P
  | _ => False
section
variable {k : Kx}
theorem bAll_ok : ACl k (rAll k.K) bAll := by
  intro I F H L ds vs P Q A r h q
  unfold bAll at h
  split at h
  · obtain ⟨v, rfl, r1⟩ := one_rp r
    obtain ⟨a, us, xs, rfl, ha, rr, bs, rfl, h⟩ := withL_ok A r1 h
    rw [rr.bls] at ha
    exact ⟨a, bs, rfl, SqL.of ha, here A (.bl _) h q⟩
  · exact h.elim
theorem bAny_ok : ACl k (rAny k.K) bAny := by
  intro I F H L ds vs P Q A r h q
  unfold bAny at h
  split at h
  · obtain ⟨v, rfl, r1⟩ := one_rp r
    obtain ⟨a, us, xs, rfl, ha, rr, bs, rfl, h⟩ := withL_ok A r1 h
    rw [rr.bls] at ha
    exact ⟨a, bs, rfl, SqL.of ha, here A (.bl _) h q⟩
  · exact h.elim
theorem bSum_ok : ACl k (rSum k.K) bSum := by
  intro I F H L ds vs P Q A r h q
  unfold bSum at h
  split at h
  · obtain ⟨v, rfl, r1⟩ := one_rp r
    obtain ⟨a, us, xs, rfl, ha, rr, bs, rfl, h⟩ := withL_ok A r1 h
    rw [rr.ints] at ha
    exact ⟨a, bs, rfl, SqL.of ha, here A (.int _) h q⟩
  · exact h.elim
theorem bMaxL_ok : ACl k (rMax k.K) bMaxL := by
  intro I F H L ds vs P Q A r h q
  unfold bMaxL at h
  split at h
  · obtain ⟨v, rfl, r1⟩ := one_rp r
    obtain ⟨a, us, xs, rfl, ha, rr, bs, rfl, hp, h⟩ := withL_ok A r1 h
    rw [rr.ints] at ha
    exact ⟨a, bs, rfl, SqL.of ha, hp, fun m h1 h2 => here A (.int _) (h m h1 h2) q⟩
  · exact h.elim
theorem bMinL_ok : ACl k (rMin k.K) bMinL := by
  intro I F H L ds vs P Q A r h q
  unfold bMinL at h
  split at h
  · obtain ⟨v, rfl, r1⟩ := one_rp r
    obtain ⟨a, us, xs, rfl, ha, rr, bs, rfl, hp, h⟩ := withL_ok A r1 h
    rw [rr.ints] at ha
    exact ⟨a, bs, rfl, SqL.of ha, hp, fun m h1 h2 => here A (.int _) (h m h1 h2) q⟩
  · exact h.elim
theorem bSorted_ok : ACl k (rSortedI k.K) bSorted := by
  intro I F H L ds vs P Q A r h q
  unfold bSorted at h
  split at h
  · obtain ⟨v, rfl, r1⟩ := one_rp r
    obtain ⟨a, us, xs, rfl, ha, rr, bs, rfl, h⟩ := withL_ok A r1 h
    rw [rr.ints] at ha
    exact ⟨a, bs, rfl, SqL.of ha, fun ns p h1 h2 hp => newL_ok A (Rps.of_ints ns) (h ns h1 h2) q p hp⟩
  · exact h.elim
end
section
variable {X : Cx} {W : WX} {e : Expr} {t : AA} {p pos : Pos}
theorem a_all (hc : X.calm = true) (hg : Gl X "all") (hm : X.mg "all" = none) (ha : PA X [e] (cA X.kx W t)) (he : starEach [e] X.env = (false, eval e X.env) :: starEach [] X.env := by rfl) : PE X (.Call (.Name "all" p) [e] [] pos) (cE X.kx W (aCB bAll t)) := a_callB (cr_all hc) bAll_ok hg hm (by decide +kernel) ha (he := he)
theorem a_any (hc : X.calm = true) (hg : Gl X "any") (hm : X.mg "any" = none) (ha : PA X [e] (cA X.kx W t)) (he : starEach [e] X.env = (false, eval e X.env) :: starEach [] X.env := by rfl) : PE X (.Call (.Name "any" p) [e] [] pos) (cE X.kx W (aCB bAny t)) := a_callB (cr_any hc) bAny_ok hg hm (by decide +kernel) ha (he := he)
theorem a_sum (hc : X.calm = true) (hg : Gl X "sum") (hm : X.mg "sum" = none) (ha : PA X [e] (cA X.kx W t)) (he : starEach [e] X.env = (false, eval e X.env) :: starEach [] X.env := by rfl) : PE X (.Call (.Name "sum" p) [e] [] pos) (cE X.kx W (aCB bSum t)) := a_callB (cr_sum hc) bSum_ok hg hm (by decide +kernel) ha (he := he)
theorem a_maxL (hc : X.calm = true) (hg : Gl X "max") (hm : X.mg "max" = none) (ha : PA X [e] (cA X.kx W t)) (he : starEach [e] X.env = (false, eval e X.env) :: starEach [] X.env := by rfl) : PE X (.Call (.Name "max" p) [e] [] pos) (cE X.kx W (aCB bMaxL t)) := a_callB (cr_max hc) bMaxL_ok hg hm (by decide +kernel) ha (he := he)
theorem a_minL (hc : X.calm = true) (hg : Gl X "min") (hm : X.mg "min" = none) (ha : PA X [e] (cA X.kx W t)) (he : starEach [e] X.env = (false, eval e X.env) :: starEach [] X.env := by rfl) : PE X (.Call (.Name "min" p) [e] [] pos) (cE X.kx W (aCB bMinL t)) := a_callB (cr_min hc) bMinL_ok hg hm (by decide +kernel) ha (he := he)
theorem a_sorted (hg : Gl X "sorted") (hm : X.mg "sorted" = none) (ha : PA X [e] (cA X.kx W t)) (he : starEach [e] X.env = (false, eval e X.env) :: starEach [] X.env := by rfl) : PE X (.Call (.Name "sorted" p) [e] [] pos) (cE X.kx W (aCB bSorted t)) := a_callB cr_sortedI bSorted_ok hg hm (by decide +kernel) ha (he := he)
end

/-! ### while -/
def aWhile (c : AT) (tb : AS) : AS := fun AD ρ L => ∃ Wh : Nat → Sl → Led → Prop, (∃ m, Wh m ρ L) ∧ ∀ m ρ' L', Wh m ρ' L' → c ρ' L' (fun b L1 => (b = true → tb { AD with nx := fun ρ2 L2 => ∃ m', m' < m ∧ Wh m' ρ2 L2, ct := fun ρ2 L2 => ∃ m', m' < m ∧ Wh m' ρ2 L2, bk := AD.nx } ρ' L1) ∧ (b = false → AD.nx ρ' L1)) AD.px

/-! ### try -/
structure Caught (K : PySem.W.Frag) (c : Addr) (cc : Value) (b : Bool) : Prop where
  ex : ExcC K c
  is : PySem.W.exmOne K (.ref c) cc = some b
def aTryO (K : PySem.W.Frag) (cc : Value) (suite : Addr → AS) (tb : AS) : AS := fun AD ρ L => tb { AD with px := fun c ρ' L' => ∃ b, Caught K c cc b ∧ (b = true → suite c { AD with px := noPX } ρ' L') ∧ (b = false → AD.px c ρ' L') } ρ L
/-- .. as the name in slot i -/
def aTryA (K : PySem.W.Frag) (cc : Value) (i : Nat) (suite : Addr → Addr → AS) (tb : AS) : AS := fun AD ρ L => tb { AD with px := fun c ρ' L' => ∃ b, Caught K c cc b ∧ (b = true → ∀ a, suite c a { AD with nx := fun ρ2 L2 => AD.nx (ρ2.set i none) L2, bk := fun ρ2 L2 => AD.bk (ρ2.set i none) L2, ct := fun ρ2 L2 => AD.ct (ρ2.set i none) L2, px := noPX } (ρ'.set i (some (.ref a))) L') ∧ (b = false → AD.px c ρ' L') } ρ L
/-- the suite's text, for an exception of a known class -/
def suiteT (k : Kx) (t : Addr → AS) (cls : Value) (d : Option Addr) : TS := fun D σ H => ∃ c, cls = .ref c ∧ d = none ∧ ExcC k.K c ∧ cS k W0 (t c) D σ H
theorem suite_of {X : Cx} {sts : List Stmt} {k : Kx} {t : Addr → AS} {cls : Value} {d : Option Addr} (h : ∀ c, cls = .ref c → d = none → ExcC k.K c → PSs X sts (cS k W0 (t c))) : PSs X sts (suiteT k t cls d) :=
  ⟨fun pins s σ H D I ⟨c, e1, e2, e3, q⟩ => (h c e1 e2 e3).run pins s σ H D I q⟩
theorem S2.unslot {k : Kx} {I F : Hp} {P : Sl → Led → Prop} {Q : L2.St → Hp → Prop} (h : S2 k I F P Q) (i : Nat) : S2 k I F (fun ρ L => P (ρ.set i none) L) (fun σ H => Q (σ.set i none) H) :=
  fun ρ' L' σ' I' H' p A e r => h _ _ _ _ _ p A e (r.setNone i)
section
variable {X : Cx} {W : WX} {x n : Str} {cc : Value} {i : Nat} {body suite : List Stmt} {b₀ : Stmt} {np pos pos' : Pos} {tb : AS}
theorem s_tryO {ts : Addr → AS} (hs : X.stack = X.env :: X.outer) (hf : X.env.frame = some X.env.locals) (hc : Names X x cc) (tk : L2N.Takes X W)
    (hb : ∀ (W' : WX) (pn : List (Addr × Obj)) (xe : Value → Shared → Prop), L2N.Takes (X.tr pn xe) W' → PassesOwn (model X.prog X.w) X.A X.env xe → PSs (X.tr pn xe) body (cS X.kx W' tb))
    (hsu : ∀ (a : Addr) (oe : Obj) (c : Addr) (pn : List (Addr × Obj)), ExcC X.K c → Zc (.ref c) none oe → (∃ vs, oe.data = .fields vs) → PSs (X.suite a ((a, oe) :: pn)) (b₀ :: suite) (cS X.kx W0 (ts c))) :
    PS X (.Try body [.ExceptHandler (some (.Name x np)) none (b₀ :: suite) pos'] [] [] pos) (cS X.kx W (aTryO X.K cc ts tb)) := by
  refine (L2N.ps_try_many (l := [(cc, fun a cls d => suiteT X.kx ts cls d)]) (tb := fun W' => cS X.kx W' tb) hs hf tk hb (.cons hc (fun a oe cls d pn hz hv => suite_of fun c e1 e2 e3 => by subst e1; subst e2; exact hsu a oe c pn e3 hz.zc hv) .nil)).imp ?_
  rintro D σ H ⟨I, L, F, ρ, AD, S, h, q⟩
  refine ⟨I, L, F, ρ, _, ⟨S.ab, S.rs, ?_⟩, h, q.nx, q.rt, q.bk, q.ct⟩
  rintro c ρ' σ' L' I' H' ⟨b, hc, h1, h2⟩ A e r
  exact ⟨b, hc.is, fun hb a ha => ⟨c, rfl, rfl, hc.ex, I', L', F, ρ', { AD with px := noPX }, ⟨A, r, fun _ _ _ _ _ _ z => z.elim⟩, h1 hb, (q.mono e).nx, (q.mono e).rt, (q.mono e).bk, (q.mono e).ct⟩, fun hb => S.xx _ _ _ _ _ _ (h2 hb) A e r⟩
theorem s_tryA {ts : Addr → Addr → AS} (hs : X.stack = X.env :: X.outer) (hf : X.env.frame = some X.env.locals) (hN : X.N.Nodup) (hi : X.N[i]? = some n) (hln : X.env.kindOf n = some .local) (hc : Names X x cc) (tk : L2N.Takes X W)
    (hb : ∀ (W' : WX) (pn : List (Addr × Obj)) (xe : Value → Shared → Prop), L2N.Takes (X.tr pn xe) W' → PassesOwn (model X.prog X.w) X.A X.env xe → PSs (X.tr pn xe) body (cS X.kx W' tb))
    (hsu : ∀ (a : Addr) (oe : Obj) (c : Addr) (pn : List (Addr × Obj)), ExcC X.K c → L2N.Zn (.ref c) none oe → (∃ vs, oe.data = .fields vs) → PSs (X.suite a ((a, oe) :: pn)) (b₀ :: suite) (cS X.kx W0 (ts c a))) :
    PS X (.Try body [.ExceptHandler (some (.Name x np)) (some n) (b₀ :: suite) pos'] [] [] pos) (cS X.kx W (aTryA X.K cc i ts tb)) := by
  refine (L2N.ps_try_as (tb := fun W' => cS X.kx W' tb) (ts := fun a cls d => suiteT X.kx (fun c => ts c a) cls d) hs hf hN hi hln hc tk hb (fun a oe cls d pn hz hv => suite_of fun c e1 e2 e3 => by subst e1; subst e2; exact hsu a oe c pn e3 hz hv)).imp ?_
  rintro D σ H ⟨I, L, F, ρ, AD, S, h, q⟩
  refine ⟨I, L, F, ρ, _, ⟨S.ab, S.rs, ?_⟩, h, q.nx, q.rt, q.bk, q.ct⟩
  rintro c ρ' σ' L' I' H' ⟨b, hc, h1, h2⟩ A e r
  refine ⟨b, hc.is, fun hb a ha => ⟨c, rfl, rfl, hc.ex, I', L', F, _, { AD with nx := fun ρ2 L2 => AD.nx (ρ2.set i none) L2, bk := fun ρ2 L2 => AD.bk (ρ2.set i none) L2, ct := fun ρ2 L2 => AD.ct (ρ2.set i none) L2, px := noPX }, ⟨A, r.set (.ref a) i, fun _ _ _ _ _ _ z => z.elim⟩, h1 hb a, (q.mono e).nx.unslot i, (q.mono e).rt, (q.mono e).bk.unslot i, (q.mono e).ct.unslot i⟩, fun hb => S.xx _ _ _ _ _ _ (h2 hb) A e r⟩
/-- isinstance(e, C), e the exception held at a -/
def bIsE (K : PySem.W.Frag) (D a : Addr) : AC := fun ds L P => match ds with
  | [.ref b, c] => b = a ∧ withCl c fun u => ∃ r, PySem.W.kitOne K (.ref D) u = some r ∧ P (.bl r) L
  | _ => False
theorem bIsE_ok {k : Kx} {D a : Addr} : ACl k (rIsE k.K D a) (bIsE k.K D a) := by
  intro I F H L ds vs P Q A r h q
  unfold bIsE at h
  split at h
  · obtain ⟨v, w, rfl, r1, r2⟩ := two_rp r
    obtain ⟨rfl, h⟩ := h
    cases r1
    cases r2 <;> try exact h.elim
    case ty m =>
      obtain ⟨b, hb, h⟩ := h
      exact ⟨_, _, b, rfl, fun u z => z, hb, here A (.bl _) h q⟩
    case ref C =>
      obtain ⟨b, hb, h⟩ := h
      exact ⟨_, _, b, rfl, fun u z => z, hb, here A (.bl _) h q⟩
  · exact h.elim
theorem a_isE {a D : Addr} {oe : Obj} {pn : List (Addr × Obj)} {e e2 : Expr} {t : AA} {p : Pos} (C : ExcC X.K D) (hz : L2N.Zn (.ref D) none oe) (hv : ∃ vs, oe.data = .fields vs) (hg : Gl (X.suite a ((a, oe) :: pn)) "isinstance") (hm : X.mg "isinstance" = none) (ha : PA (X.suite a ((a, oe) :: pn)) [e, e2] (cA X.kx W t))
    (he : starEach [e, e2] X.env = (false, eval e X.env) :: starEach [e2] X.env := by rfl) (hpl : (backTo pos (starEach [e2] X.env)).any (·.1) = false := by rfl) : PE (X.suite a ((a, oe) :: pn)) (.Call (.Name "isinstance" p) [e, e2] [] pos) (cE X.kx W (aCB (bIsE X.K D a) t)) :=
  a_callB (X := X.suite a ((a, oe) :: pn)) (call_isE C hz.zc hv) bIsE_ok hg hm (by decide +kernel) ha (he := he) (hpl := hpl)
theorem s_while {c : Expr} {tc : AT} (hp : PassesOwn (model X.prog X.w) X.A X.env X.xe) (hc : PT X c (cT X.kx W tc)) (hb : PSs X body (cS X.kx W tb)) : PS X (.While c body [] pos) (cS X.kx W (aWhile tc tb)) :=
  (ps_while hp hc hb).imp fun D σ H ⟨I, L, F, ρ, AD, S, ⟨Wh, ⟨m0, w0⟩, turn⟩, q⟩ => by
    refine ⟨fun m σ' H' => ∃ I' L' ρ', Ab X.kx I' L' F H' ∧ Ex I I' ∧ RpS X.K I' ρ' σ' ∧ Wh m ρ' L', ⟨m0, I, L, ρ, S.ab, Ex.refl _, S.rs, w0⟩, ?_⟩
    rintro m σ' H' ⟨I', L', ρ', A', e', r', w'⟩
    refine ⟨I', L', F, ρ', _, AD.px, ⟨A', r', S.xx.mono e'⟩, turn m ρ' L' w', fun b L1 I1 H1 h1 A1 e1 => ?_⟩
    have e2 := e'.trans e1
    cases b with
    | false => exact iteF (q.nx _ _ _ _ _ (h1.2 rfl) A1 e2 (r'.mono e1))
    | true =>
      refine iteT ⟨fun σ2 H2 => ∃ m', m' < m ∧ ∃ I' L' ρ', Ab X.kx I' L' F H2 ∧ Ex I I' ∧ RpS X.K I' ρ' σ2 ∧ Wh m' ρ' L', fun σ2 H2 ⟨m', l, z⟩ => ⟨m', l, z⟩, I1, L1, F, ρ', { AD with nx := fun ρ2 L2 => ∃ m', m' < m ∧ Wh m' ρ2 L2, ct := fun ρ2 L2 => ∃ m', m' < m ∧ Wh m' ρ2 L2, bk := AD.nx }, ⟨A1, r'.mono e1, S.xx.mono e2⟩, h1.1 rfl, ?_⟩
      exact ⟨fun ρ3 L3 σ3 I3 H3 ⟨m', l, z⟩ A3 e3 r3 => ⟨m', l, I3, L3, ρ3, A3, e2.trans e3, r3, z⟩, q.rt.mono e2, q.nx.mono e2, fun ρ3 L3 σ3 I3 H3 ⟨m', l, z⟩ A3 e3 r3 => ⟨m', l, I3, L3, ρ3, A3, e2.trans e3, r3, z⟩⟩
end
end AL
namespace AL
open PySem PySem.Spec PyProof.Rows L2

theorem nft {p : Prop} (h : false = true) : p := by cases h
theorem ntf {p : Prop} (h : true = false) : p := by cases h
def aNotB (te : AE) : AE := fun ρ L P px => te ρ L (fun d L1 => match d with
  | .bl b => P (.bl (!b)) L1
  | _ => False) px
section
variable {X : Cx} {W : WX} {a b e : Expr} {ta tb te : AE} {pos p2 : Pos}
theorem a_notB (ha : PE X a (cE X.kx W ta)) : PE X (.UnaryOp .Not a pos) (cE X.kx W (aNotB ta)) :=
  (pe_not ha).imp fun σ H Q ⟨I, L, F, ρ, P, px, S, h, q⟩ => ⟨I, L, F, ρ, _, px, S, h, fun d L1 v I1 H1 h1 A1 e1 r1 => by
    cases d <;> first | exact h1.elim | skip
    cases r1
    exact ⟨_, rfl, here A1 (.bl _) h1 (q.mono e1)⟩⟩
theorem g_name (i : Nat) {x : Str} (hN : X.N.Nodup) (hi : X.N[i]? = some x := by rfl) (hx : Loc X.env.scope x := by first | exact Or.inl rfl | exact Or.inr rfl)
    (hf : X.fn x = true ∨ X.env.scope.names.lookup x = some .local := by first | exact .inl rfl | exact .inr rfl | assumption) : PG X (.Name x pos) (L2.gName i) := pg_name hN hi hx hf
/-- (x, y, ..) = e -/
def aAsgT (te : AE) (js : List Nat) : AS := fun AD ρ L => te ρ L (fun d L1 => gT js d ρ L1 fun ρ2 L2 => AD.nx ρ2 L2) AD.px
theorem s_asgT {tg : Expr} {gc : TG} {js : List Nat} (he : PE X e (cE X.kx W te)) (hg : PG X tg gc) (gk : GOk X gc (gT js) js) (hs : swapsWithSole [tg] e pos.line X.env = pure false := by rfl) (hw : swappedStores [tg] e X.env = pure none := by rfl)
    (h1 : (assignEach [tg] X.env).map (·.2) = [assign tg X.env] := by rfl) : PS X (.Assign [tg] e pos) (cS X.kx W (aAsgT te js)) :=
  (ps_asg he hg hs hw h1).imp fun D σ H ⟨I, L, F, ρ, AD, S, h, q⟩ => ⟨I, L, F, ρ, _, AD.px, S, h, fun d L1 v I1 H1 h1 A1 e1 r1 => gk.go (k := X.kx) rfl A1 (S.rs.mono e1) r1 h1 fun ρ' σ' us h2 r2 _ => by
    unfold gT at h1
    cases d <;> first | exact h1.elim | skip
    exact q.nx _ _ _ _ _ h2 A1 e1 r2⟩

end
/-! ### in, of flat items -/
def flV : DV → V
  | .non => .non
  | .bl b => .bl b
  | .int i => .int i
  | .str x => .str x
  | _ => .ref 0
def flatD (d : DV) : Bool := match d with
  | .non => true
  | .bl _ => true
  | .int _ => true
  | .str _ => true
  | _ => false
def inD (x : DV) (ds : List DV) : Bool := inV (flV x) (ds.map flV)
theorem flat_rp {K : PySem.W.Frag} {I : Hp} {d : DV} {v : V} (r : Rp K I d v) (h : flatD d = true) : v = flV d ∧ flatV v = true := by
  cases r <;> first | exact ⟨rfl, rfl⟩ | cases h
theorem flats_rp {K : PySem.W.Frag} {I : Hp} : ∀ {ds : List DV} {vs : List V}, Rps K I ds vs → ds.all flatD = true → vs = ds.map flV ∧ vs.all flatV = true
  | _, _, .nil, _ => ⟨rfl, rfl⟩
  | _, _, .cons h r, q => by
    rw [List.all_cons, Bool.and_eq_true] at q
    obtain ⟨e1, f1⟩ := flat_rp h q.1
    obtain ⟨e2, f2⟩ := flats_rp r q.2
    refine ⟨by rw [e1, e2]; rfl, by rw [List.all_cons, f1, f2]; rfl⟩
theorem flat_ints (ns : List Int) : (ns.map DV.int).all flatD = true := by rw [List.all_map]; exact List.all_eq_true.mpr fun _ _ => rfl
theorem inD_int (i : Int) : ∀ ns : List Int, inD (.int i) (ns.map DV.int) = decide (i ∈ ns)
  | [] => rfl
  | n :: ns => by
    have ih := inD_int i ns
    unfold inD inV at ih ⊢
    rw [List.map_cons, List.map_cons, List.any_cons, ih]
    show ((n == i) || decide (i ∈ ns)) = _
    by_cases h : n = i
    · subst h; simp
    · have : ¬ i = n := fun z => h z.symm
      simp [h, this]
def oIn (neg : Bool) : AR2 := fun x y L P => flatD x = true ∧ withSq L y fun ds => ds.all flatD = true ∧ P (.bl (neg ^^ inD x ds)) L
theorem oIn_ok {k : Kx} {neg : Bool} : AOp k (rIn k.K neg) (oIn neg) := by
  intro I F H L x y xv yv P Q A rx ry h q
  obtain ⟨fx, h⟩ := h
  obtain ⟨a, vs, ds, rfl, hs, r, fd, h⟩ := withSq_ok A ry h
  obtain ⟨rfl, e2⟩ := flat_rp rx fx
  obtain ⟨e3, e4⟩ := flats_rp r fd
  refine ⟨a, vs, rfl, hs, e2, e4, here A (.bl _) ?_ q⟩
  rw [e3]
  cases neg with
  | true => rw [if_pos rfl]; rw [Bool.true_xor] at h; exact h
  | false => rw [if_neg Bool.false_ne_true]; rw [Bool.false_xor] at h; exact h
section
variable {X : Cx} {W : WX} {a b e : Expr} {ta tb te : AE} {pos p2 : Pos}
theorem a_in (ha : PE X a (cE X.kx W ta)) (hb : PE X b (cE X.kx W tb)) (hm : behindInMarks .In b = false := by rfl) : PE X (.Compare a [.In] [b] pos) (cE X.kx W (aBin (oIn false) ta tb)) := a_cmp op_in_seq oIn_ok ha hb hm
theorem t_in (ha : PE X a (cE X.kx W ta)) (hb : PE X b (cE X.kx W tb)) (hm : behindInMarks .In b = false := by rfl) : PT X (.Compare a [.In] [b] pos) (cT X.kx W (aTest (aBin (oIn false) ta tb))) := t_cmp op_in_seq oIn_ok ha hb hm
theorem a_nin (ha : PE X a (cE X.kx W ta)) (hb : PE X b (cE X.kx W tb)) (hm : behindInMarks .NotIn b = false := by rfl) : PE X (.Compare a [.NotIn] [b] pos) (cE X.kx W (aBin (oIn true) ta tb)) := a_cmp op_notIn_seq oIn_ok ha hb hm
theorem t_nin (ha : PE X a (cE X.kx W ta)) (hb : PE X b (cE X.kx W tb)) (hm : behindInMarks .NotIn b = false := by rfl) : PT X (.Compare a [.NotIn] [b] pos) (cT X.kx W (aTest (aBin (oIn true) ta tb))) := t_cmp op_notIn_seq oIn_ok ha hb hm
end
theorem okDF {P : Program} {w : World} {K : PySem.W.Frag} {mg : Str → Option Value} {base : Heap} {x qual : Str} {params : Arguments} {body : List Stmt} {scope : Scope} {dvs : List V} {kws : List (Str × V)} {f : Addr} {fd : FuncData} {N ps : List Str} {k : Nat} {sp : Sp} (F : FunD K x qual params body scope dvs kws f fd) (S : FnScope N ps scope) (len : ∀ vs H Q E, sp vs H Q E → vs.length = ps.length)
    (h : ∀ (cdv : Value) (A : Around) (outer : List Env) (s : Shared) (H : Hp) (vs : List V) (Q : VK) (E : XK), Room k (A.deeper (envOfC qual scope s.heap.objs.size f cdv)) → sp vs H Q E → ∃ t, PSs (cxOf (L2N.CX P w) P w K mg base N qual scope f cdv A outer s H E) body t ∧ t { nx := fun _ H' => Q .non H', rt := Q } (start N vs) H) :
    FnOk P w K mg base (L2N.CX P w) (k + 1) f fd ps sp := by
  obtain ⟨_, _, _, _, _, _, _, cdv, _, _, rfl, l1, l2, _⟩ := F.ex
  exact fn_ofF l1 l2 S len (h cdv)
/-- a def with defaults -/
theorem fun_okD {P : Program} {w : World} {K : PySem.W.Frag} {mg : Str → Option Value} {base : Heap} {x qual : Str} {st : Stmt} {f : Addr} {fd : FuncData} {N ps : List Str} {k : Nat} {asp : ASp} {tb : AS} {dvs : List V} {kws : List (Str × V)} (F : FunD K x qual (defArgs st) (defBody st) (defScope st) dvs kws f fd) (S : FnScope N ps (defScope st))
    (len : ∀ ds L P R, asp ds L P R → ds.length = ps.length)
    (der : ∀ (cdv : Value) (A : Around) (outer : List Env) (s : Shared) (H : Hp) (E : XK), Room k (A.deeper (envOfC qual (defScope st) s.heap.objs.size f cdv)) →
      PSs (cxOf (L2N.CX P w) P w K mg base N qual (defScope st) f cdv A outer s H E) (defBody st) (cS ⟨P, w, K⟩ (fun cls d _ H => E cls d H) tb))
    (read : ∀ ds L P R, asp ds L P R → tb ⟨fun _ L => P .non L, P, fun _ _ => False, fun _ _ => False, fun c _ L => R c L⟩ (startA N.length ds) L) : FnOk P w K mg base (L2N.CX P w) (k + 1) f fd ps (liftSp ⟨P, w, K⟩ asp) := by
  refine okDF F S (fun vs H Q E ⟨ds, I, L, F, P, R, A, r, h, _, _⟩ => by rw [← r.length]; exact len ds L P R h) (fun cdv A outer s H vs Q E hr h => ?_)
  obtain ⟨ds, I, L, F0, P0, R, Ab0, r, h, q, qx⟩ := h
  refine ⟨_, der cdv A outer s H E hr, ⟨I, L, F0, _, _, ⟨Ab0, startA_rp r, fun c ρ' σ' L' I' H' h' A' e' _ => qx c L' I' H' h' A' e'⟩, read ds L P0 R h, ⟨fun ρ' L' σ' I' H' h' A' e' _ => q _ _ _ _ _ h' A' e' .non, q, fun _ _ _ _ _ z => z.elim, fun _ _ _ _ _ z => z.elim⟩⟩⟩
/-- the program's own classes, by name -/
structure Gx where
  k : Kx
  PlayError : Addr
  BadValue : Addr
  BadText : Addr
  Unknown : Addr
  NoMove : Addr
  Dyadic : Addr
  Yard : Addr
  Order : Addr
  Forms : Addr
  Sums : Addr
  Values : Addr
  Wall : Addr
  Heat : Addr
  Heaps : Addr
  Hedge : Addr
  Floor : Addr
  Frogs : Addr
  Cakes : Addr
  Table : Addr
  Reader : Addr
  Meeting : Addr
  Plans : Addr
  Match : Addr
  kSIGNS : Addr
  kSTEPF : Addr
  kSTEPD : Addr
  kCUTS : Addr
/-- the reading of a def: what its promise lets begin, its body does -/
def Reads (n : Nat) (asp : ASp) (tb : AS) : Prop := ∀ ds L P R, asp ds L P R → tb ⟨fun _ L => P .non L, P, fun _ _ => False, fun _ _ => False, fun c _ L => R c L⟩ (startA n ds) L
end AL
namespace AL
open PySem PySem.Spec PyProof.Rows L2
/-! ### operators of an own class -/
section
variable {prog : Program} {w : World} {A : Around} {E : Value → Shared → Prop} {s : Shared} {K : PySem.W.Frag} {x y C f : Addr} {ox oy : Obj} {od oe : Option Obj}
open PySem.W in
theorem bin_same {op : Operator} {Q : Value → Shared → Prop} (X : K.In s.heap) (I : PySem.W.InstAt s.heap x ox C od) (J : PySem.W.InstAt s.heap y oy C oe) (hc : PySem.W.selfFirst K C = true)
    (hs : PySem.W.findIn K (.ref C) (PySem.dunder op.info.2) = some (some (.ref f))) (hf : PySem.W.isFn K (.ref f) = true)
    (h : wpAny (model prog w) A (call (.ref f) [.ref x, .ref y]) (PySem.W.CmpBack Q) E s) : wpAny (model prog w) A (binaryOp op (.ref x) (.ref y)) Q E s := by
  obtain ⟨cd, rest, hcd, hm⟩ := PySem.W.ksp_first hc
  rcases hi : op.info with ⟨sym, nm'⟩
  rw [hi] at hs
  dsimp only at hs
  have one := PySem.W.ksp_try X I hs hf h
  obtain ⟨hh, g, d, tt, os⟩ := s
  have L1 : PySem.W.Looks (model prog w) hh (typeOf (.ref x)) (.ref C) := I.type
  have L2 : PySem.W.Looks (model prog w) hh (typeOf (.ref y)) (.ref C) := J.type
  have L3 : PySem.W.Looks (model prog w) hh (fillsNumberSlot (.ref C) nm') true := PySem.W.fills_K X hcd hm hs
  simp only [binaryOp, hi]
  refine wpAny_holding (wpAny_bind ?_)
  unfold binaryOp1
  refine wpAny_bind (L1.at (wpAny_bind (L2.at (wpAny_bind (L3.at ?_)))))
  have hb : (Value.ref C == Value.ref C) = true := by simp
  simp only [hb, if_true]
  ksp_lk
  refine wpAny_mono one (fun r s' hr' => ?_) fun _ _ e => e
  obtain ⟨v, rfl, hq⟩ := hr'
  ksp_lk
  exact hq
open PySem.W in
theorem neg_own {Q : Value → Shared → Prop} (X : K.In s.heap) (I : PySem.W.InstAt s.heap x ox C od) (hs : PySem.W.findIn K (.ref C) "__neg__" = some (some (.ref f))) (hf : PySem.W.isFn K (.ref f) = true)
    (h : wpAny (model prog w) A (call (.ref f) [.ref x]) Q E s) : wpAny (model prog w) A (unaryOp .USub (.ref x)) Q E s := by
  unfold unaryOp
  refine wpAny_holding ?_
  exact wpAny_bind (special_fn X I hs (beq_iff_eq.mp hf) (wpAny_mono h (fun _ _ z => wpAny_pure z) fun _ _ z => z))
end
/-- a value that stands for data is no NotImplemented -/
theorem back_of {v : V} {u : Value} {Q : Value → Shared → Prop} {s : Shared} (r : RelV v u) (h : Q u s) : PySem.W.CmpBack Q u s := by
  unfold PySem.W.CmpBack
  split
  · cases v <;> first | (cases r; done) | (obtain ⟨t, hq⟩ := r; cases hq; done)
  · exact h
section
variable {X : Cx} {W : WX} {a b : Expr} {ta tb : AE} {pos : Pos} {k : Nat} {f C : Addr} {fd : FuncData} {ps : List Str} {asp : ASp} {op : Operator}
/-- a op b, both of the class C -/
def aOpM (C : Addr) (asp : ASp) (ta tb : AE) : AE := fun ρ L P px => ta ρ L (fun x L1 => tb ρ L1 (fun y L2 => isC L2 x C (isC L2 y C (asp [x, y] L2 P fun c L' => px c ρ L'))) px) px
theorem a_opM (ha : PE X a (cE X.kx W ta)) (hb : PE X b (cE X.kx W tb)) (hc : PySem.W.selfFirst X.K C = true) (hm : Meth X.K C (PySem.dunder op.info.2) f) (F : FnOk X.prog X.w X.K X.mg X.base (L2N.CX X.prog X.w) k f fd ps (liftSp X.kx asp)) (hr : Room k X.A) (hbb : Binds X.K fd ps []) (tk : L2N.Takes X W) :
    PE X (.BinOp a op b pos) (cE X.kx W (aOpM C asp ta tb)) := by
  refine ⟨fun pins s σ H Q I h => ?_⟩
  obtain ⟨I0, L, F0, ρ, P, px, S, h, q⟩ := h
  refine wpAny_BinOp (binT ha hb (R := fun x y H2 => ∃ I2 L2 dx dy, Ab X.kx I2 L2 F0 H2 ∧ Ex I0 I2 ∧ Rp X.K I2 dx x ∧ Rp X.K I2 dy y ∧ isC L2 dx C (isC L2 dy C (asp [dx, dy] L2 P fun c L' => px c ρ L'))) I
    ⟨I0, L, F0, ρ, _, px, S, h, fun dx L1 xv I1 H1 h1 A1 e1 r1 => ⟨I1, L1, F0, ρ, _, px, S.go A1 e1, h1, fun dy L2 yv I2 H2 h2 A2 e2 r2 => ⟨I2, L2, dx, dy, A2, e1.trans e2, r1.mono e2, r2, h2⟩⟩⟩
    fun v u s2 x y H2 J rx ry ⟨I2, L2, dx, dy, A2, e2, rdx, rdy, h2⟩ => ?_)
  obtain ⟨xa, xd, xf, rfl, hx, _, h2⟩ := isC_ok A2 rdx h2
  obtain ⟨ya, yd, yf, rfl, hy, _, h2⟩ := isC_ok A2 rdy h2
  cases rx
  cases ry
  obtain ⟨mx, Ox, _⟩ := ins_get J.hok hx
  obtain ⟨my, Oy, _⟩ := ins_get J.hok hy
  obtain ⟨ox, Jx, _⟩ := Ox.look
  obtain ⟨oy, Jy, _⟩ := Oy.look
  refine bin_same J.kIn Jx Jy hc hm.at_ hm.fn ?_
  exact wpAny_mono (goes (us := [.ref xa, .ref ya]) (vs := [.ref xa, .ref ya]) (dvs := []) F hr hbb .nil (L2N.passAt tk σ) J (.cons rfl (.cons rfl .nil)) (lift_at (S.go A2 e2) (.cons rdx (.cons rdy .nil)) h2 (q.mono e2)))
    (fun r s' z => let ⟨z1, z2, z3, z4, z5⟩ := z; back_of z4 ⟨z1, z2, z3, z4, z5⟩) fun _ _ z => z
/-- -a of the class C -/
def aUnM (C : Addr) (asp : ASp) (ta : AE) : AE := fun ρ L P px => ta ρ L (fun x L1 => isC L1 x C (asp [x] L1 P fun c L' => px c ρ L')) px
theorem a_unM (ha : PE X a (cE X.kx W ta)) (hm : Meth X.K C "__neg__" f) (F : FnOk X.prog X.w X.K X.mg X.base (L2N.CX X.prog X.w) k f fd ps (liftSp X.kx asp)) (hr : Room k X.A) (hbb : Binds X.K fd ps []) (tk : L2N.Takes X W) :
    PE X (.UnaryOp .USub a pos) (cE X.kx W (aUnM C asp ta)) := by
  refine ⟨fun pins s σ H Q I h => ?_⟩
  obtain ⟨I0, L, F0, ρ, P, px, S, h, q⟩ := h
  refine UnaryOp_ (thn (ha.run pins s σ H (fun x H1 => ∃ I1 L1 dx, Ab X.kx I1 L1 F0 H1 ∧ Ex I0 I1 ∧ Rp X.K I1 dx x ∧ isC L1 dx C (asp [dx] L1 P fun c L' => px c ρ L')) I ⟨I0, L, F0, ρ, _, px, S, h, fun dx L1 xv I1 H1 h1 A1 e1 r1 => ⟨I1, L1, dx, A1, e1, r1, h1⟩⟩) fun v s1 ⟨x, H1, J, rx, I1, L1, dx, A1, e1, r1, h1⟩ => ?_)
  obtain ⟨xa, xd, xf, rfl, hx, _, h2⟩ := isC_ok A1 r1 h1
  cases rx
  obtain ⟨mx, Ox, _⟩ := ins_get J.hok hx
  obtain ⟨ox, Jx, _⟩ := Ox.look
  refine neg_own J.kIn Jx hm.at_ hm.fn ?_
  exact goes (us := [.ref xa]) (vs := [.ref xa]) (dvs := []) F hr hbb .nil (L2N.passAt tk σ) J (.cons rfl .nil) (lift_at (S.go A1 e1) (.cons r1 .nil) h2 (q.mono e1))
end
/-! ### an instance made by a call with keywords -/
section
variable {X : Cx} {W : WX} {e : Expr} {es : List Expr} {kws : List Keyword} {te : AE} {t tk : AA} {pos p kpos : Pos} {nm : Option Str} {k n : Nat} {f C : Addr} {fd : FuncData} {ps ks : List Str} {asp mk : ASp} {x : Str} {g : List Value → List Value → List Value} {gV : List V → List V → List V}
theorem k_nil : PK X [] (cA X.kx W aNil) := ⟨fun pos pins s σ H Q I h => by
  obtain ⟨I0, L, F, ρ, P, px, S, h, q⟩ := h
  exact pk_nil.run pos pins s σ H Q I (q _ _ _ _ _ h S.ab (Ex.refl _) .nil)⟩
theorem k_cons (ha : PE X e (cE X.kx W te)) (hr : PK X kws (cA X.kx W t)) : PK X (⟨nm, e, kpos⟩ :: kws) (cA X.kx W (aCons te t)) := ⟨fun pos pins s σ H Q I h => by
  obtain ⟨I0, L, F, ρ, P, px, S, h, q⟩ := h
  exact (pk_cons ha hr).run pos pins s σ H Q I ⟨I0, L, F, ρ, _, px, S, h, fun x L1 xv I1 H1 h1 A1 e1 r1 => ⟨I1, L1, F, ρ, _, px, S.go A1 e1, h1, fun xs L2 vs I2 H2 h2 A2 e2 r2 => q _ _ _ _ _ h2 A2 (e1.trans e2) (.cons (r1.mono e2) r2)⟩⟩⟩
def aMakeK (n m : Nat) (ord : List DV → List DV → List DV) (mk : ASp) (t tk : AA) : AE := fun ρ L P px => t ρ L (fun ds L1 => tk ρ L1 (fun zs L2 => ds.length = n ∧ zs.length = m ∧ mk (ord ds zs) L2 P fun c L' => px c ρ L') px) px
/-- how data and values are put in order alike -/
def OrdOk (K : PySem.W.Frag) (ord : List DV → List DV → List DV) (gV : List V → List V → List V) : Prop := ∀ (I : Hp) (ds zs : List DV) (vs ws : List V) (x : V), Rps K I ds vs → Rps K I zs ws → ∃ rest, gV (x :: vs) ws = x :: rest ∧ Rps K I (ord ds zs) rest
theorem run_mkN {pins : List (Addr × Obj)} {σ : L2.St} {H : Hp} {s : Shared} {Q : VK} {us ws : List Value} {vs zs : List V} {sp : Sp} {E : XK} (M : Mk X.K C f) (F : FnOk X.prog X.w X.K X.mg X.base (L2N.CX X.prog X.w) k f fd ps sp) (hr : Room (k + 1) X.A) (hb : KBn X.K fd ps (n + 1) ks g gV)
    (hx : PassesAt (L2N.CX X.prog X.w) X σ E) (I : Inv X pins σ H s) (r : Vals vs us) (rz : Vals zs ws) (l1 : vs.length = n) (l2 : zs.length = ks.length)
    (h : ∀ x dx, H x = none → H dx = none → dx ≠ x → sp (gV (.ref x :: vs) zs) (upd (upd H dx (.own x)) x (.ins C dx [])) (fun v H2 => v = .non ∧ Q (.ref x) H2) E) : wpAny (model X.prog X.w) X.A (call (.ref C) us (ks.zip ws)) (EP X pins σ Q) X.xe s := by
  have hq := h (s.heap.objs.size + 1) s.heap.objs.size (I.hok.fresh (Nat.le_succ _)) (I.hok.fresh (Nat.le_refl _)) (Nat.ne_of_lt (Nat.lt_succ_self _))
  have J := Inv.made (C := C) I
  have r1 : Vals (V.ref (s.heap.objs.size + 1) :: vs) (Value.ref (s.heap.objs.size + 1) :: us) := .cons rfl r
  have r2 := hb.rel r1 rz
  have e1 : (Value.ref (s.heap.objs.size + 1) :: us).length = n + 1 := r1.length.symm.trans (congrArg Nat.succ l1)
  have e2 : ws.length = ks.length := rz.length.symm.trans l2
  refine wpAny_call (make_map (f := f) I.kIn M.makes M.init (beq_iff_eq.mp M.fn) (codeAny_mono (F.run _ X.stack _ _ ⟨Value.ref (s.heap.objs.size + 1) :: us, ks.zip ws⟩ (g (Value.ref (s.heap.objs.size + 1) :: us) ws) _ _ E (hr.make C us (ks.zip ws))
    (J.env0.make C us (ks.zip ws)) (hb.to _ (Value.ref (s.heap.objs.size + 1) :: us) ws J.kIn e1 e2) r2 hq) fun r s' z => ?_))
  cases r with
  | error e => exact hx pins _ _ e s' J z
  | ok fl =>
    cases fl with
    | ret u =>
      obtain ⟨v, H', J3, rv, ev, q3⟩ := J.after z
      subst ev
      exact ⟨rv, V.ref (s.heap.objs.size + 1), H', J3, (rfl : Value.ref _ = Value.ref _), q3⟩
    | next => exact z.elim
    | brk => exact z.elim
    | cont => exact z.elim
theorem makeN_end {pins : List (Addr × Obj)} {σ : L2.St} {H : Hp} {s : Shared} {Q : VK} {us ws : List Value} {vs zs : List V} {ds es : List DV} {I : Hp} {L : Led} {F0 : Hp} {ρ : Sl} {px : PX} {P : PD} {ord : List DV → List DV → List DV} (M : Mk X.K C f) (c : FOk X.K C []) (F : FnOk X.prog X.w X.K X.mg X.base (L2N.CX X.prog X.w) k f fd ps (liftSp X.kx asp)) (hmk : MkOk X.kx C asp mk []) (hr : Room (k + 1) X.A) (hb : KBn X.K fd ps (n + 1) ks g gV) (ho : OrdOk X.K ord gV) (tk : L2N.Takes X W)
    (J : Inv X pins σ H s) (S : Stt X.kx W σ H I L F0 ρ px) (r : Vals vs us) (rz : Vals zs ws) (rd : Rps X.K I ds vs) (re : Rps X.K I es zs) (q : Q2 X.kx I F0 P Q) (l1 : ds.length = n) (l2 : es.length = ks.length) (h : mk (ord ds es) L P fun c L' => px c ρ L') :
    wpAny (model X.prog X.w) X.A (call (.ref C) us (ks.zip ws)) (EP X pins σ Q) X.xe s := by
  refine run_mkN M F hr hb (E := fun cls d H' => W cls d σ H') (L2N.passAt tk σ) J r rz (by rw [← rd.length]; exact l1) (by rw [← re.length]; exact l2) fun x dx hx hdx ne => ?_
  have S1 : Stt X.kx W σ _ I (updL L x (.ins C dx [] [])) F0 ρ px := S.go (made_ab S.ab c hx hdx ne) (Ex.refl _)
  obtain ⟨rest, e1, r1⟩ := ho I ds es vs zs (.ref x) rd re
  rw [e1]
  have hm := hmk _ L P _ h x dx (S.ab.freeL hx)
  rw [List.append_nil] at hm
  refine lift_at S1 (.cons (.ref x) r1) hm fun d L2 v I2 H2 z A2 e2 r2 => ?_
  obtain ⟨rfl, z⟩ := z
  cases r2
  exact ⟨rfl, z.ok A2 (.ref x) (q.mono e2)⟩
theorem a_makeK0 {ord : List DV → List DV → List DV} {tz : AA} {m : Nat} (M : Mk X.K C f) (c : FOk X.K C []) (F : FnOk X.prog X.w X.K X.mg X.base (L2N.CX X.prog X.w) k f fd ps (liftSp X.kx asp)) (hmk : MkOk X.kx C asp mk []) (hr : Room (k + 1) X.A) (hg : Gl X x) (hm : X.mg x = some (.ref C)) (hb : KBn X.K fd ps 1 ks g gV) (ho : OrdOk X.K ord gV) (tk : L2N.Takes X W) (hkw : PK X kws (cA X.kx W tz))
    (hall : (backToKw pos (keywordEach kws X.env)).all (·.1.isSome) = true := by rfl) (hks : (backToKw pos (keywordEach kws X.env)).filterMap (·.1) = ks := by rfl) (hdb : (x == ("__debug__" : Str)) = false := by decide)
    (hpl : ((backTo pos (starEach [] X.env)).any (·.1) || (backToKw pos (keywordEach kws X.env)).any (·.1.isNone)) = false := by rfl) (hl : ks.length = m := by rfl) : PE X (.Call (.Name x p) [] kws pos) (cE X.kx W (aMakeK 0 m ord mk aNil tz)) := by
  subst hl
  refine ⟨fun pins s σ H Q I h => ?_⟩
  obtain ⟨I0, L, F0, ρ, P, px, S, h, q⟩ := h
  refine wpAny_Call_Name_kw (ld_glob I hg hm ?_ hdb)
  refine PySem.W.callWith_KW0 (h₀ := X.base) I.ok.mod.kin M.kp hall ?_ hpl
  refine thn (hkw.run pos pins s σ H (fun zs H2 => ∃ es I2 L2, Ab X.kx I2 L2 F0 H2 ∧ Ex I0 I2 ∧ Rps X.K I2 es zs ∧ es.length = ks.length ∧ mk (ord [] es) L2 P fun c L' => px c ρ L') I ⟨I0, L, F0, ρ, _, px, S, h, fun es L2 zs I2 H2 h2 A2 e2 r2 => ⟨es, I2, L2, A2, e2, r2, h2.2.1, h2.2.2⟩⟩) fun ws s2 ⟨zs, H2, J, rz, es, I2, L2, A2, e2, r2, l2, h2⟩ => ⟨J.kIn, ?_⟩
  rw [hks]
  exact makeN_end (us := []) (vs := []) M c F hmk hr hb ho tk J (S.go A2 e2) .nil rz .nil r2 (q.mono e2) rfl l2 h2
theorem a_makeK {ord : List DV → List DV → List DV} {tz : AA} {m : Nat} (M : Mk X.K C f) (c : FOk X.K C []) (F : FnOk X.prog X.w X.K X.mg X.base (L2N.CX X.prog X.w) k f fd ps (liftSp X.kx asp)) (hmk : MkOk X.kx C asp mk []) (hr : Room (k + 1) X.A) (hg : Gl X x) (hm : X.mg x = some (.ref C)) (hb : KBn X.K fd ps (n + 1) ks g gV) (ho : OrdOk X.K ord gV) (tk : L2N.Takes X W) (ha : PA X (e :: es) (cA X.kx W t)) (hkw : PK X kws (cA X.kx W tz))
    (hall : (backToKw pos (keywordEach kws X.env)).all (·.1.isSome) = true := by rfl) (hks : (backToKw pos (keywordEach kws X.env)).filterMap (·.1) = ks := by rfl) (hdb : (x == ("__debug__" : Str)) = false := by decide)
    (he : starEach (e :: es) X.env = (false, eval e X.env) :: starEach es X.env := by rfl) (hpl : ((backTo pos (starEach (e :: es) X.env)).any (·.1) || (backToKw pos (keywordEach kws X.env)).any (·.1.isNone)) = false := by rfl) (hl : ks.length = m := by rfl) : PE X (.Call (.Name x p) (e :: es) kws pos) (cE X.kx W (aMakeK n m ord mk t tz)) := by
  subst hl
  refine ⟨fun pins s σ H Q I h => ?_⟩
  obtain ⟨I0, L, F0, ρ, P, px, S, h, q⟩ := h
  refine wpAny_Call_Name_kw (ld_glob I hg hm ?_ hdb)
  refine PySem.W.callWith_KW (h₀ := X.base) I.ok.mod.kin M.kp hall (thn (ha.run pos pins s σ H (fun vs H1 => ∃ ds I1 L1, Ab X.kx I1 L1 F0 H1 ∧ Ex I0 I1 ∧ Rps X.K I1 ds vs ∧ tz ρ L1 (fun zs L2 => ds.length = n ∧ zs.length = ks.length ∧ mk (ord ds zs) L2 P fun c L' => px c ρ L') px) I ⟨I0, L, F0, ρ, _, px, S, h, fun ds L1 vs I1 H1 h1 A1 e1 r1 => ⟨ds, I1, L1, A1, e1, r1, h1⟩⟩) fun us s1 ⟨vs, H1, J1, rv, ds, I1, L1, A1, e1, r1, h1⟩ => ?_) hpl he
  refine thn (hkw.run pos pins s1 σ H1 (fun zs H2 => ∃ es I2 L2, Ab X.kx I2 L2 F0 H2 ∧ Ex I0 I2 ∧ Rps X.K I2 ds vs ∧ Rps X.K I2 es zs ∧ ds.length = n ∧ es.length = ks.length ∧ mk (ord ds es) L2 P fun c L' => px c ρ L') J1 ⟨I1, L1, F0, ρ, _, px, S.go A1 e1, h1, fun es L2 zs I2 H2 h2 A2 e2 r2 => ⟨es, I2, L2, A2, e1.trans e2, r1.mono e2, r2, h2.1, h2.2.1, h2.2.2⟩⟩) fun ws s2 ⟨zs, H2, J, rz, es, I2, L2, A2, e2, rd, r2, l1, l2, h2⟩ => ⟨J.kIn, ?_⟩
  rw [hks]
  exact makeN_end M c F hmk hr hb ho tk J (S.go A2 e2) rv rz rd r2 (q.mono e2) l1 l2 h2
/-- the three ways of putting in order: keywords then the default; keywords; keywords turned -/
def kA {α : Type} (us its ws : List α) : List α := us ++ (ws ++ its)
def kS {α : Type} (us _ ws : List α) : List α := us ++ ws
def kR {α : Type} (us _ ws : List α) : List α := us ++ ws.reverse
theorem vals_rev : ∀ {vs : List V} {us : List Value}, Vals vs us → Vals vs.reverse us.reverse
  | _, _, .nil => .nil
  | _, _, .cons h r => by rw [List.reverse_cons, List.reverse_cons]; exact (vals_rev r).append (.cons h .nil)
theorem kA_vals {vs ds zs : List V} {us its ws : List Value} (a : Vals vs us) (b : Vals ds its) (c : Vals zs ws) : Vals (kA vs ds zs) (kA us its ws) := a.append (c.append b)
theorem kS_vals {vs ds zs : List V} {us its ws : List Value} (a : Vals vs us) (_ : Vals ds its) (c : Vals zs ws) : Vals (kS vs ds zs) (kS us its ws) := a.append c
theorem kR_vals {vs ds zs : List V} {us its ws : List Value} (a : Vals vs us) (_ : Vals ds its) (c : Vals zs ws) : Vals (kR vs ds zs) (kR us its ws) := a.append (vals_rev c)
theorem kA_ord {K : PySem.W.Frag} {dd : List DV} {dv : List V} (h : ∀ I, Rps K I dd dv) : OrdOk K (fun ds zs => ds ++ (zs ++ dd)) (fun vs zs => kA vs dv zs) := fun I ds zs vs ws x r1 r2 => ⟨vs ++ (ws ++ dv), rfl, r1.append (r2.append (h I))⟩
theorem kS_ord {K : PySem.W.Frag} {dv : List V} : OrdOk K (fun ds zs => ds ++ zs) (fun vs zs => kS vs dv zs) := fun I ds zs vs ws x r1 r2 => ⟨vs ++ ws, rfl, r1.append r2⟩
theorem kR_ord {K : PySem.W.Frag} {dv : List V} : OrdOk K (fun ds zs => ds ++ zs.reverse) (fun vs zs => kR vs dv zs) := fun I ds zs vs ws x r1 r2 => ⟨vs ++ ws.reverse, rfl, r1.append r2.reverse⟩
end
end AL
/-! ### enumerate of a tuple -/
namespace PySem
open Sem (wp)
open AutoSeq1 (wpAny_loadPart')
theorem meets_enumerate_newT (l : Addr) (items : Array Value) (n : Nat) (dct : Option Addr) (sl : Array (Option Value)) :
    Meets (Builtin.«enumerate.__new__» ⟨[.type "enumerate", .ref l], []⟩) (fun _ R s => s.heap.get? l = some { cls := .type "tuple", dict := dct, data := .seq items n, slots := sl } ∧
      R (.ok (.ret (.ref (s.heap.push { cls := .type "tuple_iterator", data := .fields #[.ref l, .int 0 0] }).objs.size)))
        { s with heap := (s.heap.push { cls := .type "tuple_iterator", data := .fields #[.ref l, .int 0 0] }).push { cls := .type "enumerate", data := .fields #[.none, .bool false, .ref s.heap.objs.size, rawInt 0, .none, .none] } }) :=
  .of_wp fun prog w A R s h => by
    obtain ⟨hp, g, d, tk, os⟩ := s; obtain ⟨hl, h⟩ := h
    have hsub := sub_enumerate
    have hL : Heap.IsTuple (Shared.heap ⟨hp, g, d, tk, os⟩) l items := ⟨_, hl, rfl, n, rfl⟩
    wp_walk using wpAny_loadPart' hl
    refine wpAny_stack_any fun st => wpAny_pure ?_
    split
    · rename_i c _ _ _ _ _
      cases (c == Value.type "enumerate")
      · wp_walk using wpAny_loadPart' hl, wpAny_pyIter_tuple hL
        exact ⟨_, rfl, h⟩
      · wp_walk using wpAny_loadPart' hl, wpAny_pyIter_tuple hL
        exact ⟨_, rfl, h⟩
    · wp_walk using wpAny_loadPart' hl, wpAny_pyIter_tuple hL
      exact ⟨_, rfl, h⟩
theorem call_enumerate_tuple {prog : Program} {w : World} {A : Around} {E : Value → Shared → Prop} {s : Shared} {l : Addr} {items : Array Value} {Q : Value → Shared → Prop} (hL : s.heap.IsTuple l items)
    (h : ∀ h', IsEnum h' (s.heap.objs.size + 1) s.heap.objs.size 0 .none → h'.IsTupleIter s.heap.objs.size l 0 → h'.objs.size = s.heap.objs.size + 2 →
      (∀ b o, s.heap.get? b = some o → h'.get? b = some o) → Q (.ref (s.heap.objs.size + 1)) { s with heap := h' }) :
    wpAny (model prog w) A (call (.type "enumerate") [.ref l]) Q E s := by
  obtain ⟨⟨c, dct, dt, sl⟩, hl, hc, n, hd⟩ := hL
  replace hc : c = .type "tuple" := hc
  replace hd : dt = .seq items n := hd
  subst hc hd
  refine callType_new F.called_enumerate (by decide) (F.typeCall_enumerate_1 _) (F.newCall_enumerate_1 _) (fun obj => F.args_object_init_2 obj _) F.entry_enumerate_new
    (meets_enumerate_newT l items n dct sl) ⟨hl, ?_⟩
  have hz : (s.heap.push { cls := .type "tuple_iterator", data := .fields #[.ref l, .int 0 0] }).objs.size = s.heap.objs.size + 1 := Heap.size_push ..
  show _ ∧ _
  rw [hz]
  have he : IsEnum ((s.heap.push { cls := .type "tuple_iterator", data := .fields #[.ref l, .int 0 0] }).push
      { cls := .type "enumerate", data := .fields #[.none, .bool false, .ref s.heap.objs.size, rawInt 0, .none, .none] }) (s.heap.objs.size + 1) s.heap.objs.size 0 .none := by
    have := Heap.get?_push_size (s.heap.push { cls := .type "tuple_iterator", data := .fields #[.ref l, .int 0 0] })
      (o := { cls := .type "enumerate", data := .fields #[.none, .bool false, .ref s.heap.objs.size, rawInt 0, .none, .none] }) rfl
    rw [hz] at this; exact this
  refine ⟨⟨_, he, rfl⟩, h _ he ⟨_, Heap.get?_push_of_some _ (Heap.get?_push_size _ rfl), rfl, rfl⟩ (by rw [Heap.size_push, hz]) fun b o x => Heap.get?_push_of_some _ (Heap.get?_push_of_some _ x)⟩
theorem wpAny_pyNext_enum_endT {prog : Program} {w : World} {A : Around} {E : Value → Shared → Prop} {s : Shared} {e it t : Addr} {items : Array Value} {k i : Nat} {old : Value} {Q : Option Value → Shared → Prop} (hh : A.in1.handled = none)
    (he : IsEnum s.heap e it (k : Nat) old) (hit : s.heap.IsTupleIter it t i) (ht : s.heap.IsTuple t items) (hx : items[i]? = none)
    (hQ : ∀ h', Heap.ExtBut it s.heap h' → Q none { s with heap := h' }) : wpAny (model prog w) A (pyNext (.ref e)) Q E s := by
  have hT : s.TypeIs (.ref e) "enumerate" := ⟨_, he, rfl⟩
  unfold pyNext
  refine wpAny_bind (wpAny_attempt (wpAny_callSpecial?_slot (name := Str.ofString "__next__") hT F.slot_enumerate_next
    (wpAny_call_entry F.slot_enumerate_next hT F.entry_enumerate_next ?_ (F.args_enumerate_next_1 _))))
  show wpAny _ _ (field (.ref e) 2 >>= _) _ _ _
  refine wpAny_bind (wpAny_field he rfl (x := .ref it) rfl ?_)
  refine wpAny_bind (wpAny_nextOf_tuple_end hh hit ht hx fun h' x he' hx' => ?_)
  obtain ⟨o, ho, hc⟩ := hx'
  refine wpAny_bind (wpAny_isInstance (T := "StopIteration") (b := true) ⟨o, ho, hc⟩ isSubtype_stop ?_)
  exact wpAny_pure (hQ _ he')
end PySem
namespace AL
open PySem PySem.Spec PyProof.Rows L2
def Itet (K : PySem.W.Frag) (a : Addr) : It :=
  ⟨fun i H => ∃ (xs : List V) (x : V), SqT K H a xs ∧ xs[i]? = some x, fun i H v H' => ∃ T x, v = .ref T ∧ H T = none ∧ H' = upd H T (.tup [.int (i : Nat), x]) ∧ ∀ xs, SqT K H a xs → xs[i]? = some x, fun i H => ∃ xs : List V, SqT K H a xs ∧ xs.length ≤ i⟩
theorem turn_enumT {P : Program} {w : World} {K : PySem.W.Frag} {elts : List Expr} {kk : Nat} {tpos : Pos} (a e it : Addr) :
    Turn P w K (.Tuple elts kk tpos) (Itet K a) [e, it] e (fun i h => (∃ old, IsEnum h e it ((i : Nat) : Int) old) ∧ h.IsTupleIter it a i ∧ e ≠ it ∧ a ≠ e ∧ a ≠ it) where
  mem := by simp
  obj := fun i h st b hb => by
    obtain ⟨⟨old, he⟩, ⟨o, ho, hc, hd⟩, _⟩ := st
    have e' : b = e ∨ b = it := by simpa using hb
    rcases e' with z | z
    · rw [z]; exact ⟨_, he, fun v q => nomatch q⟩
    · rw [z]; exact ⟨o, ho, fun v q => by rw [hd] at q; cases q⟩
  keep := fun i h h' st k => let ⟨⟨old, he⟩, hi, hne⟩ := st; ⟨⟨old, k e (by simp) _ he⟩, hi.at fun o q => k it (by simp) o q, hne⟩
  item := by
    intro X hP hw hK hc i pins s σ H E I hf st hg
    subst hP hw hK
    obtain ⟨⟨old, he⟩, hit, hne, hae, hai⟩ := st
    obtain ⟨xs, x, hq, hx⟩ := hg
    obtain ⟨its, rv, p, hz⟩ := I.tuple hq
    obtain ⟨u, hu, ru⟩ := rv.get hx
    have hel : e < s.heap.objs.size := Heap.lt_size he
    have hil : it < s.heap.objs.size := by obtain ⟨_, q, _⟩ := hit; exact Heap.lt_size q
    have ht : s.heap.IsTuple a its.toArray := p
    have hlt : i < its.toArray.size := by
      have := (List.getElem?_eq_some_iff.mp hu).1
      simpa using this
    have hh : X.A.in1.handled = none := I.ok.hd hc
    refine wpAny_pyNext_enum_itemD (Draws.tuple hh it a hai its.toArray) he ⟨hit, ht⟩ hlt hne (by simp; exact ⟨hne, Ne.symm hae⟩) fun x' h' tk hx' ho hst' hT hsz hk => ?_
    have ex : x' = u := by
      have hx' : its.toArray[i]? = some x' := hx'
      rw [show its.toArray[i]? = its[i]? by simp, hu] at hx'
      exact (Option.some.inj hx').symm
    subst ex
    refine ⟨_, rfl, wpAny_letOwnedTupleGo_enum (s := { s with heap := h', toks := tk + 1 }) ho fun h'' he' sb => ?_⟩
    have hT2 : h''.get? s.heap.objs.size = some { cls := .type "tuple", data := .seq #[.int i tk, x'] } := (sb.2 _ (Nat.ne_of_gt hel)).trans hT
    have new : ObjOk X.prog X.w (upd H s.heap.objs.size (.tup [.int (i : Nat), x])) h'' s.heap.objs.size (.tup [.int (i : Nat), x]) :=
      ⟨by show 2 ≤ sizeLine; decide, [.int i tk, x'], .cons ⟨_, rfl⟩ (.cons ru .nil), ⟨_, hT2, rfl, _, rfl⟩⟩
    have I1 : Inv X pins σ (upd H s.heap.objs.size (.tup [.int (i : Nat), x])) { s with heap := h'', toks := tk + 1 } :=
      I.turnedNew (ch := [e, it]) (fun b ob hb q => (sb.2 b (fun z => hb (by simp [z]))).trans (hk b ob (fun z => hb (by simp [z])) (fun z => hb (by simp [z])) q)) hf (Nat.le_refl _) new
    refine ⟨.ref s.heap.objs.size, _, I1, rfl, ⟨_, x, rfl, I.hok.fresh (Nat.le_refl _), rfl, fun ys hy => by rw [I.tuple_inj hy hq]; exact hx⟩, ⟨⟨x', ?_⟩, hst'.1.at fun o q => (sb.2 it (Ne.symm hne)).trans q, hne, hae, hai⟩, fun b hb => ?_⟩
    · have e1 : ((i + 1 : Nat) : Int) = (i : Int) + 1 := by omega
      rw [e1]; exact he'
    · have hb' : b < s.heap.objs.size := by
        have e' : b = e ∨ b = it := by simpa using hb
        rcases e' with z | z
        · rw [z]; exact hel
        · rw [z]; exact hil
      rw [upd_ne (Nat.ne_of_lt hb')]
      exact (hf b hb).1
  done := by
    intro X hP hw hK hc i pins s σ H E I hf st hg
    subst hP hw hK
    obtain ⟨⟨old, he⟩, hit, hne, hae, hai⟩ := st
    obtain ⟨xs, hq, hx⟩ := hg
    obtain ⟨its, rv, p, hz⟩ := I.tuple hq
    obtain ⟨f0, f1, f2, f3, f4, f5⟩ := hf it (by simp)
    have hl := rv.length
    have hh : X.A.in1.handled = none := I.ok.hd hc
    exact wpAny_pyNext_enum_endT hh he hit p (by simp; omega) fun h' eb => ⟨rfl, I.turned (t' := s.toks) (fun b o hb q => eb b o hb q) f0 f1 f3 f4 f5⟩
  self := fun A i s Q E st h => let ⟨⟨_, he⟩, _⟩ := st; wpAny_pyIter_enum he h
/-- enumerate(e), e a list or a tuple -/
theorem pi_enumB {X : Cx} {e : Expr} {ta : TA} {p pos tpos : Pos} {elts : List Expr} {kk : Nat} (hg : Gl X "enumerate") (hm : X.mg "enumerate" = none) (ha : PA X [e] ta) (hs : starEach [e] X.env = [(false, eval e X.env)] := by rfl) :
    PI X (.Tuple elts kk tpos) (.Call (.Name "enumerate" p) [e] [] pos) (fun σ H R => ta σ H fun vs H1 => ∃ a, vs = [.ref a] ∧ (((∃ xs, SqL X.K H1 a xs) ∧ R (Ite X.K a) H1) ∨ ((∃ xs, SqT X.K H1 a xs) ∧ R (Itet X.K a) H1))) := by
  refine ⟨fun pins s σ H R I h => ?_⟩
  refine Call_ (ld_blt I hg hm boot_enumerate (PyProof.Rows.callWith_type1 (thn (ha.run pos pins s σ H _ I h) fun us s1 ⟨vs, H1, I1, r1, q1⟩ => ?_) hs rfl))
  obtain ⟨a, ex, q⟩ := q1
  subst ex
  cases r1 with
  | cons r rr =>
    cases rr
    cases r
    have fresh : ∀ b ∈ [s1.heap.objs.size + 1, s1.heap.objs.size], FpOk X pins H1 b := fun b hb => by
      have e' : b = s1.heap.objs.size + 1 ∨ b = s1.heap.objs.size := by simpa using hb
      have hle : s1.heap.objs.size ≤ b := by
        rcases e' with z | z
        · rw [z]; exact Nat.le_add_right _ _
        · rw [z]; exact Nat.le_refl _
      exact I1.fpOk hle (I1.hok.fresh hle)
    rcases q with ⟨⟨xs, hq⟩, q⟩ | ⟨⟨xs, hq⟩, q⟩
    · obtain ⟨its, rv, p', hz⟩ := I1.list hq
      refine call_enumerate_list p'.isList fun h' he hit hsz hk => wpAny_pyIter_enum he ?_
      have I2 : Inv X pins σ H1 { s1 with heap := h' } := I1.kept (t' := s1.toks) hk
      exact ⟨s1.heap.objs.size + 1, [s1.heap.objs.size + 1, s1.heap.objs.size], _, _, H1, rfl, I2, turn_enum a (s1.heap.objs.size + 1) s1.heap.objs.size, ⟨⟨.none, he⟩, hit, Nat.succ_ne_self _⟩, fresh, q⟩
    · obtain ⟨its, rv, p', hz⟩ := I1.tuple hq
      have ht : s1.heap.IsTuple a its.toArray := p'
      have hal : a < s1.heap.objs.size := by obtain ⟨_, q, _⟩ := ht; exact Heap.lt_size q
      refine call_enumerate_tuple ht fun h' he hit hsz hk => wpAny_pyIter_enum he ?_
      have I2 : Inv X pins σ H1 { s1 with heap := h' } := I1.kept (t' := s1.toks) hk
      exact ⟨s1.heap.objs.size + 1, [s1.heap.objs.size + 1, s1.heap.objs.size], _, _, H1, rfl, I2, turn_enumT a (s1.heap.objs.size + 1) s1.heap.objs.size, ⟨⟨.none, he⟩, hit, Nat.succ_ne_self _, Nat.ne_of_lt (Nat.lt_succ_of_lt hal), Nat.ne_of_lt hal⟩, fresh, q⟩
theorem it_enumT {k : Kx} {I0 : Hp} {a : Addr} {vs : List V} {ds : List DV} (h : SqT k.K I0 a vs) (r : Rps k.K I0 ds vs) : ItOk k (Itet k.K a) I0 (enumD ds) (fun _ => True) where
  stop i A e s hi := ⟨vs, A.imm.t (e.t h), by rw [← r.length]; simpa [enumD_length] using hi⟩
  go i d A e s hd := by
    obtain ⟨x, hx, _⟩ := enumD_get hd
    obtain ⟨v, hv, _⟩ := r.get hx
    exact ⟨vs, v, A.imm.t (e.t h), hv⟩
  yld i d x H' A e s hd y := by
    obtain ⟨T, v, rfl, hT, rfl, y⟩ := y
    obtain ⟨z, hz, rfl⟩ := enumD_get hd
    obtain ⟨v', hv, rv⟩ := r.get hz
    have := y vs (A.imm.t (e.t h))
    rw [hv] at this; cases this
    exact pair_new A hT (rv.mono e)
/-- enumerate of a list or a tuple -/
def iEnB (ta : AA) : AI := fun ρ L P px => ta ρ L (fun ds L1 => match ds with
  | [.lst xs] => P (enumD xs) (fun _ => True) L1
  | [.tup xs] => P (enumD xs) (fun _ => True) L1
  | [.ref a] => ∃ xs, L1 a = some (.lst xs) ∧ P (enumD xs) (fun L' => L' a = some (.lst xs)) L1
  | _ => False) px
section
variable {X : Cx} {W : WX} {e : Expr} {ta : AA} {p pos tpos : Pos} {elts : List Expr} {kk : Nat}
theorem i_enB (hg : Gl X "enumerate") (hm : X.mg "enumerate" = none) (ha : PA X [e] (cA X.kx W ta)) (hs : starEach [e] X.env = [(false, eval e X.env)] := by rfl) : PI X (.Tuple elts kk tpos) (.Call (.Name "enumerate" p) [e] [] pos) (cI X.kx W (iEnB ta)) :=
  (pi_enumB hg hm ha hs).imp fun σ H R ⟨I, L, F, ρ, P, px, S, h, q⟩ => ⟨I, L, F, ρ, _, px, S, h, fun ds L1 vs I1 H1 h1 A1 e1 r1 => by
    split at h1
    · obtain ⟨v, rfl, r2⟩ := one_rp (k := X.kx) r1
      cases r2 with
      | lst hl r => exact ⟨_, rfl, .inl ⟨⟨_, SqL.of (A1.imm _ _ hl)⟩, q _ _ _ _ _ _ h1 A1 e1 (it_enum fun A e _ => ⟨_, A.imm.l (e.l (SqL.of hl)), r.mono e⟩)⟩⟩
    · obtain ⟨v, rfl, r2⟩ := one_rp (k := X.kx) r1
      cases r2 with
      | tup hl r => exact ⟨_, rfl, .inr ⟨⟨_, A1.imm.t hl⟩, q _ _ _ _ _ _ h1 A1 e1 (it_enumT hl r)⟩⟩
    · obtain ⟨v, rfl, r2⟩ := one_rp (k := X.kx) r1
      cases r2
      obtain ⟨xs, hl, h1⟩ := h1
      obtain ⟨_, _, o, e2, r2⟩ := A1.led _ _ hl
      cases r2 with
      | lst r => exact ⟨_, rfl, .inl ⟨⟨_, SqL.of e2⟩, q _ _ _ _ _ _ h1 A1 e1 (it_enum fun A e s => by
          obtain ⟨_, _, o, e3, r3⟩ := A.led _ _ s
          cases r3 with
          | lst r => exact ⟨_, SqL.of e3, r⟩)⟩⟩
    · exact h1.elim⟩
end
end AL
namespace AL
open PySem PySem.Spec PyProof.Rows L2
/-! ### dicts with ints or texts as keys -/
def keyD : DV → Option Key
  | .int i => some (.inl i)
  | .str s => some (.inr s)
  | _ => none
def valG {α : Type} (kvs : List (Key × α)) (k : Key) : Option α := (kvs.find? fun kv => decide (kv.1 = k)).map (·.2)
def putG {α : Type} (kvs : List (Key × α)) (k : Key) (v : α) : List (Key × α) :=
  if (kvs.any fun kv => decide (kv.1 = k)) = true then kvs.map (fun kv => if kv.1 = k then (kv.1, v) else kv) else kvs ++ [(k, v)]
theorem keyD_rp {K : PySem.W.Frag} {I : Hp} {d : DV} {v : V} {k : Key} (r : Rp K I d v) (h : keyD d = some k) : v = kV k := by
  cases r <;> first | (cases h; rfl) | cases h
theorem val_rp {K : PySem.W.Frag} {I : Hp} {k : Key} : ∀ {kvs : List (Key × DV)} {xs : List (Key × V)}, kvs.map (·.1) = xs.map (·.1) → Rps K I (kvs.map (·.2)) (xs.map (·.2)) →
    (valG kvs k = none ∧ valV xs k = none) ∨ ∃ d v, valG kvs k = some d ∧ valV xs k = some v ∧ Rp K I d v
  | [], [], _, _ => .inl ⟨rfl, rfl⟩
  | [], _ :: _, e, _ => by cases e
  | _ :: _, [], e, _ => by cases e
  | (k1, d) :: kvs, (k2, v) :: xs, e, r => by
    simp only [List.map_cons, List.cons.injEq] at e
    obtain ⟨rfl, e⟩ := e
    cases r with
    | cons h r =>
    by_cases z : k1 = k
    · refine .inr ⟨d, v, ?_, ?_, h⟩
      · simp [valG, List.find?_cons, z]
      · simp [valV, List.find?_cons, z]
    · have ih := val_rp (k := k) e r
      have e1 : valG ((k1, d) :: kvs) k = valG kvs k := by simp [valG, List.find?_cons, z]
      have e2 : valV ((k1, v) :: xs) k = valV xs k := by simp [valV, List.find?_cons, z]
      rw [e1, e2]
      exact ih
theorem any_keys {α β : Type} {k : Key} : ∀ {kvs : List (Key × α)} {xs : List (Key × β)}, kvs.map (·.1) = xs.map (·.1) → (kvs.any fun kv => decide (kv.1 = k)) = xs.any fun kv => decide (kv.1 = k)
  | [], [], _ => rfl
  | [], _ :: _, e => by cases e
  | _ :: _, [], e => by cases e
  | (k1, d) :: kvs, (k2, v) :: xs, e => by
    simp only [List.map_cons, List.cons.injEq] at e
    obtain ⟨rfl, e⟩ := e
    rw [List.any_cons, List.any_cons, any_keys e]
theorem map_rp {K : PySem.W.Frag} {I : Hp} {k : Key} {d : DV} {v : V} (h : Rp K I d v) : ∀ {kvs : List (Key × DV)} {xs : List (Key × V)}, kvs.map (·.1) = xs.map (·.1) → Rps K I (kvs.map (·.2)) (xs.map (·.2)) →
    (kvs.map fun kv => if kv.1 = k then (kv.1, d) else kv).map (·.1) = (xs.map fun kv => if kv.1 = k then (kv.1, v) else kv).map (·.1) ∧ Rps K I ((kvs.map fun kv => if kv.1 = k then (kv.1, d) else kv).map (·.2)) ((xs.map fun kv => if kv.1 = k then (kv.1, v) else kv).map (·.2))
  | [], [], _, _ => ⟨rfl, .nil⟩
  | [], _ :: _, e, _ => by cases e
  | _ :: _, [], e, _ => by cases e
  | (k1, d1) :: kvs, (k2, v1) :: xs, e, r => by
    simp only [List.map_cons, List.cons.injEq] at e
    obtain ⟨rfl, e⟩ := e
    cases r with
    | cons h1 r =>
    obtain ⟨e2, r2⟩ := map_rp h e r
    by_cases z : k1 = k
    · simp only [List.map_cons, if_pos z]
      exact ⟨congrArg _ e2, .cons h r2⟩
    · simp only [List.map_cons, if_neg z]
      exact ⟨congrArg _ e2, .cons h1 r2⟩
theorem put_rp {K : PySem.W.Frag} {I : Hp} {k : Key} {d : DV} {v : V} (h : Rp K I d v) {kvs : List (Key × DV)} {xs : List (Key × V)} (e : kvs.map (·.1) = xs.map (·.1)) (r : Rps K I (kvs.map (·.2)) (xs.map (·.2))) :
    (putG kvs k d).map (·.1) = (putK xs k v).map (·.1) ∧ Rps K I ((putG kvs k d).map (·.2)) ((putK xs k v).map (·.2)) := by
  unfold putG putK
  rw [any_keys e]
  by_cases z : (xs.any fun kv => decide (kv.1 = k)) = true
  · rw [if_pos z, if_pos z]
    exact map_rp h e r
  · rw [if_neg z, if_neg z]
    refine ⟨by rw [List.map_append, List.map_append, e]; rfl, ?_⟩
    rw [List.map_append, List.map_append]
    exact r.append (.cons h .nil)
/-- {} -/
def aDict0 : AE := fun _ L P _ => ∀ a, L a = none → P (.ref a) (updL L a (.dK []))
/-- k in d -/
def oDin (neg : Bool) : AR2 := fun x y L P => match y with
  | .ref a => ∃ kvs k, L a = some (.dK kvs) ∧ keyD x = some k ∧ P (.bl (neg ^^ (valG kvs k).isSome)) L
  | _ => False
/-- d[k], k there -/
def oDget : AR2 := fun x y L P => match x with
  | .ref a => ∃ kvs k d, L a = some (.dK kvs) ∧ keyD y = some k ∧ valG kvs k = some d ∧ P d L
  | _ => False
/-- d[k] = e -/
def aDput (to ti tv : AE) : AS := fun AD ρ L => tv ρ L (fun d L1 => to ρ L1 (fun x L2 => ti ρ L2 (fun y L3 => match x with
  | .ref a => ∃ kvs k, L3 a = some (.dK kvs) ∧ keyD y = some k ∧ kvs.length < sizeLine ∧ AD.nx ρ (updL L3 a (.dK (putG kvs k d)))
  | _ => False) AD.px) AD.px) AD.px
section
variable {X : Cx} {W : WX} {e o i value : Expr} {te to ti tv : AE} {pos pos' : Pos} {kk : Nat}
theorem a_dict0 : PE X (.Dict [] [] pos) (cE X.kx W aDict0) := pe_dnewK.imp fun σ H Q ⟨I, L, F, ρ, P, px, S, h, q⟩ p hp =>
  q _ _ _ _ _ (h p (S.ab.freeL hp)) (S.ab.newL hp (.dK rfl .nil)) (Ex.refl I) (.ref p)
theorem din_go {neg : Bool} {σ : L2.St} {H : Hp} {Q : VK} {R : V → V → Hp → VK → Prop} (hR : ∀ a y o H Q, DGet H a y o → Q (.bl (neg ^^ o.isSome)) H → R y (.ref a) H Q) (h : cE X.kx W (aBin (oDin neg) ti to) σ H Q) :
    cE X.kx W ti σ H fun y H1 => cE X.kx W to σ H1 fun x H2 => R y x H2 Q := by
  obtain ⟨I, L, F, ρ, P, px, S, h, q⟩ := h
  refine ⟨I, L, F, ρ, _, px, S, h, fun x L1 xv I1 H1 h1 A1 e1 r1 => ⟨I1, L1, F, ρ, _, px, S.go A1 e1, h1, fun y L2 yv I2 H2 h2 A2 e2 r2 => ?_⟩⟩
  unfold oDin at h2
  split at h2
  · cases r2
    obtain ⟨kvs, k, hl, hk, h2⟩ := h2
    obtain ⟨_, _, ob, eo, ro⟩ := A2.led _ _ hl
    cases ro with
    | dK ek rk =>
    rename_i xs
    rw [keyD_rp r1 hk]
    have g : DGet H2 _ (kV k) (valV xs k) := DGet.k eo
    refine hR _ _ _ _ _ g ?_
    have es : (valV xs k).isSome = (valG kvs k).isSome := by
      rcases val_rp (k := k) ek rk with ⟨a, b⟩ | ⟨d, v, a, b, _⟩ <;> rw [a, b] <;> rfl
    rw [es]
    exact here A2 (.bl _) h2 (q.mono (e1.trans e2))
  · exact h2.elim
theorem t_din (hr : Room kk X.A) (hi : PE X i (cE X.kx W ti)) (ho : PE X o (cE X.kx W to)) (hm : behindInMarks .In o = false := by rfl) : PT X (.Compare i [.In] [o] pos) (cT X.kx W (aTest (aBin (oDin false) ti to))) :=
  (pt_cmp (pc_din (hu_of hr.old) hi ho) (h1 := hm)).imp (ctest fun σ H Q h => by
    obtain z := din_go (R := fun y x H Q => ∃ a o, x = .ref a ∧ DGet H a y o ∧ Q (.bl o.isSome) H) (fun a y o H Q g q => ⟨a, o, rfl, g, by rw [Bool.false_xor] at q; exact q⟩) h
    exact z)
theorem t_dnin (hr : Room kk X.A) (hi : PE X i (cE X.kx W ti)) (ho : PE X o (cE X.kx W to)) (hm : behindInMarks .NotIn o = false := by rfl) : PT X (.Compare i [.NotIn] [o] pos) (cT X.kx W (aTest (aBin (oDin true) ti to))) :=
  (pt_cmp (pc_dnotin (hu_of hr.old) hi ho) (h1 := hm)).imp (ctest fun σ H Q h => by
    obtain z := din_go (R := fun y x H Q => ∃ a o, x = .ref a ∧ DGet H a y o ∧ Q (.bl (!o.isSome)) H) (fun a y o H Q g q => ⟨a, o, rfl, g, by rw [Bool.true_xor] at q; exact q⟩) h
    exact z)
theorem a_din (hr : Room kk X.A) (hi : PE X i (cE X.kx W ti)) (ho : PE X o (cE X.kx W to)) (hm : behindInMarks .In o = false := by rfl) : PE X (.Compare i [.In] [o] pos) (cE X.kx W (aBin (oDin false) ti to)) :=
  (pe_cmp (pc_din (hu_of hr.old) hi ho) (h1 := hm)).imp fun σ H Q h => by
    obtain z := din_go (R := fun y x H Q => ∃ a o, x = .ref a ∧ DGet H a y o ∧ Q (.bl o.isSome) H) (fun a y o H Q g q => ⟨a, o, rfl, g, by rw [Bool.false_xor] at q; exact q⟩) h
    exact z
theorem a_dnin (hr : Room kk X.A) (hi : PE X i (cE X.kx W ti)) (ho : PE X o (cE X.kx W to)) (hm : behindInMarks .NotIn o = false := by rfl) : PE X (.Compare i [.NotIn] [o] pos) (cE X.kx W (aBin (oDin true) ti to)) :=
  (pe_cmp (pc_dnotin (hu_of hr.old) hi ho) (h1 := hm)).imp fun σ H Q h => by
    obtain z := din_go (R := fun y x H Q => ∃ a o, x = .ref a ∧ DGet H a y o ∧ Q (.bl (!o.isSome)) H) (fun a y o H Q g q => ⟨a, o, rfl, g, by rw [Bool.true_xor] at q; exact q⟩) h
    exact z
theorem a_dget (hr : Room kk X.A) (ho : PE X o (cE X.kx W to)) (hi : PE X i (cE X.kx W ti)) (hs : NoSl i := by intro _ _; rfl) : PE X (.Subscript o i pos) (cE X.kx W (aBin oDget to ti)) :=
  (pe_dget (hu_of hr.old) ho hi hs).imp fun σ H Q ⟨I, L, F, ρ, P, px, S, h, q⟩ => ⟨I, L, F, ρ, _, px, S, h, fun x L1 xv I1 H1 h1 A1 e1 r1 => ⟨I1, L1, F, ρ, _, px, S.go A1 e1, h1, fun y L2 yv I2 H2 h2 A2 e2 r2 => by
    unfold oDget at h2
    split at h2
    · cases r1
      obtain ⟨kvs, k, d, hl, hk, hd, h2⟩ := h2
      obtain ⟨_, _, ob, eo, ro⟩ := A2.led _ _ hl
      cases ro with
      | dK ek rk =>
      rcases val_rp (k := k) ek rk with ⟨a, _⟩ | ⟨d', v, a, b, rv⟩
      · rw [hd] at a; cases a
      · rw [hd] at a; cases a
        refine ⟨_, v, rfl, ?_, here A2 rv h2 (q.mono (e1.trans e2))⟩
        rw [keyD_rp r2 hk, ← b]
        exact DGet.k eo
    · exact h2.elim⟩⟩
theorem s_dput (hr : Room kk X.A) (ho : PE X o (cE X.kx W to)) (hi : PE X i (cE X.kx W ti)) (hv : PE X value (cE X.kx W tv)) (hs : swapsWith value (some (.Subscript o i pos')) pos.line X.env = pure false := by rfl) : PS X (.Assign [.Subscript o i pos'] value pos) (cS X.kx W (aDput to ti tv)) :=
  (ps_dput (hu_of hr.old) ho hi hv hs).imp fun D σ H ⟨I, L, F, ρ, AD, S, h, q⟩ => ⟨I, L, F, ρ, _, AD.px, S, h, fun d L1 v I1 H1 h1 A1 e1 r1 => ⟨I1, L1, F, ρ, _, AD.px, S.go A1 e1, h1, fun x L2 xv I2 H2 h2 A2 e2 r2 => ⟨I2, L2, F, ρ, _, AD.px, S.go A2 (e1.trans e2), h2, fun y L3 yv I3 H3 h3 A3 e3 r3 => by
    split at h3
    · cases r2
      obtain ⟨kvs, k, hl, hk, hz, h3⟩ := h3
      obtain ⟨_, _, ob, eo, ro⟩ := A3.led _ _ hl
      cases ro with
      | dK ek rk =>
      rename_i xs
      have el : kvs.length = xs.length := by have := congrArg List.length ek; simpa using this
      obtain ⟨pk, pr⟩ := put_rp (k := k) (r1.mono (e2.trans e3)) ek rk
      refine ⟨_, _, rfl, ?_, q.nx _ _ _ _ _ h3 (A3.write hl (.dK pk pr)) ((e1.trans e2).trans e3) (S.rs.mono ((e1.trans e2).trans e3))⟩
      rw [keyD_rp r3 hk]
      exact DPut.k eo (by rw [← el]; exact hz)
    · exact h3.elim⟩⟩⟩
end
end AL
namespace AL
open PySem PySem.Spec PyProof.Rows L2

/-! ### a new list as data, or on the ledger -/
abbrev NW := List DV → Led → PD → Prop
def newD : NW := fun ds L P => P (.lst ds) L
def newR : NW := fun ds L P => ∀ a, L a = none → P (.ref a) (updL L a (.lst ds))
abbrev NwOk (nw : NW) : Prop := ∀ ds L P, nw ds L P → newL ds L P
def newS : NW := newL
theorem newS_ok : NwOk newS := fun _ _ _ h => h
theorem newD_ok : NwOk newD := fun _ _ _ h => .inr h
theorem newR_ok : NwOk newR := fun _ _ _ h => .inl h
theorem AOp.imp {k : Kx} {r : R2} {ro ro' : AR2} (h : AOp k r ro) (i : ∀ x y L P, ro' x y L P → ro x y L P) : AOp k r ro' := fun A rx ry o q => h A rx ry (i _ _ _ _ o) q
theorem ACl.imp {k : Kx} {r : List V → Hp → VK → Prop} {ro ro' : AC} (h : ACl k r ro) (i : ∀ ds L P, ro' ds L P → ro ds L P) : ACl k r ro' := fun A rx o q => h A rx (i _ _ _ o) q
theorem withL.imp {L : Led} {x : DV} {q q' : List DV → Prop} (i : ∀ ds, q ds → q' ds) (h : withL L x q) : withL L x q' := by
  cases x <;> first | exact h.elim | exact i _ h | skip
  obtain ⟨ds, e, h⟩ := h
  exact ⟨ds, e, i _ h⟩
theorem withSq.imp {L : Led} {x : DV} {q q' : List DV → Prop} (i : ∀ ds, q ds → q' ds) (h : withSq L x q) : withSq L x q' := by
  cases x <;> first | exact h.elim | exact i _ h | skip
  obtain ⟨ds, e, h⟩ := h
  exact ⟨ds, e, i _ h⟩
def oAddN (nw : NW) : AR2 := fun x y L P => match x, y with
  | .int i, .int j => P (.int (i + j)) L
  | .str a, .str b => a.length + b.length ≤ sizeLine ∧ P (.str (a ++ b)) L
  | .tup a, .tup b => a.length + b.length ≤ sizeLine ∧ P (.tup (a ++ b)) L
  | x, y => withL L x fun a => withL L y fun b => a.length + b.length ≤ sizeLine ∧ nw (a ++ b) L P
theorem oAddN_imp {nw : NW} (hn : NwOk nw) (x y : DV) (L : Led) (P : PD) (h : oAddN nw x y L P) : oAdd x y L P := by
  have g : ∀ x y, (withL L x fun a => withL L y fun b => a.length + b.length ≤ sizeLine ∧ nw (a ++ b) L P) → (withL L x fun a => withL L y fun b => a.length + b.length ≤ sizeLine ∧ newL (a ++ b) L P) := fun x y h => h.imp fun a h => h.imp fun b h => ⟨h.1, hn _ _ _ h.2⟩
  cases x <;> cases y <;> first | exact h | exact g (.ref _) (.ref _) h | exact g (.lst _) (.ref _) h | exact g (.ref _) (.lst _) h | exact g (.lst _) (.lst _) h
def oMulN (nw : NW) : AR2 := fun x y L P => match x, y with
  | .int i, .int j => CMul i j ∧ P (.int (i * j)) L
  | x, .int j => withL L x fun a => -(2 ^ 63) ≤ j ∧ j < 2 ^ 63 ∧ a.length * j.toNat ≤ sizeLine ∧ nw (List.replicate j.toNat a).flatten L P
  | _, _ => False
theorem oMulN_imp {nw : NW} (hn : NwOk nw) (x y : DV) (L : Led) (P : PD) (h : oMulN nw x y L P) : oMulL x y L P := by
  cases y <;> try (cases x <;> exact h.elim)
  have g : ∀ (x : DV) (j : Int), (withL L x fun a => -(2 ^ 63) ≤ j ∧ j < 2 ^ 63 ∧ a.length * j.toNat ≤ sizeLine ∧ nw (List.replicate j.toNat a).flatten L P) → (withL L x fun a => -(2 ^ 63) ≤ j ∧ j < 2 ^ 63 ∧ a.length * j.toNat ≤ sizeLine ∧ newL (List.replicate j.toNat a).flatten L P) := fun x j h => h.imp fun a h => ⟨h.1, h.2.1, h.2.2.1, hn _ _ _ h.2.2.2⟩
  cases x <;> first | exact h | exact h.elim | exact g (.ref _) _ h | exact g (.lst _) _ h
def oSlN (nw : NW) (x : DV) (lo hi : Option Int) (L : Led) (P : PD) : Prop := match x with
  | .str z => z.length ≤ sizeLine ∧ P (.str (cutS z lo hi)) L
  | .tup xs => P (.tup (cut xs lo hi)) L
  | x => withL L x fun ds => nw (cut ds lo hi) L P
theorem oSlN_imp {nw : NW} (hn : NwOk nw) {x : DV} {lo hi : Option Int} {L : Led} {P : PD} (h : oSlN nw x lo hi L P) : oSl x lo hi L P := by
  have g : ∀ x : DV, (withL L x fun ds => nw (cut ds lo hi) L P) → (withL L x fun ds => newL (cut ds lo hi) L P) := fun x h => h.imp fun a h => hn _ _ _ h
  cases x <;> first | exact h | exact h.elim | exact g (.ref _) h | exact g (.lst _) h
def aSlN (nw : NW) (te : AE) (tl th : AO) : AE := fun ρ L P px => te ρ L (fun x L1 => tl ρ L1 (fun lo L2 => th ρ L2 (fun hi L3 => oSlN nw x lo hi L3 P) px) px) px
def aRevN (nw : NW) (te : AE) : AE := fun ρ L P px => te ρ L (fun x L1 => withL L1 x fun ds => nw ds.reverse L1 P) px
def aLstN (nw : NW) (ta : AA) : AE := fun ρ L P px => ta ρ L (fun ds L1 => few ds 200 (nw ds L1 P)) px
def bListN (nw : NW) : AC := fun ds L P => match ds with
  | [x] => withSq L x fun ds => nw ds L P
  | _ => False
theorem bListN_imp {nw : NW} (hn : NwOk nw) (ds : List DV) (L : Led) (P : PD) (h : bListN nw ds L P) : bList ds L P := by
  unfold bListN at h; unfold bList; split at h
  · exact h.imp fun ds h => hn _ _ _ h
  · exact h.elim
def bSortedN (nw : NW) : AC := fun ds L P => match ds with
  | [x] => withL L x fun ds => ∃ ns : List Int, ds = ns.map DV.int ∧ ∀ ns' : List Int, ns'.Perm ns → ns'.Pairwise (· ≤ ·) → nw (ns'.map DV.int) L P
  | _ => False
theorem bSortedN_imp {nw : NW} (hn : NwOk nw) (ds : List DV) (L : Led) (P : PD) (h : bSortedN nw ds L P) : bSorted ds L P := by
  unfold bSortedN at h; unfold bSorted; split at h
  · exact h.imp fun ds h => let ⟨ns, e, h⟩ := h; ⟨ns, e, fun ns' a b => hn _ _ _ (h ns' a b)⟩
  · exact h.elim
section
variable {X : Cx} {W : WX} {e a b : Expr} {es : List Expr} {lo hi : Option Expr} {te ta tb : AE} {t : AA} {tl th : AO} {p pos p2 : Pos} {nw : NW} (hn : NwOk nw)
include hn
theorem a_addN (ha : PE X a (cE X.kx W ta)) (hb : PE X b (cE X.kx W tb)) : PE X (.BinOp a .Add b pos) (cE X.kx W (aBin (oAddN nw) ta tb)) := a_bin opAdd (oAdd_ok.imp (oAddN_imp hn)) ha hb
theorem a_mulN (ha : PE X a (cE X.kx W ta)) (hb : PE X b (cE X.kx W tb)) : PE X (.BinOp a .Mult b pos) (cE X.kx W (aBin (oMulN nw) ta tb)) := a_bin opMulL (oMulL_ok.imp (oMulN_imp hn)) ha hb
theorem a_sliceN (he : PE X e (cE X.kx W te)) (hl : PO X lo (cO X.kx W tl)) (hu : PO X hi (cO X.kx W th)) : PE X (.Subscript e (.Slice lo hi none p2) pos) (cE X.kx W (aSlN nw te tl th)) :=
  (pe_slice (sl_str.or (sl_tupA.or sl_list)) he hl hu).imp fun σ H Q ⟨I, L, F, ρ, P, px, S, h, q⟩ => ⟨I, L, F, ρ, _, px, S, h, fun x L1 xv I1 H1 h1 A1 e1 r1 => ⟨I1, L1, F, ρ, _, px, S.go A1 e1, h1, fun l L2 I2 H2 h2 A2 e2 =>
    ⟨I2, L2, F, ρ, _, px, S.go A2 (e1.trans e2), h2, fun u L3 I3 H3 h3 A3 e3 => oSl_ok A3 (r1.mono (e2.trans e3)) (oSlN_imp hn h3) (q.mono ((e1.trans e2).trans e3))⟩⟩⟩
theorem a_revN {k : Nat} {p1 p3 p4 : Pos} (he : PE X e (cE X.kx W te)) : PE X (.Subscript e (.Slice none none (some (.UnaryOp .USub (.Constant (.int 1) k p1) p3)) p4) pos) (cE X.kx W (aRevN nw te)) :=
  (pe_revL he).imp fun σ H Q ⟨I, L, F, ρ, P, px, S, h, q⟩ => ⟨I, L, F, ρ, _, px, S, h, fun x L1 xv I1 H1 h1 A1 e1 r1 => by
    obtain ⟨a, vs, ds, rfl, ha, r, h⟩ := withL_ok A1 r1 h1
    exact ⟨_, _, rfl, SqL.of ha, newL_ok A1 r.reverse (hn _ _ _ h) (q.mono e1)⟩⟩
theorem a_lstN (h : PA X es (cA X.kx W t)) : PE X (.List es pos) (cE X.kx W (aLstN nw t)) :=
  (pe_lst h).imp fun σ H Q ⟨I, L, F, ρ, P, px, S, h, q⟩ => ⟨I, L, F, ρ, _, px, S, h, fun ds L1 vs I1 H1 h1 A1 e1 r1 => ⟨by rw [← r1.length]; exact z200 (few_ok h1).1, newL_ok A1 r1 (hn _ _ _ (few_ok h1).2) (q.mono e1)⟩⟩
theorem a_listN (hg : Gl X "list") (hm : X.mg "list" = none) (ha : PA X [e] (cA X.kx W t)) (he : starEach [e] X.env = (false, eval e X.env) :: starEach [] X.env := by rfl) : PE X (.Call (.Name "list" p) [e] [] pos) (cE X.kx W (aCB (bListN nw) t)) := a_callTy call_list_of (bList_ok.imp (bListN_imp hn)) hg hm (by decide +kernel) ha (he := he)
theorem a_sortedN (hg : Gl X "sorted") (hm : X.mg "sorted" = none) (ha : PA X [e] (cA X.kx W t)) (he : starEach [e] X.env = (false, eval e X.env) :: starEach [] X.env := by rfl) : PE X (.Call (.Name "sorted" p) [e] [] pos) (cE X.kx W (aCB (bSortedN nw) t)) := a_callB cr_sortedI (bSorted_ok.imp (bSortedN_imp hn)) hg hm (by decide +kernel) ha (he := he)
end

/-! ### stops: what stands behind a lock is not looked into -/
inductive Lk {α : Type} (a : α) : Type
  | mk
/-- an exception's wish, put apart -/
def pxA (px : PX) (ρ : Sl) : Addr → Led → Prop := fun c L => px c ρ L
def callA (asp : ASp) (ds : List DV) (L : Led) (P : PD) (R : Addr → Led → Prop) (_ : Lk P) (_ : Lk R) : Prop := asp ds L P R
def forL (items : List DV) (stay : Led → Prop) (g : AG) (tb : AS) (AD : AEnds) (_ : Lk AD) (ρ : Sl) (L : Led) : Prop := ∃ Pv : Nat → Sl → Led → Prop, Pv 0 ρ L ∧ (∀ i ρ' L', Pv i ρ' L' → stay L') ∧
  (∀ i d ρ' L', items[i]? = some d → Pv i ρ' L' → g d ρ' L' fun ρ2 L2 => tb { AD with nx := Pv (i + 1), ct := Pv (i + 1), bk := AD.nx } ρ2 L2) ∧ ∀ ρ' L', Pv items.length ρ' L' → AD.nx ρ' L'
def lcL (nw : NW) (items : List DV) (stay : Led → Prop) (g : AG) (tt : AT) (te : AE) (vs : List Nat) (ρ : Sl) (L : Led) (P : PD) (_ : Lk P) : Prop := items.length < sizeLine ∧ ∃ Pv : Nat → List DV → Led → Prop, Pv 0 [] L ∧ (∀ i acc L', Pv i acc L' → stay L' ∧ acc.length ≤ i) ∧
  (∀ i d acc L', items[i]? = some d → Pv i acc L' → g d (wipeA ρ vs) L' fun ρ2 L2 => tt ρ2 L2 (fun b L3 => (b = true → te ρ2 L3 (fun y L4 => Pv (i + 1) (acc ++ [y]) L4) noPX) ∧ (b = false → Pv (i + 1) acc L3)) noPX) ∧ ∀ acc L', Pv items.length acc L' → nw acc L' P
def whileL (c : AT) (tb : AS) (AD : AEnds) (_ : Lk AD) (ρ : Sl) (L : Led) : Prop := aWhile c tb AD ρ L
def raiseL (C : Addr) (AD : AEnds) (_ : Lk AD) (ρ : Sl) (L : Led) : Prop := ∃ L2, Sub L2 L ∧ AD.px C ρ L2
def ghL (k : Kx) (u : AS) (AD : AEnds) (_ : Lk AD) (ρ : Sl) (L : Led) : Prop := ∃ ρ2 L2, FrzS k ρ L ρ2 L2 ∧ u AD ρ2 L2
def fldA (f : Str) (j : Nat) (x : DV) (L : Led) (P : PD) (_ : Lk P) : Prop := withI L x fun _ ks ds => ks[j]? = some f ∧ ∃ d, ds[j]? = some d ∧ P d L
def wLA (L : Led) (x : DV) (q : List DV → Prop) (_ : Lk q) : Prop := withL L x q
def wSA (L : Led) (x : DV) (q : List DV → Prop) (_ : Lk q) : Prop := withSq L x q
def isCA (L : Led) (x : DV) (C : Addr) (q : Prop) (_ : Lk q) : Prop := isC L x C q
def seqA (x : DV) (L : Led) (P : List DV → (Led → Prop) → Led → Prop) (_ : Lk P) : Prop := seqI x L P
def newA (ds : List DV) (L : Led) (P : PD) (_ : Lk P) : Prop := newL ds L P
def eqA (n : Bool) (x y : DV) (L : Led) (P : PD) (_ : Lk P) : Prop := oEqN n x y L P
def inA (n : Bool) (x y : DV) (L : Led) (P : PD) (_ : Lk P) : Prop := oIn n x y L P
def ixA (ds : List DV) (i : Int) (L : Led) (P : PD) (_ : Lk P) : Prop := ∃ d, atI ds i = some d ∧ P d L
def frzA (k : Kx) (d : DV) (L : Led) (P : PD) (_ : Lk P) : Prop := FrzP k d L P
def isiA (K : PySem.W.Frag) (ds : List DV) (L : Led) (P : PD) (_ : Lk P) : Prop := bIsi K ds L P
def truA (d : DV) (L : Led) (q : Bool → Prop) (_ : Lk q) : Prop := truD d L q

theorem av_0 {d : DV} {ρ : Sl} {L : Led} {P : PD} {px : PX} : aVar 0 (some d :: ρ) L P px = P d L := (rfl)
theorem sl_0 {d v : Option DV} {ρ : Sl} : List.set (d :: ρ) 0 v = v :: ρ := (rfl)
theorem av_1 {x0 : Option DV} {d : DV} {ρ : Sl} {L : Led} {P : PD} {px : PX} : aVar 1 (x0 :: some d :: ρ) L P px = P d L := (rfl)
theorem sl_1 {x0 : Option DV} {d v : Option DV} {ρ : Sl} : List.set (x0 :: d :: ρ) 1 v = x0 :: v :: ρ := (rfl)
theorem av_2 {x0 x1 : Option DV} {d : DV} {ρ : Sl} {L : Led} {P : PD} {px : PX} : aVar 2 (x0 :: x1 :: some d :: ρ) L P px = P d L := (rfl)
theorem sl_2 {x0 x1 : Option DV} {d v : Option DV} {ρ : Sl} : List.set (x0 :: x1 :: d :: ρ) 2 v = x0 :: x1 :: v :: ρ := (rfl)
theorem av_3 {x0 x1 x2 : Option DV} {d : DV} {ρ : Sl} {L : Led} {P : PD} {px : PX} : aVar 3 (x0 :: x1 :: x2 :: some d :: ρ) L P px = P d L := (rfl)
theorem sl_3 {x0 x1 x2 : Option DV} {d v : Option DV} {ρ : Sl} : List.set (x0 :: x1 :: x2 :: d :: ρ) 3 v = x0 :: x1 :: x2 :: v :: ρ := (rfl)
theorem av_4 {x0 x1 x2 x3 : Option DV} {d : DV} {ρ : Sl} {L : Led} {P : PD} {px : PX} : aVar 4 (x0 :: x1 :: x2 :: x3 :: some d :: ρ) L P px = P d L := (rfl)
theorem sl_4 {x0 x1 x2 x3 : Option DV} {d v : Option DV} {ρ : Sl} : List.set (x0 :: x1 :: x2 :: x3 :: d :: ρ) 4 v = x0 :: x1 :: x2 :: x3 :: v :: ρ := (rfl)
theorem av_5 {x0 x1 x2 x3 x4 : Option DV} {d : DV} {ρ : Sl} {L : Led} {P : PD} {px : PX} : aVar 5 (x0 :: x1 :: x2 :: x3 :: x4 :: some d :: ρ) L P px = P d L := (rfl)
theorem sl_5 {x0 x1 x2 x3 x4 : Option DV} {d v : Option DV} {ρ : Sl} : List.set (x0 :: x1 :: x2 :: x3 :: x4 :: d :: ρ) 5 v = x0 :: x1 :: x2 :: x3 :: x4 :: v :: ρ := (rfl)
theorem av_6 {x0 x1 x2 x3 x4 x5 : Option DV} {d : DV} {ρ : Sl} {L : Led} {P : PD} {px : PX} : aVar 6 (x0 :: x1 :: x2 :: x3 :: x4 :: x5 :: some d :: ρ) L P px = P d L := (rfl)
theorem sl_6 {x0 x1 x2 x3 x4 x5 : Option DV} {d v : Option DV} {ρ : Sl} : List.set (x0 :: x1 :: x2 :: x3 :: x4 :: x5 :: d :: ρ) 6 v = x0 :: x1 :: x2 :: x3 :: x4 :: x5 :: v :: ρ := (rfl)
theorem av_7 {x0 x1 x2 x3 x4 x5 x6 : Option DV} {d : DV} {ρ : Sl} {L : Led} {P : PD} {px : PX} : aVar 7 (x0 :: x1 :: x2 :: x3 :: x4 :: x5 :: x6 :: some d :: ρ) L P px = P d L := (rfl)
theorem sl_7 {x0 x1 x2 x3 x4 x5 x6 : Option DV} {d v : Option DV} {ρ : Sl} : List.set (x0 :: x1 :: x2 :: x3 :: x4 :: x5 :: x6 :: d :: ρ) 7 v = x0 :: x1 :: x2 :: x3 :: x4 :: x5 :: x6 :: v :: ρ := (rfl)
theorem av_8 {x0 x1 x2 x3 x4 x5 x6 x7 : Option DV} {d : DV} {ρ : Sl} {L : Led} {P : PD} {px : PX} : aVar 8 (x0 :: x1 :: x2 :: x3 :: x4 :: x5 :: x6 :: x7 :: some d :: ρ) L P px = P d L := (rfl)
theorem sl_8 {x0 x1 x2 x3 x4 x5 x6 x7 : Option DV} {d v : Option DV} {ρ : Sl} : List.set (x0 :: x1 :: x2 :: x3 :: x4 :: x5 :: x6 :: x7 :: d :: ρ) 8 v = x0 :: x1 :: x2 :: x3 :: x4 :: x5 :: x6 :: x7 :: v :: ρ := (rfl)
theorem av_9 {x0 x1 x2 x3 x4 x5 x6 x7 x8 : Option DV} {d : DV} {ρ : Sl} {L : Led} {P : PD} {px : PX} : aVar 9 (x0 :: x1 :: x2 :: x3 :: x4 :: x5 :: x6 :: x7 :: x8 :: some d :: ρ) L P px = P d L := (rfl)
theorem sl_9 {x0 x1 x2 x3 x4 x5 x6 x7 x8 : Option DV} {d v : Option DV} {ρ : Sl} : List.set (x0 :: x1 :: x2 :: x3 :: x4 :: x5 :: x6 :: x7 :: x8 :: d :: ρ) 9 v = x0 :: x1 :: x2 :: x3 :: x4 :: x5 :: x6 :: x7 :: x8 :: v :: ρ := (rfl)
theorem av_10 {x0 x1 x2 x3 x4 x5 x6 x7 x8 x9 : Option DV} {d : DV} {ρ : Sl} {L : Led} {P : PD} {px : PX} : aVar 10 (x0 :: x1 :: x2 :: x3 :: x4 :: x5 :: x6 :: x7 :: x8 :: x9 :: some d :: ρ) L P px = P d L := (rfl)
theorem sl_10 {x0 x1 x2 x3 x4 x5 x6 x7 x8 x9 : Option DV} {d v : Option DV} {ρ : Sl} : List.set (x0 :: x1 :: x2 :: x3 :: x4 :: x5 :: x6 :: x7 :: x8 :: x9 :: d :: ρ) 10 v = x0 :: x1 :: x2 :: x3 :: x4 :: x5 :: x6 :: x7 :: x8 :: x9 :: v :: ρ := (rfl)
theorem av_11 {x0 x1 x2 x3 x4 x5 x6 x7 x8 x9 x10 : Option DV} {d : DV} {ρ : Sl} {L : Led} {P : PD} {px : PX} : aVar 11 (x0 :: x1 :: x2 :: x3 :: x4 :: x5 :: x6 :: x7 :: x8 :: x9 :: x10 :: some d :: ρ) L P px = P d L := (rfl)
theorem sl_11 {x0 x1 x2 x3 x4 x5 x6 x7 x8 x9 x10 : Option DV} {d v : Option DV} {ρ : Sl} : List.set (x0 :: x1 :: x2 :: x3 :: x4 :: x5 :: x6 :: x7 :: x8 :: x9 :: x10 :: d :: ρ) 11 v = x0 :: x1 :: x2 :: x3 :: x4 :: x5 :: x6 :: x7 :: x8 :: x9 :: x10 :: v :: ρ := (rfl)
theorem av_12 {x0 x1 x2 x3 x4 x5 x6 x7 x8 x9 x10 x11 : Option DV} {d : DV} {ρ : Sl} {L : Led} {P : PD} {px : PX} : aVar 12 (x0 :: x1 :: x2 :: x3 :: x4 :: x5 :: x6 :: x7 :: x8 :: x9 :: x10 :: x11 :: some d :: ρ) L P px = P d L := (rfl)
theorem sl_12 {x0 x1 x2 x3 x4 x5 x6 x7 x8 x9 x10 x11 : Option DV} {d v : Option DV} {ρ : Sl} : List.set (x0 :: x1 :: x2 :: x3 :: x4 :: x5 :: x6 :: x7 :: x8 :: x9 :: x10 :: x11 :: d :: ρ) 12 v = x0 :: x1 :: x2 :: x3 :: x4 :: x5 :: x6 :: x7 :: x8 :: x9 :: x10 :: x11 :: v :: ρ := (rfl)
theorem av_13 {x0 x1 x2 x3 x4 x5 x6 x7 x8 x9 x10 x11 x12 : Option DV} {d : DV} {ρ : Sl} {L : Led} {P : PD} {px : PX} : aVar 13 (x0 :: x1 :: x2 :: x3 :: x4 :: x5 :: x6 :: x7 :: x8 :: x9 :: x10 :: x11 :: x12 :: some d :: ρ) L P px = P d L := (rfl)
theorem sl_13 {x0 x1 x2 x3 x4 x5 x6 x7 x8 x9 x10 x11 x12 : Option DV} {d v : Option DV} {ρ : Sl} : List.set (x0 :: x1 :: x2 :: x3 :: x4 :: x5 :: x6 :: x7 :: x8 :: x9 :: x10 :: x11 :: x12 :: d :: ρ) 13 v = x0 :: x1 :: x2 :: x3 :: x4 :: x5 :: x6 :: x7 :: x8 :: x9 :: x10 :: x11 :: x12 :: v :: ρ := (rfl)
theorem av_14 {x0 x1 x2 x3 x4 x5 x6 x7 x8 x9 x10 x11 x12 x13 : Option DV} {d : DV} {ρ : Sl} {L : Led} {P : PD} {px : PX} : aVar 14 (x0 :: x1 :: x2 :: x3 :: x4 :: x5 :: x6 :: x7 :: x8 :: x9 :: x10 :: x11 :: x12 :: x13 :: some d :: ρ) L P px = P d L := (rfl)
theorem sl_14 {x0 x1 x2 x3 x4 x5 x6 x7 x8 x9 x10 x11 x12 x13 : Option DV} {d v : Option DV} {ρ : Sl} : List.set (x0 :: x1 :: x2 :: x3 :: x4 :: x5 :: x6 :: x7 :: x8 :: x9 :: x10 :: x11 :: x12 :: x13 :: d :: ρ) 14 v = x0 :: x1 :: x2 :: x3 :: x4 :: x5 :: x6 :: x7 :: x8 :: x9 :: x10 :: x11 :: x12 :: x13 :: v :: ρ := (rfl)
theorem av_15 {x0 x1 x2 x3 x4 x5 x6 x7 x8 x9 x10 x11 x12 x13 x14 : Option DV} {d : DV} {ρ : Sl} {L : Led} {P : PD} {px : PX} : aVar 15 (x0 :: x1 :: x2 :: x3 :: x4 :: x5 :: x6 :: x7 :: x8 :: x9 :: x10 :: x11 :: x12 :: x13 :: x14 :: some d :: ρ) L P px = P d L := (rfl)
theorem sl_15 {x0 x1 x2 x3 x4 x5 x6 x7 x8 x9 x10 x11 x12 x13 x14 : Option DV} {d v : Option DV} {ρ : Sl} : List.set (x0 :: x1 :: x2 :: x3 :: x4 :: x5 :: x6 :: x7 :: x8 :: x9 :: x10 :: x11 :: x12 :: x13 :: x14 :: d :: ρ) 15 v = x0 :: x1 :: x2 :: x3 :: x4 :: x5 :: x6 :: x7 :: x8 :: x9 :: x10 :: x11 :: x12 :: x13 :: x14 :: v :: ρ := (rfl)
theorem st_1_0 : startA 1 [] = [none] := (rfl)
theorem st_1_1 {d0 : DV} : startA 1 [d0] = [some d0] := (rfl)
theorem st_2_0 : startA 2 [] = [none, none] := (rfl)
theorem st_2_1 {d0 : DV} : startA 2 [d0] = [some d0, none] := (rfl)
theorem st_2_2 {d0 d1 : DV} : startA 2 [d0, d1] = [some d0, some d1] := (rfl)
theorem st_3_0 : startA 3 [] = [none, none, none] := (rfl)
theorem st_3_1 {d0 : DV} : startA 3 [d0] = [some d0, none, none] := (rfl)
theorem st_3_2 {d0 d1 : DV} : startA 3 [d0, d1] = [some d0, some d1, none] := (rfl)
theorem st_3_3 {d0 d1 d2 : DV} : startA 3 [d0, d1, d2] = [some d0, some d1, some d2] := (rfl)
theorem st_4_0 : startA 4 [] = [none, none, none, none] := (rfl)
theorem st_4_1 {d0 : DV} : startA 4 [d0] = [some d0, none, none, none] := (rfl)
theorem st_4_2 {d0 d1 : DV} : startA 4 [d0, d1] = [some d0, some d1, none, none] := (rfl)
theorem st_4_3 {d0 d1 d2 : DV} : startA 4 [d0, d1, d2] = [some d0, some d1, some d2, none] := (rfl)
theorem st_4_4 {d0 d1 d2 d3 : DV} : startA 4 [d0, d1, d2, d3] = [some d0, some d1, some d2, some d3] := (rfl)
theorem st_5_0 : startA 5 [] = [none, none, none, none, none] := (rfl)
theorem st_5_1 {d0 : DV} : startA 5 [d0] = [some d0, none, none, none, none] := (rfl)
theorem st_5_2 {d0 d1 : DV} : startA 5 [d0, d1] = [some d0, some d1, none, none, none] := (rfl)
theorem st_5_3 {d0 d1 d2 : DV} : startA 5 [d0, d1, d2] = [some d0, some d1, some d2, none, none] := (rfl)
theorem st_5_4 {d0 d1 d2 d3 : DV} : startA 5 [d0, d1, d2, d3] = [some d0, some d1, some d2, some d3, none] := (rfl)
theorem st_5_5 {d0 d1 d2 d3 d4 : DV} : startA 5 [d0, d1, d2, d3, d4] = [some d0, some d1, some d2, some d3, some d4] := (rfl)
theorem st_6_0 : startA 6 [] = [none, none, none, none, none, none] := (rfl)
theorem st_6_1 {d0 : DV} : startA 6 [d0] = [some d0, none, none, none, none, none] := (rfl)
theorem st_6_2 {d0 d1 : DV} : startA 6 [d0, d1] = [some d0, some d1, none, none, none, none] := (rfl)
theorem st_6_3 {d0 d1 d2 : DV} : startA 6 [d0, d1, d2] = [some d0, some d1, some d2, none, none, none] := (rfl)
theorem st_6_4 {d0 d1 d2 d3 : DV} : startA 6 [d0, d1, d2, d3] = [some d0, some d1, some d2, some d3, none, none] := (rfl)
theorem st_6_5 {d0 d1 d2 d3 d4 : DV} : startA 6 [d0, d1, d2, d3, d4] = [some d0, some d1, some d2, some d3, some d4, none] := (rfl)
theorem st_6_6 {d0 d1 d2 d3 d4 d5 : DV} : startA 6 [d0, d1, d2, d3, d4, d5] = [some d0, some d1, some d2, some d3, some d4, some d5] := (rfl)
theorem st_7_0 : startA 7 [] = [none, none, none, none, none, none, none] := (rfl)
theorem st_7_1 {d0 : DV} : startA 7 [d0] = [some d0, none, none, none, none, none, none] := (rfl)
theorem st_7_2 {d0 d1 : DV} : startA 7 [d0, d1] = [some d0, some d1, none, none, none, none, none] := (rfl)
theorem st_7_3 {d0 d1 d2 : DV} : startA 7 [d0, d1, d2] = [some d0, some d1, some d2, none, none, none, none] := (rfl)
theorem st_7_4 {d0 d1 d2 d3 : DV} : startA 7 [d0, d1, d2, d3] = [some d0, some d1, some d2, some d3, none, none, none] := (rfl)
theorem st_7_5 {d0 d1 d2 d3 d4 : DV} : startA 7 [d0, d1, d2, d3, d4] = [some d0, some d1, some d2, some d3, some d4, none, none] := (rfl)
theorem st_7_6 {d0 d1 d2 d3 d4 d5 : DV} : startA 7 [d0, d1, d2, d3, d4, d5] = [some d0, some d1, some d2, some d3, some d4, some d5, none] := (rfl)
theorem st_8_0 : startA 8 [] = [none, none, none, none, none, none, none, none] := (rfl)
theorem st_8_1 {d0 : DV} : startA 8 [d0] = [some d0, none, none, none, none, none, none, none] := (rfl)
theorem st_8_2 {d0 d1 : DV} : startA 8 [d0, d1] = [some d0, some d1, none, none, none, none, none, none] := (rfl)
theorem st_8_3 {d0 d1 d2 : DV} : startA 8 [d0, d1, d2] = [some d0, some d1, some d2, none, none, none, none, none] := (rfl)
theorem st_8_4 {d0 d1 d2 d3 : DV} : startA 8 [d0, d1, d2, d3] = [some d0, some d1, some d2, some d3, none, none, none, none] := (rfl)
theorem st_8_5 {d0 d1 d2 d3 d4 : DV} : startA 8 [d0, d1, d2, d3, d4] = [some d0, some d1, some d2, some d3, some d4, none, none, none] := (rfl)
theorem st_8_6 {d0 d1 d2 d3 d4 d5 : DV} : startA 8 [d0, d1, d2, d3, d4, d5] = [some d0, some d1, some d2, some d3, some d4, some d5, none, none] := (rfl)
theorem st_9_0 : startA 9 [] = [none, none, none, none, none, none, none, none, none] := (rfl)
theorem st_9_1 {d0 : DV} : startA 9 [d0] = [some d0, none, none, none, none, none, none, none, none] := (rfl)
theorem st_9_2 {d0 d1 : DV} : startA 9 [d0, d1] = [some d0, some d1, none, none, none, none, none, none, none] := (rfl)
theorem st_9_3 {d0 d1 d2 : DV} : startA 9 [d0, d1, d2] = [some d0, some d1, some d2, none, none, none, none, none, none] := (rfl)
theorem st_9_4 {d0 d1 d2 d3 : DV} : startA 9 [d0, d1, d2, d3] = [some d0, some d1, some d2, some d3, none, none, none, none, none] := (rfl)
theorem st_9_5 {d0 d1 d2 d3 d4 : DV} : startA 9 [d0, d1, d2, d3, d4] = [some d0, some d1, some d2, some d3, some d4, none, none, none, none] := (rfl)
theorem st_9_6 {d0 d1 d2 d3 d4 d5 : DV} : startA 9 [d0, d1, d2, d3, d4, d5] = [some d0, some d1, some d2, some d3, some d4, some d5, none, none, none] := (rfl)
theorem st_10_0 : startA 10 [] = [none, none, none, none, none, none, none, none, none, none] := (rfl)
theorem st_10_1 {d0 : DV} : startA 10 [d0] = [some d0, none, none, none, none, none, none, none, none, none] := (rfl)
theorem st_10_2 {d0 d1 : DV} : startA 10 [d0, d1] = [some d0, some d1, none, none, none, none, none, none, none, none] := (rfl)
theorem st_10_3 {d0 d1 d2 : DV} : startA 10 [d0, d1, d2] = [some d0, some d1, some d2, none, none, none, none, none, none, none] := (rfl)
theorem st_10_4 {d0 d1 d2 d3 : DV} : startA 10 [d0, d1, d2, d3] = [some d0, some d1, some d2, some d3, none, none, none, none, none, none] := (rfl)
theorem st_10_5 {d0 d1 d2 d3 d4 : DV} : startA 10 [d0, d1, d2, d3, d4] = [some d0, some d1, some d2, some d3, some d4, none, none, none, none, none] := (rfl)
theorem st_10_6 {d0 d1 d2 d3 d4 d5 : DV} : startA 10 [d0, d1, d2, d3, d4, d5] = [some d0, some d1, some d2, some d3, some d4, some d5, none, none, none, none] := (rfl)
theorem st_11_0 : startA 11 [] = [none, none, none, none, none, none, none, none, none, none, none] := (rfl)
theorem st_11_1 {d0 : DV} : startA 11 [d0] = [some d0, none, none, none, none, none, none, none, none, none, none] := (rfl)
theorem st_11_2 {d0 d1 : DV} : startA 11 [d0, d1] = [some d0, some d1, none, none, none, none, none, none, none, none, none] := (rfl)
theorem st_11_3 {d0 d1 d2 : DV} : startA 11 [d0, d1, d2] = [some d0, some d1, some d2, none, none, none, none, none, none, none, none] := (rfl)
theorem st_11_4 {d0 d1 d2 d3 : DV} : startA 11 [d0, d1, d2, d3] = [some d0, some d1, some d2, some d3, none, none, none, none, none, none, none] := (rfl)
theorem st_11_5 {d0 d1 d2 d3 d4 : DV} : startA 11 [d0, d1, d2, d3, d4] = [some d0, some d1, some d2, some d3, some d4, none, none, none, none, none, none] := (rfl)
theorem st_11_6 {d0 d1 d2 d3 d4 d5 : DV} : startA 11 [d0, d1, d2, d3, d4, d5] = [some d0, some d1, some d2, some d3, some d4, some d5, none, none, none, none, none] := (rfl)
theorem st_12_0 : startA 12 [] = [none, none, none, none, none, none, none, none, none, none, none, none] := (rfl)
theorem st_12_1 {d0 : DV} : startA 12 [d0] = [some d0, none, none, none, none, none, none, none, none, none, none, none] := (rfl)
theorem st_12_2 {d0 d1 : DV} : startA 12 [d0, d1] = [some d0, some d1, none, none, none, none, none, none, none, none, none, none] := (rfl)
theorem st_12_3 {d0 d1 d2 : DV} : startA 12 [d0, d1, d2] = [some d0, some d1, some d2, none, none, none, none, none, none, none, none, none] := (rfl)
theorem st_12_4 {d0 d1 d2 d3 : DV} : startA 12 [d0, d1, d2, d3] = [some d0, some d1, some d2, some d3, none, none, none, none, none, none, none, none] := (rfl)
theorem st_12_5 {d0 d1 d2 d3 d4 : DV} : startA 12 [d0, d1, d2, d3, d4] = [some d0, some d1, some d2, some d3, some d4, none, none, none, none, none, none, none] := (rfl)
theorem st_12_6 {d0 d1 d2 d3 d4 d5 : DV} : startA 12 [d0, d1, d2, d3, d4, d5] = [some d0, some d1, some d2, some d3, some d4, some d5, none, none, none, none, none, none] := (rfl)
theorem st_13_0 : startA 13 [] = [none, none, none, none, none, none, none, none, none, none, none, none, none] := (rfl)
theorem st_13_1 {d0 : DV} : startA 13 [d0] = [some d0, none, none, none, none, none, none, none, none, none, none, none, none] := (rfl)
theorem st_13_2 {d0 d1 : DV} : startA 13 [d0, d1] = [some d0, some d1, none, none, none, none, none, none, none, none, none, none, none] := (rfl)
theorem st_13_3 {d0 d1 d2 : DV} : startA 13 [d0, d1, d2] = [some d0, some d1, some d2, none, none, none, none, none, none, none, none, none, none] := (rfl)
theorem st_13_4 {d0 d1 d2 d3 : DV} : startA 13 [d0, d1, d2, d3] = [some d0, some d1, some d2, some d3, none, none, none, none, none, none, none, none, none] := (rfl)
theorem st_13_5 {d0 d1 d2 d3 d4 : DV} : startA 13 [d0, d1, d2, d3, d4] = [some d0, some d1, some d2, some d3, some d4, none, none, none, none, none, none, none, none] := (rfl)
theorem st_13_6 {d0 d1 d2 d3 d4 d5 : DV} : startA 13 [d0, d1, d2, d3, d4, d5] = [some d0, some d1, some d2, some d3, some d4, some d5, none, none, none, none, none, none, none] := (rfl)
theorem st_14_0 : startA 14 [] = [none, none, none, none, none, none, none, none, none, none, none, none, none, none] := (rfl)
theorem st_14_1 {d0 : DV} : startA 14 [d0] = [some d0, none, none, none, none, none, none, none, none, none, none, none, none, none] := (rfl)
theorem st_14_2 {d0 d1 : DV} : startA 14 [d0, d1] = [some d0, some d1, none, none, none, none, none, none, none, none, none, none, none, none] := (rfl)
theorem st_14_3 {d0 d1 d2 : DV} : startA 14 [d0, d1, d2] = [some d0, some d1, some d2, none, none, none, none, none, none, none, none, none, none, none] := (rfl)
theorem st_14_4 {d0 d1 d2 d3 : DV} : startA 14 [d0, d1, d2, d3] = [some d0, some d1, some d2, some d3, none, none, none, none, none, none, none, none, none, none] := (rfl)
theorem st_14_5 {d0 d1 d2 d3 d4 : DV} : startA 14 [d0, d1, d2, d3, d4] = [some d0, some d1, some d2, some d3, some d4, none, none, none, none, none, none, none, none, none] := (rfl)
theorem st_14_6 {d0 d1 d2 d3 d4 d5 : DV} : startA 14 [d0, d1, d2, d3, d4, d5] = [some d0, some d1, some d2, some d3, some d4, some d5, none, none, none, none, none, none, none, none] := (rfl)
theorem st_15_0 : startA 15 [] = [none, none, none, none, none, none, none, none, none, none, none, none, none, none, none] := (rfl)
theorem st_15_1 {d0 : DV} : startA 15 [d0] = [some d0, none, none, none, none, none, none, none, none, none, none, none, none, none, none] := (rfl)
theorem st_15_2 {d0 d1 : DV} : startA 15 [d0, d1] = [some d0, some d1, none, none, none, none, none, none, none, none, none, none, none, none, none] := (rfl)
theorem st_15_3 {d0 d1 d2 : DV} : startA 15 [d0, d1, d2] = [some d0, some d1, some d2, none, none, none, none, none, none, none, none, none, none, none, none] := (rfl)
theorem st_15_4 {d0 d1 d2 d3 : DV} : startA 15 [d0, d1, d2, d3] = [some d0, some d1, some d2, some d3, none, none, none, none, none, none, none, none, none, none, none] := (rfl)
theorem st_15_5 {d0 d1 d2 d3 d4 : DV} : startA 15 [d0, d1, d2, d3, d4] = [some d0, some d1, some d2, some d3, some d4, none, none, none, none, none, none, none, none, none, none] := (rfl)
theorem st_15_6 {d0 d1 d2 d3 d4 d5 : DV} : startA 15 [d0, d1, d2, d3, d4, d5] = [some d0, some d1, some d2, some d3, some d4, some d5, none, none, none, none, none, none, none, none, none] := (rfl)
theorem st_16_0 : startA 16 [] = [none, none, none, none, none, none, none, none, none, none, none, none, none, none, none, none] := (rfl)
theorem st_16_1 {d0 : DV} : startA 16 [d0] = [some d0, none, none, none, none, none, none, none, none, none, none, none, none, none, none, none] := (rfl)
theorem st_16_2 {d0 d1 : DV} : startA 16 [d0, d1] = [some d0, some d1, none, none, none, none, none, none, none, none, none, none, none, none, none, none] := (rfl)
theorem st_16_3 {d0 d1 d2 : DV} : startA 16 [d0, d1, d2] = [some d0, some d1, some d2, none, none, none, none, none, none, none, none, none, none, none, none, none] := (rfl)
theorem st_16_4 {d0 d1 d2 d3 : DV} : startA 16 [d0, d1, d2, d3] = [some d0, some d1, some d2, some d3, none, none, none, none, none, none, none, none, none, none, none, none] := (rfl)
theorem st_16_5 {d0 d1 d2 d3 d4 : DV} : startA 16 [d0, d1, d2, d3, d4] = [some d0, some d1, some d2, some d3, some d4, none, none, none, none, none, none, none, none, none, none, none] := (rfl)
theorem st_16_6 {d0 d1 d2 d3 d4 d5 : DV} : startA 16 [d0, d1, d2, d3, d4, d5] = [some d0, some d1, some d2, some d3, some d4, some d5, none, none, none, none, none, none, none, none, none, none] := (rfl)

section
variable {ρ : Sl} {L : Led} {P : PD} {px : PX} {AD : AEnds} {nx_ bk_ ct_ : Sl → Led → Prop} {rt_ : PD} {px_ : PX} {ta tb tc te : AE} {t u : AS} {c : AT} {ro ro' : AR2} {Pb : Bool → Led → Prop} {Pa : List DV → Led → Prop} {nw : NW}
theorem xSeq : aSeq t u ⟨nx_, rt_, bk_, ct_, px_⟩ ρ L = t ⟨u ⟨nx_, rt_, bk_, ct_, px_⟩, rt_, bk_, ct_, px_⟩ ρ L := (rfl)
theorem xNext : aNext ⟨nx_, rt_, bk_, ct_, px_⟩ ρ L = nx_ ρ L := (rfl)
section
variable {n b c : Sl → Led → Prop} {r : PD} {p : PX} {d : DV} {C : Addr}
theorem yNx : AEnds.nx ⟨n, r, b, c, p⟩ ρ L = n ρ L := (rfl)
theorem yBk : AEnds.bk ⟨n, r, b, c, p⟩ ρ L = b ρ L := (rfl)
theorem yCt : AEnds.ct ⟨n, r, b, c, p⟩ ρ L = c ρ L := (rfl)
theorem yRt : AEnds.rt ⟨n, r, b, c, p⟩ d L = r d L := (rfl)
theorem yPx : AEnds.px ⟨n, r, b, c, p⟩ C ρ L = p C ρ L := (rfl)
end
theorem xBrk : aBrk ⟨nx_, rt_, bk_, ct_, px_⟩ ρ L = bk_ ρ L := (rfl)
theorem xCnt : aCnt ⟨nx_, rt_, bk_, ct_, px_⟩ ρ L = ct_ ρ L := (rfl)
theorem xDrop : aDrop te ⟨nx_, rt_, bk_, ct_, px_⟩ ρ L = te ρ L (fun _ => nx_ ρ) px_ := (rfl)
theorem xRet : aRet te ⟨nx_, rt_, bk_, ct_, px_⟩ ρ L = te ρ L rt_ px_ := (rfl)
theorem xRetN : aRetN ⟨nx_, rt_, bk_, ct_, px_⟩ ρ L = rt_ .non L := (rfl)
theorem xIf : aIf c t u ⟨nx_, rt_, bk_, ct_, px_⟩ ρ L = c ρ L (fun b L1 => (b = true → t ⟨nx_, rt_, bk_, ct_, px_⟩ ρ L1) ∧ (b = false → u ⟨nx_, rt_, bk_, ct_, px_⟩ ρ L1)) px_ := (rfl)
theorem xSet {i : Nat} : aSet i te ⟨nx_, rt_, bk_, ct_, px_⟩ ρ L = te ρ L (fun d => nx_ (ρ.set i (some d))) px_ := (rfl)
theorem xRaise {C : Addr} : aRaise C ⟨nx_, rt_, bk_, ct_, px_⟩ ρ L = raiseL C ⟨nx_, rt_, bk_, ct_, px_⟩ .mk ρ L := (rfl)
theorem xGh {k : Kx} : aGh k t ⟨nx_, rt_, bk_, ct_, px_⟩ ρ L = ghL k t ⟨nx_, rt_, bk_, ct_, px_⟩ .mk ρ L := (rfl)
theorem xFrz {k : Kx} : aFrz k te ρ L P px = te ρ L (fun d L1 => frzA k d L1 P .mk) px := (rfl)
theorem xC {d : DV} : aC d ρ L P px = P d L := (rfl)
theorem xBin : aBin ro ta tb ρ L P px = ta ρ L (fun x L1 => tb ρ L1 (fun y L2 => ro x y L2 P) px) px := (rfl)
def tstA (d : DV) (L : Led) (P : Bool → Led → Prop) : Prop := match d with
  | .bl b => P b L
  | _ => False
theorem tstA_bl {b : Bool} : tstA (.bl b) L Pb = Pb b L := (rfl)
theorem xTest : aTest te ρ L Pb px = te ρ L (fun d L' => tstA d L' Pb) px := (rfl)
theorem xChain : aChain ro ro' ta tb tc ρ L P px = ta ρ L (fun x L1 => tb ρ L1 (fun y L2 => ro x y L2 (fun z L3 => tstA z L3 fun b L3 => (b = true → tc ρ L3 (fun w L4 => ro' y w L4 P) px) ∧ (b = false → P (.bl false) L3))) px) px := (rfl)
theorem xAnd {c c' : AT} : aAnd c c' ρ L Pb px = c ρ L (fun b L1 => (b = true → c' ρ L1 Pb px) ∧ (b = false → Pb false L1)) px := (rfl)
theorem xOr {c c' : AT} : aOr c c' ρ L Pb px = c ρ L (fun b L1 => (b = true → Pb true L1) ∧ (b = false → c' ρ L1 Pb px)) px := (rfl)
theorem xNot {c : AT} : aNot c ρ L Pb px = c ρ L (fun b => Pb (!b)) px := (rfl)
theorem xIfE {c : AT} : aIfE c ta tb ρ L P px = c ρ L (fun b L1 => (b = true → ta ρ L1 P px) ∧ (b = false → tb ρ L1 P px)) px := (rfl)
theorem xAndV : aAndV ta tb ρ L P px = ta ρ L (fun d L1 => tstA d L1 fun b L1 => (b = true → tb ρ L1 P px) ∧ (b = false → P (.bl false) L1)) px := (rfl)
theorem xOrV : aOrV ta tb ρ L P px = ta ρ L (fun d L1 => tstA d L1 fun b L1 => (b = true → P (.bl true) L1) ∧ (b = false → tb ρ L1 P px)) px := (rfl)
theorem xNotB : aNotB te ρ L P px = te ρ L (fun d L1 => tstA d L1 fun b => P (.bl (!b))) px := (rfl)
theorem xNotV {c : AT} : aNotV c ρ L P px = c ρ L (fun b => P (.bl (!b))) px := (rfl)
def negA (d : DV) (L : Led) (P : PD) : Prop := match d with
  | .int i => P (.int (-i)) L
  | _ => False
theorem negA_int {i : Int} : negA (.int i) L P = P (.int (-i)) L := (rfl)
theorem xNeg : aNeg te ρ L P px = te ρ L (fun d L1 => negA d L1 P) px := (rfl)
theorem xNil : aNil ρ L Pa px = Pa [] L := (rfl)
theorem xCons {tr : AA} : aCons ta tr ρ L Pa px = ta ρ L (fun x L1 => tr ρ L1 (fun xs => Pa (x :: xs)) px) px := (rfl)
theorem xTup {tr : AA} : aTup tr ρ L P px = tr ρ L (fun ds L1 => few ds 200 (P (.tup ds) L1)) px := (rfl)
theorem xLst {tr : AA} : aLst tr ρ L P px = tr ρ L (fun ds L1 => few ds 200 (newL ds L1 P)) px := (rfl)
theorem xLstN {tr : AA} : aLstN nw tr ρ L P px = tr ρ L (fun ds L1 => few ds 200 (nw ds L1 P)) px := (rfl)
theorem few_nil {n : Nat} {q : Prop} : few [] n q = q := (rfl)
theorem xCB {ro : AC} {tr : AA} : aCB ro tr ρ L P px = tr ρ L (fun ds L1 => ro ds L1 P) px := (rfl)
theorem xTru : aTru te ρ L Pb px = te ρ L (fun d L' => truD d L' fun b => Pb b L') px := (rfl)
theorem xSl {tl th : AO} : aSl te tl th ρ L P px = te ρ L (fun x L1 => tl ρ L1 (fun lo L2 => th ρ L2 (fun hi L3 => oSl x lo hi L3 P) px) px) px := (rfl)
theorem xSlN {tl th : AO} : aSlN nw te tl th ρ L P px = te ρ L (fun x L1 => tl ρ L1 (fun lo L2 => th ρ L2 (fun hi L3 => oSlN nw x lo hi L3 P) px) px) px := (rfl)
theorem xNoPart {Po : Option Int → Led → Prop} : aNoPart ρ L Po px = Po none L := (rfl)
def partA (d : DV) (L : Led) (P : Option Int → Led → Prop) : Prop := match d with
  | .int i => P (some i) L
  | _ => False
theorem partA_int {i : Int} {Po : Option Int → Led → Prop} : partA (.int i) L Po = Po (some i) L := (rfl)
theorem xPart {Po : Option Int → Led → Prop} : aPart te ρ L Po px = te ρ L (fun x L1 => partA x L1 Po) px := (rfl)
theorem xRev : aRev te ρ L P px = te ρ L (fun x L1 => withL L1 x fun ds => newL ds.reverse L1 P) px := (rfl)
theorem xRevN : aRevN nw te ρ L P px = te ρ L (fun x L1 => withL L1 x fun ds => nw ds.reverse L1 P) px := (rfl)
theorem xFld {f : Str} {j : Nat} : aFld f j te ρ L P px = te ρ L (fun x L1 => fldA f j x L1 P .mk) px := (rfl)
theorem xCall {asp : ASp} {dds : List DV} {tr : AA} : aCall asp dds tr ρ L P px = tr ρ L (fun ds L1 => callA asp (ds ++ dds) L1 P (pxA px ρ) .mk .mk) px := (rfl)
theorem xMeth {C : Addr} {asp : ASp} {dds : List DV} {tr : AA} : aMeth C asp dds te tr ρ L P px = te ρ L (fun x L1 => isC L1 x C (tr ρ L1 (fun ds L2 => callA asp (x :: (ds ++ dds)) L2 P (pxA px ρ) .mk .mk) px)) px := (rfl)
theorem xProp {C : Addr} {asp : ASp} : aProp C asp te ρ L P px = te ρ L (fun x L1 => isC L1 x C (callA asp [x] L1 P (fun _ _ => False) .mk .mk)) px := (rfl)
theorem xMake {mk : ASp} {tr : AA} : aMake mk tr ρ L P px = tr ρ L (fun ds L1 => callA mk ds L1 P (pxA px ρ) .mk .mk) px := (rfl)
theorem xOpM {C : Addr} {asp : ASp} : aOpM C asp ta tb ρ L P px = ta ρ L (fun x L1 => tb ρ L1 (fun y L2 => isC L2 x C (isC L2 y C (callA asp [x, y] L2 P (pxA px ρ) .mk .mk))) px) px := (rfl)
theorem xUnM {C : Addr} {asp : ASp} : aUnM C asp ta ρ L P px = ta ρ L (fun x L1 => isC L1 x C (callA asp [x] L1 P (pxA px ρ) .mk .mk)) px := (rfl)
theorem xForS {te : AE} {g : AG} {tb : AS} : aFor (iSeq te) g tb ⟨nx_, rt_, bk_, ct_, px_⟩ ρ L = te ρ L (fun x L1 => seqI x L1 fun items stay => forL items stay g tb ⟨nx_, rt_, bk_, ct_, px_⟩ .mk ρ) px_ := (rfl)
theorem xForR {r} {tr : AA} {g : AG} {tb : AS} : aFor (iRng r tr) g tb ⟨nx_, rt_, bk_, ct_, px_⟩ ρ L = tr ρ L (fun ds L1 => r ds L1 fun items stay => forL items stay g tb ⟨nx_, rt_, bk_, ct_, px_⟩ .mk ρ) px_ := (rfl)
def sigA (d : DV) (L : Led) (P : List DV → (Led → Prop) → Led → Prop) : Prop := match d with
  | .str z => P (signs z) (fun _ => True) L
  | _ => False
theorem sigA_str {z : Str} {Pi : List DV → (Led → Prop) → Led → Prop} : sigA (.str z) L Pi = Pi (signs z) (fun _ => True) L := (rfl)
theorem xForG {g : AG} {tb : AS} : aFor (iSig te) g tb ⟨nx_, rt_, bk_, ct_, px_⟩ ρ L = te ρ L (fun x L1 => sigA x L1 fun items stay => forL items stay g tb ⟨nx_, rt_, bk_, ct_, px_⟩ .mk ρ) px_ := (rfl)
def enuA (ds : List DV) (L : Led) (P : List DV → (Led → Prop) → Led → Prop) (_ : Lk P) : Prop := match ds with
  | [.lst xs] => P (enumD xs) (fun _ => True) L
  | [.tup xs] => P (enumD xs) (fun _ => True) L
  | [.ref a] => ∃ xs, L a = some (.lst xs) ∧ P (enumD xs) (fun L' => L' a = some (.lst xs)) L
  | _ => False
theorem enuA_lst {xs : List DV} {Pi : List DV → (Led → Prop) → Led → Prop} : enuA [.lst xs] L Pi .mk = Pi (enumD xs) (fun _ => True) L := (rfl)
theorem enuA_tup {xs : List DV} {Pi : List DV → (Led → Prop) → Led → Prop} : enuA [.tup xs] L Pi .mk = Pi (enumD xs) (fun _ => True) L := (rfl)
theorem xForE {tr : AA} {g : AG} {tb : AS} : aFor (iEnB tr) g tb ⟨nx_, rt_, bk_, ct_, px_⟩ ρ L = tr ρ L (fun ds L1 => enuA ds L1 (fun items stay => forL items stay g tb ⟨nx_, rt_, bk_, ct_, px_⟩ .mk ρ) .mk) px_ := (rfl)
section
variable {te2 : AE} {g : AG} {tt : AT} {vs : List Nat}
theorem xLcS : aLcN nw (iSeq te) g tt te2 vs ρ L P px = te ρ L (fun x L1 => seqI x L1 fun items stay L2 => lcL nw items stay g tt te2 vs ρ L2 P .mk) px := (rfl)
theorem xLcR {r} {tr : AA} : aLcN nw (iRng r tr) g tt te2 vs ρ L P px = tr ρ L (fun ds L1 => r ds L1 fun items stay L2 => lcL nw items stay g tt te2 vs ρ L2 P .mk) px := (rfl)
theorem xLcG : aLcN nw (iSig te) g tt te2 vs ρ L P px = te ρ L (fun x L1 => sigA x L1 fun items stay L2 => lcL nw items stay g tt te2 vs ρ L2 P .mk) px := (rfl)
theorem xLcE {tr : AA} : aLcN nw (iEnB tr) g tt te2 vs ρ L P px = tr ρ L (fun ds L1 => enuA ds L1 (fun items stay L2 => lcL nw items stay g tt te2 vs ρ L2 P .mk) .mk) px := (rfl)
end
theorem xWhile {c : AT} {tb : AS} : aWhile c tb ⟨nx_, rt_, bk_, ct_, px_⟩ ρ L = whileL c tb ⟨nx_, rt_, bk_, ct_, px_⟩ .mk ρ L := (rfl)
theorem xTryO {K : PySem.W.Frag} {cc : Value} {su : Addr → AS} {tb : AS} : aTryO K cc su tb ⟨nx_, rt_, bk_, ct_, px_⟩ ρ L = tb ⟨nx_, rt_, bk_, ct_, fun c ρ' L' => ∃ b, Caught K c cc b ∧ (b = true → su c ⟨nx_, rt_, bk_, ct_, noPX⟩ ρ' L') ∧ (b = false → px_ c ρ' L')⟩ ρ L := (rfl)
theorem xAsgT {js : List Nat} : aAsgT te js ⟨nx_, rt_, bk_, ct_, px_⟩ ρ L = te ρ L (fun d L1 => gT js d ρ L1 nx_) px_ := (rfl)
theorem xSetIx {to ti tv : AE} : aSetIx to ti tv ⟨nx_, rt_, bk_, ct_, px_⟩ ρ L = tv ρ L (fun d L1 => to ρ L1 (fun x L2 => ti ρ L2 (fun y L3 => oSetL x y d L3 (nx_ ρ)) px_) px_) px_ := (rfl)
theorem xgN {i : Nat} {d : DV} {Q : Sl → Led → Prop} : gN i d ρ L Q = Q (ρ.set i (some d)) L := (rfl)
theorem xgT2 {i j : Nat} {d e : DV} {Q : Sl → Led → Prop} : gT [i, j] (.tup [d, e]) ρ L Q = Q ((ρ.set i (some d)).set j (some e)) L := by
  unfold gT; simp [setsA]
theorem xgT3 {i j l : Nat} {d e f : DV} {Q : Sl → Led → Prop} : gT [i, j, l] (.tup [d, e, f]) ρ L Q = Q (((ρ.set i (some d)).set j (some e)).set l (some f)) L := by
  unfold gT; simp [setsA]
theorem wipe0 : wipeA ρ [] = ρ := (rfl)
theorem wipe1 {i : Nat} : wipeA ρ [i] = ρ.set i none := (rfl)
theorem wipe2 {i j : Nat} : wipeA ρ [i, j] = (ρ.set j none).set i none := (rfl)
theorem wipe3 {i j l : Nat} : wipeA ρ [i, j, l] = ((ρ.set l none).set j none).set i none := (rfl)
theorem xYes : aYes ρ L Pb px = Pb true L := (rfl)
/-! operators on told data -/
theorem oI0_ii {g : Int → Int → DV} {i j : Int} : oI0 g (.int i) (.int j) L P = P (g i j) L := (rfl)
theorem oI_ii {C : Int → Int → Prop} {g : Int → Int → DV} {i j : Int} : oI C g (.int i) (.int j) L P = (C i j ∧ P (g i j) L) := (rfl)
theorem oAdd_ii {i j : Int} : oAdd (.int i) (.int j) L P = P (.int (i + j)) L := (rfl)
theorem oAddN_ii {i j : Int} : oAddN nw (.int i) (.int j) L P = P (.int (i + j)) L := (rfl)
theorem oAddN_tt {i j : List DV} : oAddN nw (.tup i) (.tup j) L P = (i.length + j.length ≤ sizeLine ∧ P (.tup (i ++ j)) L) := (rfl)
theorem oAddN_ss {i j : Str} : oAddN nw (.str i) (.str j) L P = (i.length + j.length ≤ sizeLine ∧ P (.str (i ++ j)) L) := (rfl)
theorem oAddN_ll {i j : List DV} : oAddN nw (.lst i) (.lst j) L P = (i.length + j.length ≤ sizeLine ∧ nw (i ++ j) L P) := (rfl)
theorem oAddN_rl {i : Addr} {j : List DV} : oAddN nw (.ref i) (.lst j) L P = withL L (.ref i) fun i => (i.length + j.length ≤ sizeLine ∧ nw (i ++ j) L P) := (rfl)
theorem oAddN_lr {i : List DV} {j : Addr} : oAddN nw (.lst i) (.ref j) L P = withL L (.ref j) fun j => (i.length + j.length ≤ sizeLine ∧ nw (i ++ j) L P) := (rfl)
theorem oAddN_rr {i j : Addr} : oAddN nw (.ref i) (.ref j) L P = withL L (.ref i) fun i => withL L (.ref j) fun j => (i.length + j.length ≤ sizeLine ∧ nw (i ++ j) L P) := (rfl)
theorem oMulN_ii {i j : Int} : oMulN nw (.int i) (.int j) L P = (CMul i j ∧ P (.int (i * j)) L) := (rfl)
theorem oMulN_li {i : List DV} {j : Int} : oMulN nw (.lst i) (.int j) L P = (-(2 ^ 63) ≤ j ∧ j < 2 ^ 63 ∧ i.length * j.toNat ≤ sizeLine ∧ nw (List.replicate j.toNat i).flatten L P) := (rfl)
theorem oMulL_ii {i j : Int} : oMulL (.int i) (.int j) L P = (CMul i j ∧ P (.int (i * j)) L) := (rfl)
theorem newD_eq {ds : List DV} : newD ds L P = P (.lst ds) L := (rfl)
theorem oSlN_tup {ds : List DV} {lo hi : Option Int} : oSlN nw (.tup ds) lo hi L P = P (.tup (cut ds lo hi)) L := (rfl)
theorem oSlN_lst {ds : List DV} {lo hi : Option Int} : oSlN nw (.lst ds) lo hi L P = nw (cut ds lo hi) L P := (rfl)
theorem oSlN_ref {a : Addr} {lo hi : Option Int} : oSlN nw (.ref a) lo hi L P = withL L (.ref a) fun ds => nw (cut ds lo hi) L P := (rfl)
theorem oSlN_str {z : Str} {lo hi : Option Int} : oSlN nw (.str z) lo hi L P = (z.length ≤ sizeLine ∧ P (.str (cutS z lo hi)) L) := (rfl)
theorem oIx_tup {ds : List DV} {i : Int} : oIx (.tup ds) (.int i) L P = ixA ds i L P .mk := (rfl)
theorem oIx_lst {ds : List DV} {i : Int} : oIx (.lst ds) (.int i) L P = ixA ds i L P .mk := (rfl)
theorem oIx_wl {ds : List DV} {i : Int} : oIx (.wl ds) (.int i) L P = ixA ds i L P .mk := (rfl)
theorem oIx_ref {a : Addr} {i : Int} : oIx (.ref a) (.int i) L P = withL L (.ref a) fun ds => ixA ds i L P .mk := (rfl)
theorem ixA_0 {d : DV} {ds : List DV} {lk : Lk P} : ixA (d :: ds) 0 L P lk = P d L := by
  unfold ixA; rw [show atI (d :: ds) 0 = some d from atI_nat (j := 0) rfl]; simp
theorem ixA_1 {d e : DV} {ds : List DV} {lk : Lk P} : ixA (d :: e :: ds) 1 L P lk = P e L := by
  unfold ixA; rw [show atI (d :: e :: ds) 1 = some e from atI_nat (j := 1) rfl]; simp
theorem ixA_2 {d e f : DV} {ds : List DV} {lk : Lk P} : ixA (d :: e :: f :: ds) 2 L P lk = P f L := by
  unfold ixA; rw [show atI (d :: e :: f :: ds) 2 = some f from atI_nat (j := 2) rfl]; simp
theorem ixA_of {ds : List DV} {i : Int} {d : DV} {lk : Lk P} (h : atI ds i = some d) : ixA ds i L P lk = P d L := by
  unfold ixA; rw [h]; simp
theorem ixA_nat {ds : List DV} {j : Nat} {d : DV} {lk : Lk P} (h : ds[j]? = some d) : ixA ds (j : Int) L P lk = P d L := ixA_of (atI_nat h)
theorem ixA_int {ds : List DV} {i : Int} {d : DV} {lk : Lk P} (h0 : 0 ≤ i) (h : ds[i.toNat]? = some d) : ixA ds i L P lk = P d L := by
  have := atI_nat h
  rw [Int.toNat_of_nonneg h0] at this
  exact ixA_of this
theorem oEqN_ii {n : Bool} {i j : Int} : oEqN n (.int i) (.int j) L P = P (.bl (n ^^ decide (i = j))) L := (rfl)
theorem oEqN_ss {n : Bool} {i j : Str} : oEqN n (.str i) (.str j) L P = P (.bl (n ^^ decide (i = j))) L := (rfl)
theorem oEqN_bb {n : Bool} {i j : Bool} : oEqN n (.bl i) (.bl j) L P = P (.bl (n ^^ decide (i = j))) L := (rfl)
theorem oEqN_nn {n : Bool} : oEqN n .non .non L P = P (.bl (n ^^ true)) L := (rfl)
theorem oEqN_ni {n : Bool} {i : Int} : oEqN n .non (.int i) L P = P (.bl (n ^^ false)) L := (rfl)
theorem oEqN_in {n : Bool} {i : Int} : oEqN n (.int i) .non L P = P (.bl (n ^^ false)) L := (rfl)
theorem oEqN_si {n : Bool} {i : Int} {s : Str} : oEqN n (.str s) (.int i) L P = P (.bl (n ^^ false)) L := (rfl)
theorem oEqN_is {n : Bool} {i : Int} {s : Str} : oEqN n (.int i) (.str s) L P = P (.bl (n ^^ false)) L := (rfl)
theorem oIsN_x {n : Bool} {x : DV} : oIsN n x .non L P = P (.bl (n ^^ isN x)) L := (rfl)
theorem isN_non : isN .non = true := (rfl)
theorem isN_int {i : Int} : isN (.int i) = false := (rfl)
theorem isN_tup {i : List DV} : isN (.tup i) = false := (rfl)
theorem isN_lst {i : List DV} : isN (.lst i) = false := (rfl)
theorem isN_str {i : Str} : isN (.str i) = false := (rfl)
theorem isN_ins {C : Addr} {ks : List Str} {ds : List DV} : isN (.ins C ks ds) = false := (rfl)
theorem isN_ref {a : Addr} : isN (.ref a) = false := (rfl)
theorem isN_bl {b : Bool} : isN (.bl b) = false := (rfl)
theorem bInt_i {i : Int} : bInt [.int i] L P = P (.int i) L := (rfl)
theorem bInt_b {b : Bool} : bInt [.bl b] L P = P (.int (if b then 1 else 0)) L := (rfl)
theorem bAbs_i {i : Int} : bAbs [.int i] L P = P (.int (if i < 0 then -i else i)) L := (rfl)
theorem bMax2_i {i j : Int} : bMax2 [.int i, .int j] L P = P (.int (if j > i then j else i)) L := (rfl)
theorem bMin2_i {i j : Int} : bMin2 [.int i, .int j] L P = P (.int (if j < i then j else i)) L := (rfl)
theorem bLen_s {z : Str} : bLen [.str z] L P = (z.length ≤ sizeLine ∧ P (.int (z.length : Nat)) L) := (rfl)
theorem bLen_l {ds : List DV} : bLen [.lst ds] L P = P (.int (ds.length : Nat)) L := (rfl)
theorem bLen_t {ds : List DV} : bLen [.tup ds] L P = P (.int (ds.length : Nat)) L := (rfl)
theorem bLen_w {ds : List DV} : bLen [.wl ds] L P = P (.int (ds.length : Nat)) L := (rfl)
theorem bLen_r {a : Addr} : bLen [.ref a] L P = withL L (.ref a) fun ds => P (.int (ds.length : Nat)) L := (rfl)
theorem bListN_l {ds : List DV} : bListN nw [.lst ds] L P = nw ds L P := (rfl)
theorem bListN_t {ds : List DV} : bListN nw [.tup ds] L P = nw ds L P := (rfl)
theorem bListN_w {ds : List DV} : bListN nw [.wl ds] L P = nw ds L P := (rfl)
theorem bListN_r {a : Addr} : bListN nw [.ref a] L P = withL L (.ref a) fun ds => nw ds L P := (rfl)
theorem bTuple_t {ds : List DV} : bTuple [.tup ds] L P = P (.tup ds) L := (rfl)
theorem bTuple_l {ds : List DV} : bTuple [.lst ds] L P = P (.tup ds) L := (rfl)
theorem bTuple_r {a : Addr} : bTuple [.ref a] L P = withL L (.ref a) fun ds => P (.tup ds) L := (rfl)
theorem bStr_i {i : Int} : bStr [.int i] L P = (i.natAbs.log2 < 1920 ∧ P (.str (toString i)) L) := (rfl)
theorem truD_b {b : Bool} {q : Bool → Prop} : truD (.bl b) L q = q b := (rfl)
theorem truD_n {q : Bool → Prop} : truD .non L q = q false := (rfl)
theorem truD_i {i : Int} {q : Bool → Prop} : truD (.int i) L q = q (i != 0) := (rfl)
theorem truD_l {i : List DV} {q : Bool → Prop} : truD (.lst i) L q = q (!i.isEmpty) := (rfl)
theorem truD_t {i : List DV} {q : Bool → Prop} : truD (.tup i) L q = q (!i.isEmpty) := (rfl)
theorem truD_r {a : Addr} {q : Bool → Prop} : truD (.ref a) L q = withL L (.ref a) fun ds => q (!ds.isEmpty) := (rfl)
theorem seqI_l {xs : List DV} {Pi : List DV → (Led → Prop) → Led → Prop} : seqI (.lst xs) L Pi = Pi xs (fun _ => True) L := (rfl)
theorem seqI_t {xs : List DV} {Pi : List DV → (Led → Prop) → Led → Prop} : seqI (.tup xs) L Pi = Pi xs (fun _ => True) L := (rfl)
theorem seqI_w {xs : List DV} {Pi : List DV → (Led → Prop) → Led → Prop} : seqI (.wl xs) L Pi = Pi xs (fun _ => True) L := (rfl)
theorem rng1_i {j : Int} {Pi : List DV → (Led → Prop) → Led → Prop} : rng1 [.int j] L Pi = ((-(2 ^ 62) ≤ j ∧ j < 2 ^ 62) ∧ Pi (rangeD 0 j.toNat) (fun _ => True) L) := (rfl)
theorem rng2_i {i j : Int} {Pi : List DV → (Led → Prop) → Led → Prop} : rng2 [.int i, .int j] L Pi = ((-(2 ^ 62) ≤ i ∧ i < 2 ^ 62 ∧ -(2 ^ 62) ≤ j ∧ j < 2 ^ 62) ∧ Pi (rangeD i (j - i).toNat) (fun _ => True) L) := (rfl)
theorem rng3_i {i j : Int} {Pi : List DV → (Led → Prop) → Led → Prop} : rng3 [.int i, .int j, .int (-1)] L Pi = ((-(2 ^ 62) ≤ i ∧ i < 2 ^ 62 ∧ -(2 ^ 62) ≤ j ∧ j < 2 ^ 62) ∧ Pi (downD i (i - j).toNat) (fun _ => True) L) := (rfl)
/-! the ledger -/
theorem withL_lst {ds : List DV} {q : List DV → Prop} : withL L (.lst ds) q = q ds := (rfl)
theorem withSq_lst {ds : List DV} {q : List DV → Prop} : withSq L (.lst ds) q = q ds := (rfl)
theorem withSq_tup {ds : List DV} {q : List DV → Prop} : withSq L (.tup ds) q = q ds := (rfl)
theorem withSq_wl {ds : List DV} {q : List DV → Prop} : withSq L (.wl ds) q = q ds := (rfl)
theorem withL_ref {a : Addr} {q : List DV → Prop} : withL L (.ref a) q = wLA L (.ref a) q .mk := (rfl)
theorem withSq_ref {a : Addr} {q : List DV → Prop} : withSq L (.ref a) q = wSA L (.ref a) q .mk := (rfl)
theorem seqI_ref {a : Addr} {Pi : List DV → (Led → Prop) → Led → Prop} : seqI (.ref a) L Pi = seqA (.ref a) L Pi .mk := (rfl)
theorem isC_ref {a C : Addr} {q : Prop} : isC L (.ref a) C q = isCA L (.ref a) C q .mk := (rfl)
theorem newR_eq {ds : List DV} : newR ds L P = ∀ a, L a = none → P (.ref a) (updL L a (.lst ds)) := (rfl)
theorem newS_e {ds : List DV} : newS ds L P = newA ds L P .mk := (rfl)
theorem newL_e {ds : List DV} : newL ds L P = newA ds L P .mk := (rfl)
theorem oIn_e {n : Bool} {x y : DV} : oIn n x y L P = inA n x y L P .mk := (rfl)
theorem oEqN_tx {n : Bool} {a : List DV} {y : DV} : oEqN n (.tup a) y L P = eqA n (.tup a) y L P .mk := (rfl)
theorem oEqN_lx {n : Bool} {a : List DV} {y : DV} : oEqN n (.lst a) y L P = eqA n (.lst a) y L P .mk := (rfl)
theorem oEqN_rx {n : Bool} {a : Addr} {y : DV} : oEqN n (.ref a) y L P = eqA n (.ref a) y L P .mk := (rfl)
theorem oEqN_xt {n : Bool} {a : List DV} {x : DV} : oEqN n x (.tup a) L P = eqA n x (.tup a) L P .mk := (rfl)
theorem oEqN_xl {n : Bool} {a : List DV} {x : DV} : oEqN n x (.lst a) L P = eqA n x (.lst a) L P .mk := (rfl)
theorem withL_of {a : Addr} {ds : List DV} {q : List DV → Prop} {lk : Lk q} (h : L a = some (.lst ds)) : wLA L (.ref a) q lk = q ds := by
  show (∃ xs, L a = some (.lst xs) ∧ q xs) = _
  simp [h]
theorem withSq_of {a : Addr} {ds : List DV} {q : List DV → Prop} {lk : Lk q} (h : L a = some (.lst ds)) : wSA L (.ref a) q lk = q ds := by
  show (∃ xs, L a = some (.lst xs) ∧ q xs) = _
  simp [h]
theorem seqI_of {a : Addr} {ds : List DV} {Pi : List DV → (Led → Prop) → Led → Prop} {lk : Lk Pi} (h : L a = some (.lst ds)) : seqA (.ref a) L Pi lk = Pi ds (fun L' => L' a = some (.lst ds)) L := by
  show (∃ xs, L a = some (.lst xs) ∧ Pi xs (fun L' => L' a = some (.lst xs)) L) = _
  simp [h]
theorem enuA_of {a : Addr} {ds : List DV} {Pi : List DV → (Led → Prop) → Led → Prop} (h : L a = some (.lst ds)) : enuA [.ref a] L Pi .mk = Pi (enumD ds) (fun L' => L' a = some (.lst ds)) L := by
  show (∃ xs, L a = some (.lst xs) ∧ Pi (enumD xs) (fun L' => L' a = some (.lst xs)) L) = _
  simp [h]
theorem withL_upd {a : Addr} {ds : List DV} {q : List DV → Prop} {lk : Lk q} : wLA (updL L a (.lst ds)) (.ref a) q lk = q ds := withL_of updL_same
theorem withSq_upd {a : Addr} {ds : List DV} {q : List DV → Prop} {lk : Lk q} : wSA (updL L a (.lst ds)) (.ref a) q lk = q ds := withSq_of updL_same
theorem seqI_upd {a : Addr} {ds : List DV} {Pi : List DV → (Led → Prop) → Led → Prop} {lk : Lk Pi} : seqA (.ref a) (updL L a (.lst ds)) Pi lk = Pi ds (fun L' => L' a = some (.lst ds)) (updL L a (.lst ds)) := seqI_of updL_same
theorem withL_ne {a b : Addr} {m : MO} {q : List DV → Prop} {lk : Lk q} (h : b ≠ a) : wLA (updL L a m) (.ref b) q lk = wLA L (.ref b) q lk := by
  show (∃ xs, updL L a m b = _ ∧ q xs) = _
  rw [updL_ne h]; rfl
def lmB (ro : AM) (a : Addr) (ds : List DV) (L : Led) (P : PD) (_ : Lk P) : Prop := ∃ xs, L a = some (.lst xs) ∧ ro a xs ds L P
def lmR (x : DV) (L : Led) (q : Addr → Prop) (_ : Lk q) : Prop := match x with
  | .ref a => (∃ ds, L a = some (.lst ds)) ∧ q a
  | _ => False
theorem xLm {ro : AM} {tr : AA} : aLm ro te tr ρ L P px = te ρ L (fun x L1 => lmR x L1 (fun a => tr ρ L1 (fun ds L2 => lmB ro a ds L2 P .mk) px) .mk) px := (rfl)
theorem lmR_of {a : Addr} {ds : List DV} {q : Addr → Prop} {lk : Lk q} (h : L a = some (.lst ds)) : lmR (.ref a) L q lk = q a := by
  show ((∃ xs, L a = some (.lst xs)) ∧ q a) = _
  simp [h]
theorem lmR_upd {a : Addr} {ds : List DV} {q : Addr → Prop} {lk : Lk q} : lmR (.ref a) (updL L a (.lst ds)) q lk = q a := lmR_of updL_same
theorem lmR_ne {a b : Addr} {m : MO} {q : Addr → Prop} {lk : Lk q} (h : b ≠ a) : lmR (.ref b) (updL L a m) q lk = lmR (.ref b) L q lk := by
  show ((∃ xs, updL L a m b = _) ∧ _) = _
  rw [updL_ne h]; rfl
theorem lmB_of {ro : AM} {a : Addr} {xs ds : List DV} {lk : Lk P} (h : L a = some (.lst xs)) : lmB ro a ds L P lk = ro a xs ds L P := by
  show (∃ xs, L a = some (.lst xs) ∧ ro a xs ds L P) = _
  simp [h]
theorem lmB_upd {ro : AM} {a : Addr} {xs ds : List DV} {lk : Lk P} : lmB ro a ds (updL L a (.lst xs)) P lk = ro a xs ds (updL L a (.lst xs)) P := lmB_of updL_same
theorem mAppend_e {a : Addr} {xs : List DV} {d : DV} : mAppend a xs [d] L P = (xs.length < sizeLine ∧ P .non (updL L a (.lst (xs ++ [d])))) := (rfl)
theorem mReverse_e {a : Addr} {xs : List DV} : mReverse a xs [] L P = P .non (updL L a (.lst xs.reverse)) := (rfl)
theorem mClear_e {a : Addr} {xs : List DV} : mClear a xs [] L P = P .non (updL L a (.lst [])) := (rfl)
theorem mExtend_l {a : Addr} {xs ys : List DV} : mExtend a xs [.lst ys] L P = (xs.length + ys.length ≤ sizeLine ∧ P .non (updL L a (.lst (xs ++ ys)))) := (rfl)
theorem updupd {a : Addr} {m n : MO} : updL (updL L a m) a n = updL L a n := updL_updL
theorem updsame {a : Addr} {m : MO} : updL L a m a = some m := updL_same
theorem isC_ins {C D : Addr} {ks : List Str} {ds : List DV} {q : Prop} : isC L (.ins D ks ds) C q = (D = C ∧ q) := (rfl)
theorem isC_self {C : Addr} {ks : List Str} {ds : List DV} {q : Prop} : isC L (.ins C ks ds) C q = q := by
  show (C = C ∧ q) = q
  simp
theorem isC_of {C a dx : Addr} {ks : List Str} {ds : List DV} {q : Prop} {lk : Lk q} (h : L a = some (.ins C dx ks ds)) : isCA L (.ref a) C q lk = q := by
  show (∃ dx ks ds, L a = some (.ins C dx ks ds) ∧ q) = q
  simp [h]
theorem fldA_of {f : Str} {j : Nat} {C a dx : Addr} {ks : List Str} {ds : List DV} {lk : Lk P} (h : L a = some (.ins C dx ks ds)) : fldA f j (.ref a) L P lk = (ks[j]? = some f ∧ ∃ d, ds[j]? = some d ∧ P d L) := by
  show (∃ C dx ks ds, L a = some (.ins C dx ks ds) ∧ ks[j]? = some f ∧ ∃ d, ds[j]? = some d ∧ P d L) = _
  exact propext ⟨fun ⟨C, dx, ks, ds, e, q⟩ => by rw [h] at e; cases e; exact q, fun q => ⟨_, _, _, _, h, q⟩⟩

theorem fldI_0 {f : Str} {C : Addr} {ks : List Str} {d : DV} {ds : List DV} {lk : Lk P} : fldA f 0 (.ins C (f :: ks) (d :: ds)) L P lk = P d L := by
  show ((f :: ks)[0]? = some f ∧ ∃ y, (d :: ds)[0]? = some y ∧ P y L) = _
  simp
theorem fldI_1 {k0 : Str} {x0 : DV} {f : Str} {C : Addr} {ks : List Str} {d : DV} {ds : List DV} {lk : Lk P} : fldA f 1 (.ins C (k0 :: f :: ks) (x0 :: d :: ds)) L P lk = P d L := by
  show ((k0 :: f :: ks)[1]? = some f ∧ ∃ y, (x0 :: d :: ds)[1]? = some y ∧ P y L) = _
  simp
theorem fldI_2 {k0 k1 : Str} {x0 x1 : DV} {f : Str} {C : Addr} {ks : List Str} {d : DV} {ds : List DV} {lk : Lk P} : fldA f 2 (.ins C (k0 :: k1 :: f :: ks) (x0 :: x1 :: d :: ds)) L P lk = P d L := by
  show ((k0 :: k1 :: f :: ks)[2]? = some f ∧ ∃ y, (x0 :: x1 :: d :: ds)[2]? = some y ∧ P y L) = _
  simp
theorem fldI_3 {k0 k1 k2 : Str} {x0 x1 x2 : DV} {f : Str} {C : Addr} {ks : List Str} {d : DV} {ds : List DV} {lk : Lk P} : fldA f 3 (.ins C (k0 :: k1 :: k2 :: f :: ks) (x0 :: x1 :: x2 :: d :: ds)) L P lk = P d L := by
  show ((k0 :: k1 :: k2 :: f :: ks)[3]? = some f ∧ ∃ y, (x0 :: x1 :: x2 :: d :: ds)[3]? = some y ∧ P y L) = _
  simp
theorem fldI_4 {k0 k1 k2 k3 : Str} {x0 x1 x2 x3 : DV} {f : Str} {C : Addr} {ks : List Str} {d : DV} {ds : List DV} {lk : Lk P} : fldA f 4 (.ins C (k0 :: k1 :: k2 :: k3 :: f :: ks) (x0 :: x1 :: x2 :: x3 :: d :: ds)) L P lk = P d L := by
  show ((k0 :: k1 :: k2 :: k3 :: f :: ks)[4]? = some f ∧ ∃ y, (x0 :: x1 :: x2 :: x3 :: d :: ds)[4]? = some y ∧ P y L) = _
  simp
theorem fldI_5 {k0 k1 k2 k3 k4 : Str} {x0 x1 x2 x3 x4 : DV} {f : Str} {C : Addr} {ks : List Str} {d : DV} {ds : List DV} {lk : Lk P} : fldA f 5 (.ins C (k0 :: k1 :: k2 :: k3 :: k4 :: f :: ks) (x0 :: x1 :: x2 :: x3 :: x4 :: d :: ds)) L P lk = P d L := by
  show ((k0 :: k1 :: k2 :: k3 :: k4 :: f :: ks)[5]? = some f ∧ ∃ y, (x0 :: x1 :: x2 :: x3 :: x4 :: d :: ds)[5]? = some y ∧ P y L) = _
  simp
theorem few_200 {d : DV} {ds : List DV} {q : Prop} : few (d :: ds) 200 q = few ds 199 q := (rfl)
theorem few_199 {d : DV} {ds : List DV} {q : Prop} : few (d :: ds) 199 q = few ds 198 q := (rfl)
theorem few_198 {d : DV} {ds : List DV} {q : Prop} : few (d :: ds) 198 q = few ds 197 q := (rfl)
theorem few_197 {d : DV} {ds : List DV} {q : Prop} : few (d :: ds) 197 q = few ds 196 q := (rfl)
theorem few_196 {d : DV} {ds : List DV} {q : Prop} : few (d :: ds) 196 q = few ds 195 q := (rfl)
theorem few_195 {d : DV} {ds : List DV} {q : Prop} : few (d :: ds) 195 q = few ds 194 q := (rfl)
theorem few_194 {d : DV} {ds : List DV} {q : Prop} : few (d :: ds) 194 q = few ds 193 q := (rfl)
theorem few_193 {d : DV} {ds : List DV} {q : Prop} : few (d :: ds) 193 q = few ds 192 q := (rfl)
theorem few_192 {d : DV} {ds : List DV} {q : Prop} : few (d :: ds) 192 q = few ds 191 q := (rfl)
theorem few_191 {d : DV} {ds : List DV} {q : Prop} : few (d :: ds) 191 q = few ds 190 q := (rfl)
theorem few_190 {d : DV} {ds : List DV} {q : Prop} : few (d :: ds) 190 q = few ds 189 q := (rfl)
theorem few_189 {d : DV} {ds : List DV} {q : Prop} : few (d :: ds) 189 q = few ds 188 q := (rfl)
theorem few_188 {d : DV} {ds : List DV} {q : Prop} : few (d :: ds) 188 q = few ds 187 q := (rfl)
theorem few_187 {d : DV} {ds : List DV} {q : Prop} : few (d :: ds) 187 q = few ds 186 q := (rfl)
theorem few_186 {d : DV} {ds : List DV} {q : Prop} : few (d :: ds) 186 q = few ds 185 q := (rfl)
theorem few_185 {d : DV} {ds : List DV} {q : Prop} : few (d :: ds) 185 q = few ds 184 q := (rfl)
theorem few_184 {d : DV} {ds : List DV} {q : Prop} : few (d :: ds) 184 q = few ds 183 q := (rfl)
theorem few_183 {d : DV} {ds : List DV} {q : Prop} : few (d :: ds) 183 q = few ds 182 q := (rfl)
theorem few_182 {d : DV} {ds : List DV} {q : Prop} : few (d :: ds) 182 q = few ds 181 q := (rfl)
theorem few_181 {d : DV} {ds : List DV} {q : Prop} : few (d :: ds) 181 q = few ds 180 q := (rfl)
end
/-! isinstance of told kinds -/
section
variable {K : PySem.W.Frag} {L : Led} {P : PD}
theorem isi_go {x c : DV} {t u : Value} {b : Bool} (ht : ∀ q, withTy L x q = q t) (hu : ∀ q, withCl c q = q u) (h : PySem.W.kitOne K t u = some b) : bIsi K [x, c] L P = P (.bl b) L := by
  show (withTy L x fun t => withCl c fun u => ∃ b, PySem.W.kitOne K t u = some b ∧ P (.bl b) L) = _
  rw [ht, hu, h]; simp

theorem isi_non_int : bIsi K [.non, .ty "int"] L P = P (.bl false) L := isi_go (fun _ => rfl) (fun _ => rfl) (kit_ty (by decide +kernel))
theorem isi_non_bool : bIsi K [.non, .ty "bool"] L P = P (.bl false) L := isi_go (fun _ => rfl) (fun _ => rfl) (kit_ty (by decide +kernel))
theorem isi_non_str : bIsi K [.non, .ty "str"] L P = P (.bl false) L := isi_go (fun _ => rfl) (fun _ => rfl) (kit_ty (by decide +kernel))
theorem isi_non_list : bIsi K [.non, .ty "list"] L P = P (.bl false) L := isi_go (fun _ => rfl) (fun _ => rfl) (kit_ty (by decide +kernel))
theorem isi_non_tuple : bIsi K [.non, .ty "tuple"] L P = P (.bl false) L := isi_go (fun _ => rfl) (fun _ => rfl) (kit_ty (by decide +kernel))
theorem isi_bl_int {b : Bool} : bIsi K [.bl b, .ty "int"] L P = P (.bl true) L := isi_go (fun _ => rfl) (fun _ => rfl) (kit_ty (by decide +kernel))
theorem isi_bl_bool {b : Bool} : bIsi K [.bl b, .ty "bool"] L P = P (.bl true) L := isi_go (fun _ => rfl) (fun _ => rfl) (kit_ty (by decide +kernel))
theorem isi_bl_str {b : Bool} : bIsi K [.bl b, .ty "str"] L P = P (.bl false) L := isi_go (fun _ => rfl) (fun _ => rfl) (kit_ty (by decide +kernel))
theorem isi_bl_list {b : Bool} : bIsi K [.bl b, .ty "list"] L P = P (.bl false) L := isi_go (fun _ => rfl) (fun _ => rfl) (kit_ty (by decide +kernel))
theorem isi_bl_tuple {b : Bool} : bIsi K [.bl b, .ty "tuple"] L P = P (.bl false) L := isi_go (fun _ => rfl) (fun _ => rfl) (kit_ty (by decide +kernel))
theorem isi_int_int {b : Int} : bIsi K [.int b, .ty "int"] L P = P (.bl true) L := isi_go (fun _ => rfl) (fun _ => rfl) (kit_ty (by decide +kernel))
theorem isi_int_bool {b : Int} : bIsi K [.int b, .ty "bool"] L P = P (.bl false) L := isi_go (fun _ => rfl) (fun _ => rfl) (kit_ty (by decide +kernel))
theorem isi_int_str {b : Int} : bIsi K [.int b, .ty "str"] L P = P (.bl false) L := isi_go (fun _ => rfl) (fun _ => rfl) (kit_ty (by decide +kernel))
theorem isi_int_list {b : Int} : bIsi K [.int b, .ty "list"] L P = P (.bl false) L := isi_go (fun _ => rfl) (fun _ => rfl) (kit_ty (by decide +kernel))
theorem isi_int_tuple {b : Int} : bIsi K [.int b, .ty "tuple"] L P = P (.bl false) L := isi_go (fun _ => rfl) (fun _ => rfl) (kit_ty (by decide +kernel))
theorem isi_str_int {b : Str} : bIsi K [.str b, .ty "int"] L P = P (.bl false) L := isi_go (fun _ => rfl) (fun _ => rfl) (kit_ty (by decide +kernel))
theorem isi_str_bool {b : Str} : bIsi K [.str b, .ty "bool"] L P = P (.bl false) L := isi_go (fun _ => rfl) (fun _ => rfl) (kit_ty (by decide +kernel))
theorem isi_str_str {b : Str} : bIsi K [.str b, .ty "str"] L P = P (.bl true) L := isi_go (fun _ => rfl) (fun _ => rfl) (kit_ty (by decide +kernel))
theorem isi_str_list {b : Str} : bIsi K [.str b, .ty "list"] L P = P (.bl false) L := isi_go (fun _ => rfl) (fun _ => rfl) (kit_ty (by decide +kernel))
theorem isi_str_tuple {b : Str} : bIsi K [.str b, .ty "tuple"] L P = P (.bl false) L := isi_go (fun _ => rfl) (fun _ => rfl) (kit_ty (by decide +kernel))
theorem isi_lst_int {b : List DV} : bIsi K [.lst b, .ty "int"] L P = P (.bl false) L := isi_go (fun _ => rfl) (fun _ => rfl) (kit_ty (by decide +kernel))
theorem isi_lst_bool {b : List DV} : bIsi K [.lst b, .ty "bool"] L P = P (.bl false) L := isi_go (fun _ => rfl) (fun _ => rfl) (kit_ty (by decide +kernel))
theorem isi_lst_str {b : List DV} : bIsi K [.lst b, .ty "str"] L P = P (.bl false) L := isi_go (fun _ => rfl) (fun _ => rfl) (kit_ty (by decide +kernel))
theorem isi_lst_list {b : List DV} : bIsi K [.lst b, .ty "list"] L P = P (.bl true) L := isi_go (fun _ => rfl) (fun _ => rfl) (kit_ty (by decide +kernel))
theorem isi_lst_tuple {b : List DV} : bIsi K [.lst b, .ty "tuple"] L P = P (.bl false) L := isi_go (fun _ => rfl) (fun _ => rfl) (kit_ty (by decide +kernel))
theorem isi_tup_int {b : List DV} : bIsi K [.tup b, .ty "int"] L P = P (.bl false) L := isi_go (fun _ => rfl) (fun _ => rfl) (kit_ty (by decide +kernel))
theorem isi_tup_bool {b : List DV} : bIsi K [.tup b, .ty "bool"] L P = P (.bl false) L := isi_go (fun _ => rfl) (fun _ => rfl) (kit_ty (by decide +kernel))
theorem isi_tup_str {b : List DV} : bIsi K [.tup b, .ty "str"] L P = P (.bl false) L := isi_go (fun _ => rfl) (fun _ => rfl) (kit_ty (by decide +kernel))
theorem isi_tup_list {b : List DV} : bIsi K [.tup b, .ty "list"] L P = P (.bl false) L := isi_go (fun _ => rfl) (fun _ => rfl) (kit_ty (by decide +kernel))
theorem isi_tup_tuple {b : List DV} : bIsi K [.tup b, .ty "tuple"] L P = P (.bl true) L := isi_go (fun _ => rfl) (fun _ => rfl) (kit_ty (by decide +kernel))
theorem isi_r_list {a : Addr} {ds : List DV} {lk : Lk P} (h : L a = some (.lst ds)) : isiA K [.ref a, .ty "list"] L P lk = P (.bl true) L := by
  refine isi_go (t := .type "list") (fun q => ?_) (fun _ => rfl) (kit_ty (by decide +kernel))
  show ((∃ C dx ks ds, L a = some (.ins C dx ks ds) ∧ q (.ref C)) ∨ (∃ ds, L a = some (.lst ds) ∧ q (.type "list")) ∨ ∃ kvs, L a = some (.dK kvs) ∧ q (.type "dict")) = _
  simp [h]
theorem isi_d_list {a : Addr} {ds : List (Key × DV)} {lk : Lk P} (h : L a = some (.dK ds)) : isiA K [.ref a, .ty "list"] L P lk = P (.bl false) L := by
  refine isi_go (t := .type "dict") (fun q => ?_) (fun _ => rfl) (kit_ty (by decide +kernel))
  show ((∃ C dx ks ds, L a = some (.ins C dx ks ds) ∧ q (.ref C)) ∨ (∃ ds, L a = some (.lst ds) ∧ q (.type "list")) ∨ ∃ kvs, L a = some (.dK kvs) ∧ q (.type "dict")) = _
  simp [h]
theorem isi_r_int {a : Addr} {ds : List DV} {lk : Lk P} (h : L a = some (.lst ds)) : isiA K [.ref a, .ty "int"] L P lk = P (.bl false) L := by
  refine isi_go (t := .type "list") (fun q => ?_) (fun _ => rfl) (kit_ty (by decide +kernel))
  show ((∃ C dx ks ds, L a = some (.ins C dx ks ds) ∧ q (.ref C)) ∨ (∃ ds, L a = some (.lst ds) ∧ q (.type "list")) ∨ ∃ kvs, L a = some (.dK kvs) ∧ q (.type "dict")) = _
  simp [h]
theorem isi_d_int {a : Addr} {ds : List (Key × DV)} {lk : Lk P} (h : L a = some (.dK ds)) : isiA K [.ref a, .ty "int"] L P lk = P (.bl false) L := by
  refine isi_go (t := .type "dict") (fun q => ?_) (fun _ => rfl) (kit_ty (by decide +kernel))
  show ((∃ C dx ks ds, L a = some (.ins C dx ks ds) ∧ q (.ref C)) ∨ (∃ ds, L a = some (.lst ds) ∧ q (.type "list")) ∨ ∃ kvs, L a = some (.dK kvs) ∧ q (.type "dict")) = _
  simp [h]
theorem isi_r_bool {a : Addr} {ds : List DV} {lk : Lk P} (h : L a = some (.lst ds)) : isiA K [.ref a, .ty "bool"] L P lk = P (.bl false) L := by
  refine isi_go (t := .type "list") (fun q => ?_) (fun _ => rfl) (kit_ty (by decide +kernel))
  show ((∃ C dx ks ds, L a = some (.ins C dx ks ds) ∧ q (.ref C)) ∨ (∃ ds, L a = some (.lst ds) ∧ q (.type "list")) ∨ ∃ kvs, L a = some (.dK kvs) ∧ q (.type "dict")) = _
  simp [h]
theorem isi_d_bool {a : Addr} {ds : List (Key × DV)} {lk : Lk P} (h : L a = some (.dK ds)) : isiA K [.ref a, .ty "bool"] L P lk = P (.bl false) L := by
  refine isi_go (t := .type "dict") (fun q => ?_) (fun _ => rfl) (kit_ty (by decide +kernel))
  show ((∃ C dx ks ds, L a = some (.ins C dx ks ds) ∧ q (.ref C)) ∨ (∃ ds, L a = some (.lst ds) ∧ q (.type "list")) ∨ ∃ kvs, L a = some (.dK kvs) ∧ q (.type "dict")) = _
  simp [h]
theorem isi_r_str {a : Addr} {ds : List DV} {lk : Lk P} (h : L a = some (.lst ds)) : isiA K [.ref a, .ty "str"] L P lk = P (.bl false) L := by
  refine isi_go (t := .type "list") (fun q => ?_) (fun _ => rfl) (kit_ty (by decide +kernel))
  show ((∃ C dx ks ds, L a = some (.ins C dx ks ds) ∧ q (.ref C)) ∨ (∃ ds, L a = some (.lst ds) ∧ q (.type "list")) ∨ ∃ kvs, L a = some (.dK kvs) ∧ q (.type "dict")) = _
  simp [h]
theorem isi_d_str {a : Addr} {ds : List (Key × DV)} {lk : Lk P} (h : L a = some (.dK ds)) : isiA K [.ref a, .ty "str"] L P lk = P (.bl false) L := by
  refine isi_go (t := .type "dict") (fun q => ?_) (fun _ => rfl) (kit_ty (by decide +kernel))
  show ((∃ C dx ks ds, L a = some (.ins C dx ks ds) ∧ q (.ref C)) ∨ (∃ ds, L a = some (.lst ds) ∧ q (.type "list")) ∨ ∃ kvs, L a = some (.dK kvs) ∧ q (.type "dict")) = _
  simp [h]
theorem isi_r_tuple {a : Addr} {ds : List DV} {lk : Lk P} (h : L a = some (.lst ds)) : isiA K [.ref a, .ty "tuple"] L P lk = P (.bl false) L := by
  refine isi_go (t := .type "list") (fun q => ?_) (fun _ => rfl) (kit_ty (by decide +kernel))
  show ((∃ C dx ks ds, L a = some (.ins C dx ks ds) ∧ q (.ref C)) ∨ (∃ ds, L a = some (.lst ds) ∧ q (.type "list")) ∨ ∃ kvs, L a = some (.dK kvs) ∧ q (.type "dict")) = _
  simp [h]
theorem isi_d_tuple {a : Addr} {ds : List (Key × DV)} {lk : Lk P} (h : L a = some (.dK ds)) : isiA K [.ref a, .ty "tuple"] L P lk = P (.bl false) L := by
  refine isi_go (t := .type "dict") (fun q => ?_) (fun _ => rfl) (kit_ty (by decide +kernel))
  show ((∃ C dx ks ds, L a = some (.ins C dx ks ds) ∧ q (.ref C)) ∨ (∃ ds, L a = some (.lst ds) ∧ q (.type "list")) ∨ ∃ kvs, L a = some (.dK kvs) ∧ q (.type "dict")) = _
  simp [h]
theorem isi_ins {C D : Addr} {ks : List Str} {ds : List DV} {b : Bool} (hk : PySem.W.kitOne K (.ref C) (.ref D) = some b) : bIsi K [.ins C ks ds, .ref D] L P = P (.bl b) L := isi_go (fun _ => rfl) (fun _ => rfl) hk
theorem isi_refx {a : Addr} {c : DV} : bIsi K [.ref a, c] L P = isiA K [.ref a, c] L P .mk := (rfl)
theorem isi_insx {C D : Addr} {ks : List Str} {ds : List DV} : bIsi K [.ins C ks ds, .ref D] L P = isiA K [.ins C ks ds, .ref D] L P .mk := (rfl)
theorem isi_intx {D : Addr} {i : Int} : bIsi K [.int i, .ref D] L P = isiA K [.int i, .ref D] L P .mk := (rfl)
theorem isi_nonx {D : Addr} : bIsi K [.non, .ref D] L P = isiA K [.non, .ref D] L P .mk := (rfl)
theorem isi_lstx {D : Addr} {i : List DV} : bIsi K [.lst i, .ref D] L P = isiA K [.lst i, .ref D] L P .mk := (rfl)
theorem isi_tupx {D : Addr} {i : List DV} : bIsi K [.tup i, .ref D] L P = isiA K [.tup i, .ref D] L P .mk := (rfl)
theorem kit_me {v : Value} : PySem.W.kitOne K v v = some true := by unfold PySem.W.kitOne; rw [if_pos (by simp)]
theorem isi_own {C : Addr} {ks : List Str} {ds : List DV} {lk : Lk P} : isiA K [.ins C ks ds, .ref C] L P lk = P (.bl true) L := isi_ins kit_me
end
end AL

namespace AL
open PySem PySem.Spec PyProof.Rows L2

section
variable {items : List DV} {stay : Led → Prop} {g : AG} {tb : AS} {nx_ bk_ ct_ : Sl → Led → Prop} {rt_ : PD} {px_ : PX} {lk : Lk (AEnds.mk nx_ rt_ bk_ ct_ px_)} {ρ : Sl} {L : Led}
theorem pre_at {α : Type} {xs : List α} {i : Nat} {x : α} (h : xs[i]? = some x) : xs = xs.take i ++ x :: xs.drop (i + 1) := by
  obtain ⟨h1, h2⟩ := List.getElem?_eq_some_iff.mp h
  rw [← h2, ← List.drop_eq_getElem_cons h1, List.take_append_drop]
theorem for_pre {α : Type} (xs : List α) (e : α → DV) (Pv : List α → Sl → Led → Prop) (h0 : Pv [] ρ L) (hs : ∀ done ρ' L', Pv done ρ' L' → stay L')
    (hb : ∀ done x rest ρ' L', xs = done ++ x :: rest → Pv done ρ' L' → g (e x) ρ' L' fun ρ2 L2 => tb ⟨Pv (done ++ [x]), rt_, nx_, Pv (done ++ [x]), px_⟩ ρ2 L2)
    (hz : ∀ ρ' L', Pv xs ρ' L' → nx_ ρ' L') : forL (xs.map e) stay g tb ⟨nx_, rt_, bk_, ct_, px_⟩ lk ρ L := by
  refine ⟨fun i => Pv (xs.take i), h0, fun i ρ' L' h => hs _ _ _ h, fun i d ρ' L' hd h => ?_, fun ρ' L' h => hz _ _ ?_⟩
  · rw [List.getElem?_map] at hd
    cases q : xs[i]? with
    | none => rw [q] at hd; cases hd
    | some x =>
      rw [q] at hd
      cases hd
      have ht : xs.take (i + 1) = xs.take i ++ [x] := by rw [List.take_add_one, q]; rfl
      show g (e x) ρ' L' fun ρ2 L2 => tb ⟨Pv (xs.take (i + 1)), rt_, nx_, Pv (xs.take (i + 1)), px_⟩ ρ2 L2
      rw [ht]
      exact hb _ x _ _ _ (pre_at q) h
  · rw [List.length_map, List.take_length] at h; exact h
theorem for_ix {α : Type} (xs : List α) (e : α → DV) (Pv : Nat → Sl → Led → Prop) (h0 : Pv 0 ρ L) (hs : ∀ i ρ' L', Pv i ρ' L' → stay L')
    (hb : ∀ i x ρ' L', xs[i]? = some x → Pv i ρ' L' → g (e x) ρ' L' fun ρ2 L2 => tb ⟨Pv (i + 1), rt_, nx_, Pv (i + 1), px_⟩ ρ2 L2)
    (hz : ∀ ρ' L', Pv xs.length ρ' L' → nx_ ρ' L') : forL (xs.map e) stay g tb ⟨nx_, rt_, bk_, ct_, px_⟩ lk ρ L := by
  refine ⟨Pv, h0, fun i ρ' L' h => hs _ _ _ h, fun i d ρ' L' hd h => ?_, fun ρ' L' h => hz _ _ ?_⟩
  · rw [List.getElem?_map] at hd
    cases q : xs[i]? with
    | none => rw [q] at hd; cases hd
    | some x =>
      rw [q] at hd
      cases hd
      exact hb i x _ _ q h
  · rw [List.length_map] at h; exact h
theorem for_enu {α : Type} (xs : List α) (e : α × Nat → DV) (Pv : Nat → Sl → Led → Prop) (h0 : Pv 0 ρ L) (hs : ∀ i ρ' L', Pv i ρ' L' → stay L')
    (hb : ∀ i x ρ' L', xs[i]? = some x → Pv i ρ' L' → g (e (x, i)) ρ' L' fun ρ2 L2 => tb ⟨Pv (i + 1), rt_, nx_, Pv (i + 1), px_⟩ ρ2 L2)
    (hz : ∀ ρ' L', Pv xs.length ρ' L' → nx_ ρ' L') : forL (xs.zipIdx.map e) stay g tb ⟨nx_, rt_, bk_, ct_, px_⟩ lk ρ L := by
  refine for_ix xs.zipIdx e Pv h0 hs (fun i x ρ' L' hx h => ?_) (fun ρ' L' h => hz _ _ (by rw [List.length_zipIdx] at h; exact h))
  rw [List.getElem?_zipIdx] at hx
  cases q : xs[i]? with
  | none => rw [q] at hx; cases hx
  | some y =>
    rw [q] at hx
    simp at hx
    subst hx
    exact hb i y _ _ q h
theorem for_enuR (xs : List DV) (Pv : Nat → Sl → Led → Prop) (h0 : Pv 0 ρ L) (hs : ∀ i ρ' L', Pv i ρ' L' → stay L')
    (hb : ∀ i x ρ' L', xs[i]? = some x → Pv i ρ' L' → g (.tup [.int (i : Nat), x]) ρ' L' fun ρ2 L2 => tb ⟨Pv (i + 1), rt_, nx_, Pv (i + 1), px_⟩ ρ2 L2)
    (hz : ∀ ρ' L', Pv xs.length ρ' L' → nx_ ρ' L') : forL (enumD xs) stay g tb ⟨nx_, rt_, bk_, ct_, px_⟩ lk ρ L :=
  for_enu xs (fun p => .tup [.int (p.2 : Nat), p.1]) Pv h0 hs hb hz
theorem for_rng (n : Nat) (e : Nat → DV) (Pv : Nat → Sl → Led → Prop) (h0 : Pv 0 ρ L) (hs : ∀ i ρ' L', Pv i ρ' L' → stay L')
    (hb : ∀ i ρ' L', i < n → Pv i ρ' L' → g (e i) ρ' L' fun ρ2 L2 => tb ⟨Pv (i + 1), rt_, nx_, Pv (i + 1), px_⟩ ρ2 L2)
    (hz : ∀ ρ' L', Pv n ρ' L' → nx_ ρ' L') : forL ((List.range n).map e) stay g tb ⟨nx_, rt_, bk_, ct_, px_⟩ lk ρ L := by
  refine for_ix (List.range n) e Pv h0 hs (fun i x ρ' L' hx h => ?_) (fun ρ' L' h => hz _ _ (by rw [List.length_range] at h; exact h))
  obtain ⟨h1, h2⟩ := List.getElem?_eq_some_iff.mp hx
  simp at h1 h2
  subst h2
  exact hb i _ _ h1 h
/-- with a break: Q holds behind the loop, whichever way it ends -/
theorem for_rngB (n : Nat) (e : Nat → DV) (Pv : Nat → Sl → Led → Prop) (Q : Sl → Led → Prop) (hz : ∀ ρ' L', Q ρ' L' → nx_ ρ' L') (h0 : Pv 0 ρ L) (hs : ∀ i ρ' L', Pv i ρ' L' → stay L') (hq : ∀ ρ' L', Pv n ρ' L' → Q ρ' L')
    (hb : (∀ ρ' L', Q ρ' L' → nx_ ρ' L') → ∀ i ρ' L', i < n → Pv i ρ' L' → g (e i) ρ' L' fun ρ2 L2 => tb ⟨Pv (i + 1), rt_, nx_, Pv (i + 1), px_⟩ ρ2 L2) : forL ((List.range n).map e) stay g tb ⟨nx_, rt_, bk_, ct_, px_⟩ lk ρ L :=
  for_rng n e Pv h0 hs (hb hz) (fun ρ' L' h => hz _ _ (hq _ _ h))
theorem for_ixB {α : Type} (xs : List α) (e : α → DV) (Pv : Nat → Sl → Led → Prop) (Q : Sl → Led → Prop) (hz : ∀ ρ' L', Q ρ' L' → nx_ ρ' L') (h0 : Pv 0 ρ L) (hs : ∀ i ρ' L', Pv i ρ' L' → stay L') (hq : ∀ ρ' L', Pv xs.length ρ' L' → Q ρ' L')
    (hb : (∀ ρ' L', Q ρ' L' → nx_ ρ' L') → ∀ i x ρ' L', xs[i]? = some x → Pv i ρ' L' → g (e x) ρ' L' fun ρ2 L2 => tb ⟨Pv (i + 1), rt_, nx_, Pv (i + 1), px_⟩ ρ2 L2) : forL (xs.map e) stay g tb ⟨nx_, rt_, bk_, ct_, px_⟩ lk ρ L :=
  for_ix xs e Pv h0 hs (hb hz) (fun ρ' L' h => hz _ _ (hq _ _ h))
/-- a loop that keeps what it found -/
theorem for_same (Pv : Sl → Led → Prop) (h0 : Pv ρ L) (hs : ∀ ρ' L', Pv ρ' L' → stay L')
    (hb : ∀ d, d ∈ items → ∀ ρ' L', Pv ρ' L' → g d ρ' L' fun ρ2 L2 => tb ⟨Pv, rt_, nx_, Pv, px_⟩ ρ2 L2) (hz : ∀ ρ' L', Pv ρ' L' → nx_ ρ' L') : forL items stay g tb ⟨nx_, rt_, bk_, ct_, px_⟩ lk ρ L :=
  ⟨fun _ => Pv, h0, fun _ ρ' L' h => hs _ _ h, fun i d ρ' L' hd h => hb d (List.mem_of_getElem? hd) _ _ h, fun ρ' L' h => hz _ _ h⟩
/-- the loop unrolled -/
def runL (g : AG) (tb : AS) (AD : AEnds) : List DV → Sl → Led → Prop
  | [] => AD.nx
  | d :: ds => fun ρ L => g d ρ L fun ρ2 L2 => tb ⟨runL g tb AD ds, AD.rt, AD.nx, runL g tb AD ds, AD.px⟩ ρ2 L2
theorem for_run (h : runL g tb ⟨nx_, rt_, bk_, ct_, px_⟩ items ρ L) : forL items (fun _ => True) g tb ⟨nx_, rt_, bk_, ct_, px_⟩ lk ρ L := by
  refine ⟨fun i => runL g tb ⟨nx_, rt_, bk_, ct_, px_⟩ (items.drop i), h, fun _ _ _ _ => trivial, fun i d ρ' L' hd h => ?_, fun ρ' L' h => ?_⟩
  · obtain ⟨h1, h2⟩ := List.getElem?_eq_some_iff.mp hd
    change runL g tb ⟨nx_, rt_, bk_, ct_, px_⟩ (items.drop i) ρ' L' at h
    rw [List.drop_eq_getElem_cons h1, h2] at h
    exact h
  · change runL g tb ⟨nx_, rt_, bk_, ct_, px_⟩ (items.drop items.length) ρ' L' at h
    rw [List.drop_length] at h; exact h
theorem run_nil : runL g tb ⟨nx_, rt_, bk_, ct_, px_⟩ [] ρ L = nx_ ρ L := (rfl)
theorem run_cons {d : DV} {ds : List DV} : runL g tb ⟨nx_, rt_, bk_, ct_, px_⟩ (d :: ds) ρ L = g d ρ L fun ρ2 L2 => tb ⟨runL g tb ⟨nx_, rt_, bk_, ct_, px_⟩ ds, rt_, nx_, runL g tb ⟨nx_, rt_, bk_, ct_, px_⟩ ds, px_⟩ ρ2 L2 := (rfl)
end
section
variable {stay : Led → Prop} {g : AG} {tt : AT} {te : AE} {vs : List Nat} {ρ : Sl} {L : Led} {P : PD} {lk : Lk P} {nw : NW}
theorem lc_pre {α : Type} (xs : List α) (e : α → DV) (Pv : List α → List DV → Led → Prop) (hl : xs.length < sizeLine) (h0 : Pv [] [] L) (hs : ∀ done acc L', Pv done acc L' → stay L' ∧ acc.length ≤ done.length)
    (hb : ∀ done x rest acc L', xs = done ++ x :: rest → Pv done acc L' → g (e x) (wipeA ρ vs) L' fun ρ2 L2 => tt ρ2 L2 (fun b L3 => (b = true → te ρ2 L3 (fun y L4 => Pv (done ++ [x]) (acc ++ [y]) L4) noPX) ∧ (b = false → Pv (done ++ [x]) acc L3)) noPX)
    (hz : ∀ acc L', Pv xs acc L' → nw acc L' P) : lcL nw (xs.map e) stay g tt te vs ρ L P lk := by
  refine ⟨by rw [List.length_map]; exact hl, fun i => Pv (xs.take i), h0, fun i acc L' h => ⟨(hs _ _ _ h).1, Nat.le_trans (hs _ _ _ h).2 (by rw [List.length_take]; exact Nat.min_le_left ..)⟩, fun i d acc L' hd h => ?_, fun ρ' L' h => hz _ _ ?_⟩
  · rw [List.getElem?_map] at hd
    cases q : xs[i]? with
    | none => rw [q] at hd; cases hd
    | some x =>
      rw [q] at hd
      cases hd
      have ht : xs.take (i + 1) = xs.take i ++ [x] := by rw [List.take_add_one, q]; rfl
      show g (e x) (wipeA ρ vs) L' fun ρ2 L2 => tt ρ2 L2 (fun b L3 => (b = true → te ρ2 L3 (fun y L4 => Pv (xs.take (i + 1)) (acc ++ [y]) L4) noPX) ∧ (b = false → Pv (xs.take (i + 1)) acc L3)) noPX
      rw [ht]
      exact hb _ x _ _ _ (pre_at q) h
  · rw [List.length_map, List.take_length] at h; exact h
/-- a comprehension that changes nothing, with a test -/
theorem lc_filt {α : Type} (xs : List α) (e : α → DV) (c : α → Bool) (f : α → DV) (hl : xs.length < sizeLine) (hs : stay L)
    (hb : ∀ x ∈ xs, ∀ (K1 : PD) (K0 : Led → Prop), (c x = true → K1 (f x) L) → (c x = false → K0 L) → g (e x) (wipeA ρ vs) L fun ρ2 L2 => tt ρ2 L2 (fun b L3 => (b = true → te ρ2 L3 K1 noPX) ∧ (b = false → K0 L3)) noPX)
    (h : nw ((xs.filter c).map f) L P) : lcL nw (xs.map e) stay g tt te vs ρ L P lk := by
  refine lc_pre xs e (fun done acc L' => L' = L ∧ acc = (done.filter c).map f) hl ⟨rfl, rfl⟩ (fun done acc L' q => ⟨by rw [q.1]; exact hs, by rw [q.2, List.length_map]; exact List.length_filter_le ..⟩) ?_ ?_
  · rintro done x rest acc L' e ⟨rfl, rfl⟩
    refine hb x (by rw [e]; simp) _ _ (fun z => ⟨rfl, ?_⟩) (fun z => ⟨rfl, ?_⟩)
    · rw [List.filter_append, List.map_append]; simp [List.filter, z]
    · rw [List.filter_append, List.map_append]; simp [List.filter, z]
  · rintro acc L' ⟨rfl, rfl⟩
    exact h
theorem lc_map {α : Type} (xs : List α) (e : α → DV) (f : α → DV) (hl : xs.length < sizeLine) (hs : stay L)
    (hb : ∀ x ∈ xs, ∀ (K1 : PD), K1 (f x) L → g (e x) (wipeA ρ vs) L fun ρ2 L2 => te ρ2 L2 K1 noPX)
    (h : nw (xs.map f) L P) : lcL nw (xs.map e) stay g aYes te vs ρ L P lk := by
  refine lc_pre xs e (fun done acc L' => L' = L ∧ acc = done.map f) hl ⟨rfl, rfl⟩ (fun done acc L' q => ⟨by rw [q.1]; exact hs, by rw [q.2, List.length_map]; exact Nat.le_refl _⟩) ?_ ?_
  · rintro done x rest acc L' e ⟨rfl, rfl⟩
    have := hb x (by rw [e]; simp) (fun y L4 => L4 = L' ∧ done.map f ++ [y] = (done ++ [x]).map f) ⟨rfl, by rw [List.map_append]; rfl⟩
    have e2 : (fun ρ2 L2 => aYes ρ2 L2 (fun b L3 => (b = true → te ρ2 L3 (fun y L4 => L4 = L' ∧ done.map f ++ [y] = (done ++ [x]).map f) noPX) ∧ (b = false → L3 = L' ∧ done.map f = (done ++ [x]).map f)) noPX) = fun ρ2 L2 => te ρ2 L2 (fun y L4 => L4 = L' ∧ done.map f ++ [y] = (done ++ [x]).map f) noPX := by
      funext ρ2 L2; simp [aYes]
    rw [e2]
    exact this
  · rintro acc L' ⟨rfl, rfl⟩
    exact h
theorem lc_mapR {xs : List DV} (f : DV → DV) (hl : xs.length < sizeLine) (hs : stay L)
    (hb : ∀ x ∈ xs, ∀ (K1 : PD), K1 (f x) L → g x (wipeA ρ vs) L fun ρ2 L2 => te ρ2 L2 K1 noPX)
    (h : nw (xs.map f) L P) : lcL nw xs stay g aYes te vs ρ L P lk := by
  have := lc_map (g := g) (te := te) (vs := vs) (ρ := ρ) (lk := lk) (nw := nw) (stay := stay) xs id f hl hs hb h
  rwa [List.map_id] at this
end
/-! ### lists of a kind -/
section
variable {α : Type} {xs : List α} {L : Led} {P : PD}
theorem bAll_map {p : α → Bool} : bAll [.lst (xs.map fun x => .bl (p x))] L P = P (.bl (xs.all p)) L := by
  show (∃ bs : List Bool, xs.map (fun x => DV.bl (p x)) = bs.map DV.bl ∧ P (.bl (bs.all id)) L) = _
  refine propext ⟨fun ⟨bs, e, h⟩ => ?_, fun h => ⟨xs.map p, by rw [List.map_map]; rfl, by rw [List.all_map]; exact h⟩⟩
  have : bs = xs.map p := by
    have := congrArg (List.map fun d => match d with | .bl b => b | _ => false) e
    simpa [List.map_map, Function.comp_def] using this.symm
  rw [this, List.all_map] at h
  exact h
theorem bAny_map {p : α → Bool} : bAny [.lst (xs.map fun x => .bl (p x))] L P = P (.bl (xs.any p)) L := by
  show (∃ bs : List Bool, xs.map (fun x => DV.bl (p x)) = bs.map DV.bl ∧ P (.bl (bs.any id)) L) = _
  refine propext ⟨fun ⟨bs, e, h⟩ => ?_, fun h => ⟨xs.map p, by rw [List.map_map]; rfl, by rw [List.any_map]; exact h⟩⟩
  have : bs = xs.map p := by
    have := congrArg (List.map fun d => match d with | .bl b => b | _ => false) e
    simpa [List.map_map, Function.comp_def] using this.symm
  rw [this, List.any_map] at h
  exact h
theorem bSum_map {p : α → Int} : bSum [.lst (xs.map fun x => .int (p x))] L P = P (.int (xs.map p).sum) L := by
  show (∃ ns : List Int, xs.map (fun x => DV.int (p x)) = ns.map DV.int ∧ P (.int ns.sum) L) = _
  refine propext ⟨fun ⟨bs, e, h⟩ => ?_, fun h => ⟨xs.map p, by rw [List.map_map]; rfl, h⟩⟩
  have : bs = xs.map p := by
    have := congrArg (List.map fun d => match d with | .int b => b | _ => 0) e
    simpa [List.map_map, Function.comp_def] using this.symm
  rw [this] at h
  exact h
theorem ixA_ints {ns : List Int} {i : Nat} {lk : Lk P} (h : i < ns.length) : ixA (ns.map DV.int) (i : Int) L P lk = P (.int (ns.getD i 0)) L :=
  ixA_nat (by rw [List.getElem?_map, List.getD_eq_getElem?_getD, List.getElem?_eq_getElem h]; rfl)
theorem ixA_lt {ds : List DV} {i : Nat} {lk : Lk P} (h : i < ds.length) : ixA ds (i : Int) L P lk = P ds[i] L := ixA_nat (List.getElem?_eq_getElem h)
theorem ixA_map {f : α → DV} {i : Nat} {x : α} {lk : Lk P} (h : xs[i]? = some x) : ixA (xs.map f) (i : Int) L P lk = P (f x) L :=
  ixA_nat (by rw [List.getElem?_map, h]; rfl)
theorem rangeD_0 {n : Nat} : rangeD 0 n = (List.range n).map fun i => DV.int (i : Nat) := by
  unfold rangeD; simp
theorem rangeD_e {lo : Int} {n : Nat} : rangeD lo n = (List.range n).map fun i => DV.int (lo + (i : Nat)) := (rfl)
theorem downD_e {lo : Int} {n : Nat} : downD lo n = (List.range n).map fun i => DV.int (lo - (i : Nat)) := (rfl)
theorem enumD_map {e : α → DV} : enumD (xs.map e) = xs.zipIdx.map fun p => DV.tup [.int (p.2 : Nat), e p.1] := by
  unfold enumD
  rw [List.zipIdx_map, List.map_map]; rfl
theorem signs_e {z : Str} : signs z = z.cps.toList.map fun c => DV.str ⟨#[c]⟩ := (rfl)
theorem cut_map {f : α → DV} {lo hi : Option Int} : cut (xs.map f) lo hi = (cut xs lo hi).map f := by
  unfold cut; rw [List.length_map, ← List.map_drop, ← List.map_take]
theorem cut_take {i : Int} (h : 0 ≤ i) : cut xs none (some i) = xs.take i.toNat := by
  unfold cut HT.sIx
  have e : (if i < 0 then (i + (xs.length : Int)).toNat else min i.toNat xs.length) = min i.toNat xs.length := if_neg (by omega)
  show (xs.drop 0).take ((if i < 0 then _ else _) - 0) = _
  rw [e, List.drop_zero, Nat.sub_zero]
  by_cases q : i.toNat ≤ xs.length
  · rw [Nat.min_eq_left q]
  · rw [Nat.min_eq_right (by omega), List.take_length, List.take_of_length_le (by omega)]
theorem cut_takeL {i : Int} (h : 0 ≤ i) : cut xs none (some i) = xs.take i.toNat := cut_take h
theorem cut_takeN {i : Nat} : cut xs none (some (i : Int)) = xs.take i := by rw [cut_take (Int.natCast_nonneg i), Int.toNat_natCast]
theorem cut_drop {i : Int} (h : 0 ≤ i) : cut xs (some i) none = xs.drop i.toNat := by
  unfold cut HT.sIx
  have e : (if i < 0 then (i + (xs.length : Int)).toNat else min i.toNat xs.length) = min i.toNat xs.length := if_neg (by omega)
  show (xs.drop (if i < 0 then _ else _)).take (xs.length - (if i < 0 then _ else _)) = _
  rw [e]
  by_cases q : i.toNat ≤ xs.length
  · rw [Nat.min_eq_left q, List.take_of_length_le (by rw [List.length_drop]; exact Nat.le_refl _)]
  · rw [Nat.min_eq_right (by omega), List.drop_of_length_le (Nat.le_refl _), List.drop_of_length_le (by omega), List.take_nil]
theorem cut_dropN {i : Nat} : cut xs (some (i : Int)) none = xs.drop i := by rw [cut_drop (Int.natCast_nonneg i), Int.toNat_natCast]
theorem cut_dropS {i : Nat} : cut xs (some ((i : Int) + 1)) none = xs.drop (i + 1) := by rw [cut_drop (by omega)]; congr 1
theorem cut_last {n : Int} (h : n < 0) : cut xs (some n) none = xs.drop (n + (xs.length : Int)).toNat := by
  unfold cut HT.sIx
  have e : (if n < 0 then (n + (xs.length : Int)).toNat else min n.toNat xs.length) = (n + (xs.length : Int)).toNat := if_pos h
  show (xs.drop (if n < 0 then _ else _)).take (xs.length - (if n < 0 then _ else _)) = _
  rw [e, List.take_of_length_le (by rw [List.length_drop]; exact Nat.le_refl _)]
end
/-! ### making what does not change -/
/-- what an __init__ makes of its arguments: the values of the fields, or an error -/
abbrev Ini := List DV → Led → (List DV → Prop) → (Addr → Led → Prop) → Prop
def spI (C : Addr) (ks : List Str) (ini : Ini) : ASp := fun ds L P R => ∃ x args dx, ds = .ref x :: args ∧ L x = some (.ins C dx [] []) ∧ ini args L (fun vals => P .non (updL L x (.ins C dx ks vals))) R
def mkI (C : Addr) (ks : List Str) (ini : Ini) : ASp := fun ds L P R => ini ds L (fun vals => P (.ins C ks vals) L) R
def IniMono (ini : Ini) : Prop := ∀ ds L x m K K' R, L x = none → (∀ v, K v → K' v) → ini ds L K R → ini ds (updL L x m) K' R
theorem mkok_I {k : Kx} {C : Addr} {ks : List Str} {ini : Ini} (hm : IniMono ini) : MkOk k C (spI C ks ini) (mkI C ks ini) [] := by
  intro ds L P R h x dx hx
  refine ⟨x, ds, dx, by rw [List.append_nil], updL_same, ?_⟩
  refine hm ds L x _ _ _ R hx (fun v h => ?_) h
  refine ⟨rfl, _, _, FrzD.ins updL_same, ?_⟩
  rw [updL_updL, delL_updL hx]
  exact h
def fnOk (f : Str) (ks : List Str) : Prop := (!ks.contains f && decide (ks.length < 900)) = true
instance (f : Str) (ks : List Str) : Decidable (fnOk f ks) := inferInstanceAs (Decidable (_ = true))
def fnewA (C : Addr) (f : Str) (x d : DV) (L : Led) (q : Led → Prop) (_ : Lk q) : Prop := match x with
  | .ref a => ∃ dx ks ds, L a = some (.ins C dx ks ds) ∧ fnOk f ks ∧ q (updL L a (.ins C dx (ks ++ [f]) (ds ++ [d])))
  | _ => False
theorem xFNew {C : Addr} {f : Str} {te tv : AE} {nx_ bk_ ct_ : Sl → Led → Prop} {rt_ : PD} {px_ : PX} {ρ : Sl} {L : Led} : aFNew C f te tv ⟨nx_, rt_, bk_, ct_, px_⟩ ρ L = tv ρ L (fun d L1 => te ρ L1 (fun x L2 => fnewA C f x d L2 (nx_ ρ) .mk) px_) px_ := (rfl)
theorem fnewA_of {C a dx : Addr} {f : Str} {d : DV} {L : Led} {q : Led → Prop} {lk : Lk q} {ks : List Str} {ds : List DV} (h : L a = some (.ins C dx ks ds)) : fnewA C f (.ref a) d L q lk = (fnOk f ks ∧ q (updL L a (.ins C dx (ks ++ [f]) (ds ++ [d])))) := by
  show (∃ dx ks ds, L a = some (.ins C dx ks ds) ∧ _) = _
  exact propext ⟨fun ⟨dx, ks, ds, e, h1, h2⟩ => by rw [h] at e; cases e; exact ⟨h1, h2⟩, fun z => ⟨_, _, _, h, z⟩⟩
theorem fnewA_upd {C a dx : Addr} {f : Str} {d : DV} {L : Led} {q : Led → Prop} {lk : Lk q} {ks : List Str} {ds : List DV} : fnewA C f (.ref a) d (updL L a (.ins C dx ks ds)) q lk = (fnOk f ks ∧ q (updL L a (.ins C dx (ks ++ [f]) (ds ++ [d])))) := by
  rw [fnewA_of updL_same, updL_updL]
theorem fupdA_dummy : True := trivial
/-- what was made is forgotten at the return -/
theorem frz_sub {k : Kx} {d : DV} {L L2 : Led} {P : PD} {lk : Lk P} (s : Sub L2 L) (h : P d L2) : frzA k d L P lk := ⟨d, L2, FrzD.sub s, h⟩
theorem Sub.over {L0 L : Led} {a : Addr} {m : MO} (s : Sub L0 L) (h : L0 a = Option.none) : Sub L0 (updL L a m) := fun b n e => by
  rw [updL_ne (ne_led e h)]; exact s b n e
/-! ### try -/
def tryPx (K : PySem.W.Frag) (cc : Value) (i : Nat) (suite : Addr → Addr → AS) (nx_ bk_ ct_ : Sl → Led → Prop) (rt_ : PD) (px_ : PX) : PX := fun c ρ' L' => ∃ b, Caught K c cc b ∧ (b = true → ∀ a, suite c a ⟨fun ρ2 L2 => nx_ (ρ2.set i none) L2, rt_, fun ρ2 L2 => bk_ (ρ2.set i none) L2, fun ρ2 L2 => ct_ (ρ2.set i none) L2, noPX⟩ (ρ'.set i (some (.ref a))) L') ∧ (b = false → px_ c ρ' L')
section
variable {K : PySem.W.Frag} {cc : Value} {i : Nat} {suite : Addr → Addr → AS} {nx_ bk_ ct_ : Sl → Led → Prop} {rt_ : PD} {px_ : PX} {tb : AS} {ρ : Sl} {L : Led} {P : PD}
theorem xTryA : aTryA K cc i suite tb ⟨nx_, rt_, bk_, ct_, px_⟩ ρ L = tb ⟨nx_, rt_, bk_, ct_, tryPx K cc i suite nx_ bk_ ct_ rt_ px_⟩ ρ L := (rfl)
theorem isE_of {D a C : Addr} {b : Bool} (h : PySem.W.kitOne K (.ref D) (.ref C) = some b) : bIsE K D a [.ref a, .ref C] L P = P (.bl b) L := by
  show (a = a ∧ ∃ r, PySem.W.kitOne K (.ref D) (.ref C) = some r ∧ P (.bl r) L) = _
  simp [h]
theorem isE_ty {D a : Addr} {n : String} {b : Bool} (h : PySem.W.kitOne K (.ref D) (.type n) = some b) : bIsE K D a [.ref a, .ty n] L P = P (.bl b) L := by
  show (a = a ∧ ∃ r, PySem.W.kitOne K (.ref D) (.type n) = some r ∧ P (.bl r) L) = _
  simp [h]
theorem isE_self {D a : Addr} : bIsE K D a [.ref a, .ref D] L P = P (.bl true) L := isE_of kit_me
end
/-! ### a place of a list is given another value -/
def setA (a : Addr) (i : Int) (d : DV) (L : Led) (q : Led → Prop) (_ : Lk q) : Prop := oSetL (.ref a) (.int i) d L q
section
variable {a : Addr} {i : Int} {d : DV} {L : Led} {q : Led → Prop} {lk : Lk q} {ds : List DV}
theorem oSetL_e : oSetL (.ref a) (.int i) d L q = setA a i d L q .mk := (rfl)
theorem setA_of (h : L a = some (.lst ds)) (h0 : 0 ≤ i) (h1 : i < ds.length) : setA a i d L q lk = q (updL L a (.lst (ds.set i.toNat d))) := by
  have e : ixN ds.length i = some i.toNat := by
    unfold ixN; rw [if_pos h0, if_pos h1]
  refine propext ⟨fun ⟨xs, j, e1, e2, z⟩ => ?_, fun z => ⟨ds, i.toNat, h, e, z⟩⟩
  rw [h] at e1; cases e1
  rw [e] at e2; cases e2
  exact z
theorem setA_upd (h0 : 0 ≤ i) (h1 : i < ds.length) : setA a i d (updL L a (.lst ds)) q lk = q (updL L a (.lst (ds.set i.toNat d))) := by
  rw [setA_of updL_same h0 h1, updL_updL]
end
end AL
namespace AL
open PySem PySem.Spec PyProof.Rows L2

/-! ### nested data compared -/
mutual
def toPy : DV → PyData
  | .non => .none
  | .bl b => .bool b
  | .int i => .int i
  | .str s => .str s
  | .lst xs => .list (toPys xs)
  | .tup xs => .tuple (toPys xs)
  | .ty _ => .none
  | .ref _ => .none
  | .ins _ _ _ => .none
  | .wl _ => .none
def toPys : List DV → List PyData
  | [] => []
  | x :: xs => toPy x :: toPys xs
end
/-- nested at most n deep -/
def pl : Nat → DV → Prop
  | _, .non => True
  | _, .bl _ => True
  | _, .int _ => True
  | _, .str s => PyData.strOk s = true
  | n + 1, .lst xs => ∀ x ∈ xs, pl n x
  | n + 1, .tup xs => ∀ x ∈ xs, pl n x
  | _, _ => False
theorem pl_ok {L : Led} : ∀ (n : Nat) (d : DV), pl n d → PyOf L d (toPy d) ∧ (toPy d).canLay0 = true ∧ (toPy d).depth ≤ n := by
  have lists : ∀ n, (∀ d, pl n d → PyOf L d (toPy d) ∧ (toPy d).canLay0 = true ∧ (toPy d).depth ≤ n) → ∀ xs : List DV, (∀ x ∈ xs, pl n x) → PyOfs L xs (toPys xs) ∧ PyData.canLayAll0 (toPys xs) = true ∧ PyData.depthAll (toPys xs) ≤ n := by
    intro n ih xs
    induction xs with
    | nil => intro _; exact ⟨.nil, rfl, Nat.zero_le _⟩
    | cons x xs ihx =>
      intro h
      obtain ⟨a1, a2, a3⟩ := ih x (h x (List.mem_cons_self ..))
      obtain ⟨b1, b2, b3⟩ := ihx fun y hy => h y (List.mem_cons_of_mem _ hy)
      exact ⟨.cons a1 b1, by rw [toPys, PyData.canLayAll0, a2, b2]; rfl, by rw [toPys, PyData.depthAll]; exact Nat.max_le.mpr ⟨a3, b3⟩⟩
  intro n
  induction n with
  | zero =>
    intro d h
    cases d <;> simp [pl] at h
    case non => exact ⟨.non, rfl, Nat.le_refl _⟩
    case bl => exact ⟨.bl _, rfl, Nat.le_refl _⟩
    case int => exact ⟨.int _, rfl, Nat.le_refl _⟩
    case str => exact ⟨.str _, h, Nat.le_refl _⟩
  | succ n ih =>
    intro d h
    cases d <;> try (simp [pl] at h; done)
    case non => exact ⟨.non, rfl, Nat.zero_le _⟩
    case bl => exact ⟨.bl _, rfl, Nat.zero_le _⟩
    case int => exact ⟨.int _, rfl, Nat.zero_le _⟩
    case str => exact ⟨.str _, (by rw [toPy, PyData.canLay0]; simpa [pl] using h), Nat.zero_le _⟩
    case lst xs =>
      obtain ⟨a, b, c⟩ := lists n ih xs h
      exact ⟨.lst a, by rw [toPy, PyData.canLay0]; exact b, by rw [toPy, PyData.depth]; exact Nat.succ_le_succ c⟩
    case tup xs =>
      obtain ⟨a, b, c⟩ := lists n ih xs h
      exact ⟨.tup a, by rw [toPy, PyData.canLay0]; exact b, by rw [toPy, PyData.depth]; exact Nat.succ_le_succ c⟩
theorem pl_shaped {n : Nat} {d : DV} (h : pl n d) (hn : n ≤ 64) : SeqAt.shaped (toPy d) = true := by
  obtain ⟨_, a, b⟩ := pl_ok (L := fun _ => none) n d h
  unfold SeqAt.shaped
  rw [a, decide_eq_true (Nat.le_trans b hn)]; rfl
/-- nothing that a number and a bool share -/
def plS : Nat → DV → Prop
  | _, .non => True
  | _, .int _ => True
  | _, .str s => PyData.strOk s = true
  | n + 1, .lst xs => ∀ x ∈ xs, plS n x
  | n + 1, .tup xs => ∀ x ∈ xs, plS n x
  | _, _ => False
theorem plS_pl : ∀ (n : Nat) (d : DV), plS n d → pl n d := by
  intro n
  induction n with
  | zero => intro d h; cases d <;> simp [plS] at h <;> simp [pl, h]
  | succ n ih =>
    intro d h
    cases d <;> simp [plS] at h <;> simp [pl, h]
    · exact fun x hx => ih x (h x hx)
    · exact fun x hx => ih x (h x hx)
open Classical in
theorem eqv_dec : ∀ (n : Nat) (d e : DV), plS n d → plS n e → PyData.eqv (toPy d) (toPy e) = decide (d = e) := by
  have lists : ∀ n, (∀ d e, plS n d → plS n e → PyData.eqv (toPy d) (toPy e) = decide (d = e)) → ∀ xs ys : List DV, (∀ x ∈ xs, plS n x) → (∀ y ∈ ys, plS n y) → PyData.eqvAll (toPys xs) (toPys ys) = decide (xs = ys) := by
    intro n ih xs
    induction xs with
    | nil => intro ys _ _; cases ys <;> simp [toPys, PyData.eqvAll]
    | cons x xs ihx =>
      intro ys h1 h2
      cases ys with
      | nil => simp [toPys, PyData.eqvAll]
      | cons y ys =>
        rw [toPys, toPys, PyData.eqvAll, ih x y (h1 x (List.mem_cons_self ..)) (h2 y (List.mem_cons_self ..)), ihx ys (fun z hz => h1 z (List.mem_cons_of_mem _ hz)) fun z hz => h2 z (List.mem_cons_of_mem _ hz)]
        simp
  intro n
  induction n with
  | zero =>
    intro d e h1 h2
    cases d <;> simp [plS] at h1 <;> cases e <;> simp [plS] at h2 <;> simp [toPy, PyData.eqv] <;> first | rfl | (rename_i a b; by_cases q : a = b <;> simp [q])
  | succ n ih =>
    intro d e h1 h2
    cases d <;> simp [plS] at h1 <;> cases e <;> simp [plS] at h2 <;> simp [toPy, PyData.eqv] <;> first | rfl | (exact lists n ih _ _ h1 h2) | (rename_i a b; by_cases q : a = b <;> simp [q])
section
variable {n : Nat} {neg : Bool} {x y : DV} {L : Led} {P : PD} {lk : Lk P}
theorem eqA_go {d e : PyData} (h1 : PyOf L x d) (h2 : PyOf L y e) (s1 : SeqAt.shaped d = true) (s2 : SeqAt.shaped e = true) (hx : (∃ a, x = .lst a) ∨ (∃ a, x = .tup a) ∨ (∃ a, x = .ref a) ∨ (∃ a, y = .lst a) ∨ (∃ a, y = .tup a) ∨ ∃ a, y = .ref a) (h : P (.bl (neg ^^ PyData.eqv d e)) L) : eqA neg x y L P lk := by
  have D : oDeep neg x y L P := ⟨d, e, h1, h2, s1, s2, h⟩
  rcases hx with ⟨a, rfl⟩ | ⟨a, rfl⟩ | ⟨a, rfl⟩ | ⟨a, rfl⟩ | ⟨a, rfl⟩ | ⟨a, rfl⟩
  · cases y <;> exact D
  · cases y <;> exact D
  · cases y <;> exact D
  · cases x <;> exact D
  · cases x <;> exact D
  · cases x <;> exact D
def isSeqD (x : DV) : Prop := (∃ a, x = .lst a) ∨ ∃ a, x = .tup a
theorem eqA_same (hp : pl n x) (h : P (.bl (neg ^^ true)) L) (hn : n ≤ 64 := by decide) (hs : isSeqD x := by first | exact .inl ⟨_, rfl⟩ | exact .inr ⟨_, rfl⟩) : eqA neg x x L P lk := by
  obtain ⟨a, b, c⟩ := pl_ok (L := L) n x hp
  refine eqA_go a a (pl_shaped hp hn) (pl_shaped hp hn) (hs.elim .inl fun z => .inr (.inl z)) ?_
  rw [SeqAt.eqv_refl _ b]; exact h
open Classical in
theorem eqA_dec (hp : plS n x) (hq : plS n y) (h : P (.bl (neg ^^ decide (x = y))) L) (hn : n ≤ 64 := by decide) (hs : isSeqD x ∨ isSeqD y := by first | exact .inl (.inl ⟨_, rfl⟩) | exact .inl (.inr ⟨_, rfl⟩) | exact .inr (.inl ⟨_, rfl⟩) | exact .inr (.inr ⟨_, rfl⟩)) : eqA neg x y L P lk := by
  obtain ⟨a, b, c⟩ := pl_ok (L := L) n x (plS_pl _ _ hp)
  obtain ⟨a', b', c'⟩ := pl_ok (L := L) n y (plS_pl _ _ hq)
  refine eqA_go a a' (pl_shaped (plS_pl _ _ hp) hn) (pl_shaped (plS_pl _ _ hq) hn) (hs.elim (fun z => z.elim .inl fun z => .inr (.inl z)) fun z => z.elim (fun z => .inr (.inr (.inr (.inl z)))) fun z => .inr (.inr (.inr (.inr (.inl z))))) ?_
  rw [eqv_dec n x y hp hq]; exact h
/-- a list of the ledger is compared as its items -/
theorem eqA_refl {a : Addr} {xs : List DV} (e : L a = some (.lst xs)) (h : eqA neg (.lst xs) y L P lk) : eqA neg (.ref a) y L P lk := by
  have D : oDeep neg (.lst xs) y L P := by cases y <;> exact h
  obtain ⟨d, f, h1, h2, s1, s2, h⟩ := D
  cases h1 with
  | lst h1 => exact eqA_go (.ref e h1) h2 s1 s2 (.inr (.inr (.inl ⟨_, rfl⟩))) h
theorem eqA_refr {a : Addr} {ys : List DV} (e : L a = some (.lst ys)) (h : eqA neg x (.lst ys) L P lk) : eqA neg x (.ref a) L P lk := by
  have D : oDeep neg x (.lst ys) L P := by cases x <;> exact h
  obtain ⟨d, f, h1, h2, s1, s2, h⟩ := D
  cases h2 with
  | lst h2 => exact eqA_go h1 (.ref e h2) s1 s2 (.inr (.inr (.inr (.inr (.inr ⟨_, rfl⟩))))) h
theorem plS_ints {ns : List Int} : plS 1 (.lst (ns.map .int)) := fun x hx => by obtain ⟨i, _, rfl⟩ := List.mem_map.mp hx; trivial
theorem plS_intT {ns : List Int} : plS 1 (.tup (ns.map .int)) := fun x hx => by obtain ⟨i, _, rfl⟩ := List.mem_map.mp hx; trivial
theorem pl_ints {ns : List Int} : pl 1 (.lst (ns.map .int)) := plS_pl _ _ plS_ints
theorem ints_inj {ns ms : List Int} : ns.map DV.int = ms.map DV.int ↔ ns = ms :=
  ⟨fun h => by
    have := congrArg (List.map fun d => match d with | DV.int i => i | _ => 0) h
    simpa [List.map_map, Function.comp_def] using this, fun h => by rw [h]⟩
end
theorem ne_lr : (("left" : Str) = "right") = False := eq_false (by decide +kernel)
theorem ne_rl : (("right" : Str) = "left") = False := eq_false (by decide +kernel)
section
variable {neg : Bool} {i : Int} {ns : List Int} {L : Led} {P : PD} {lk : Lk P}
theorem inA_l : inA neg (.int i) (.lst (ns.map DV.int)) L P lk = P (.bl (neg ^^ decide (i ∈ ns))) L := by
  show (flatD (.int i) = true ∧ (ns.map DV.int).all flatD = true ∧ P (.bl (neg ^^ inD (.int i) (ns.map DV.int))) L) = _
  rw [flat_ints, inD_int]; simp [flatD]
theorem inA_t : inA neg (.int i) (.tup (ns.map DV.int)) L P lk = P (.bl (neg ^^ decide (i ∈ ns))) L := by
  show (flatD (.int i) = true ∧ (ns.map DV.int).all flatD = true ∧ P (.bl (neg ^^ inD (.int i) (ns.map DV.int))) L) = _
  rw [flat_ints, inD_int]; simp [flatD]
theorem inA_r {a : Addr} (h : L a = some (.lst (ns.map DV.int))) : inA neg (.int i) (.ref a) L P lk = P (.bl (neg ^^ decide (i ∈ ns))) L := by
  show (flatD (.int i) = true ∧ ∃ ds, L a = some (.lst ds) ∧ ds.all flatD = true ∧ P (.bl (neg ^^ inD (.int i) ds)) L) = _
  rw [h]
  refine propext ⟨fun ⟨_, ds, e, _, z⟩ => ?_, fun z => ⟨rfl, _, rfl, flat_ints ns, by rw [inD_int]; exact z⟩⟩
  cases e
  rw [inD_int] at z; exact z
end
end AL
namespace AL
open PySem PySem.Spec PyProof.Rows L2

/-! ### tuple * int, also 0, 1 and below -/
theorem tuple_mul0 (l : Addr) (items : Array Value) (n : Nat) (dd : Option Addr) (sl : Array (Option Value)) (x : Int) (u : Tok) (c0 : (decide (x < -(2 ^ 63)) || decide (x ≥ 2 ^ 63)) = false) (c1 : (items.isEmpty || x == 1) = false) (c2 : (decide (x ≤ 0) || items.isEmpty) = true) :
    Meets (Builtin.«tuple.__mul__» ⟨[.ref l, .int x u], []⟩) (fun _ R s => s.heap.get? l = some { cls := .type "tuple", dict := dd, data := .seq items n, slots := sl } ∧
      R (.ok (.ret (Value.ref s.heap.objs.size))) { s with heap := s.heap.push { cls := Value.type "tuple", data := Data.seq #[] }, toks := s.toks }) :=
  .of_wp fun prog w A R s h => by
    obtain ⟨hp, g, d, tk, os⟩ := s
    obtain ⟨hl, h⟩ := h
    have f1 := AutoSeq1.idx_int
    wp_walk using wpAny_loadPart' hl
    repeat (first
      | (refine wpAny_ite_false (decide_eq_false (by rw [c0]; exact Bool.false_ne_true)) ?_; wp_walk using wpAny_loadPart' hl)
      | (refine wpAny_ite_false (decide_eq_false (by rw [c1]; exact Bool.false_ne_true)) ?_; wp_walk using wpAny_loadPart' hl)
      | (refine wpAny_ite_true (decide_eq_true c2) ?_; wp_walk using wpAny_loadPart' hl))
    exact ⟨_, rfl, h⟩
theorem tuple_mul1 (l : Addr) (items : Array Value) (n : Nat) (dd : Option Addr) (sl : Array (Option Value)) (x : Int) (u : Tok) (c0 : (decide (x < -(2 ^ 63)) || decide (x ≥ 2 ^ 63)) = false) (c1 : (items.isEmpty || x == 1) = true) :
    Meets (Builtin.«tuple.__mul__» ⟨[.ref l, .int x u], []⟩) (fun _ R s => s.heap.get? l = some { cls := .type "tuple", dict := dd, data := .seq items n, slots := sl } ∧
      R (.ok (.ret (Value.ref l))) s) :=
  .of_wp fun prog w A R s h => by
    obtain ⟨hp, g, d, tk, os⟩ := s
    obtain ⟨hl, h⟩ := h
    have f1 := AutoSeq1.idx_int
    wp_walk using wpAny_loadPart' hl
    repeat (first
      | (refine wpAny_ite_false (decide_eq_false (by rw [c0]; exact Bool.false_ne_true)) ?_; wp_walk using wpAny_loadPart' hl)
      | (refine wpAny_ite_true (decide_eq_true c1) ?_; wp_walk using wpAny_loadPart' hl))
    exact ⟨_, rfl, h⟩
/-- tuple * int, whatever the int -/
def rRepA (K : PySem.W.Frag) : R2 := fun x y H Q => ∃ l k xs, x = .ref l ∧ y = .int k ∧ SqT K H l xs ∧ xs ≠ [] ∧ -1000000 ≤ k ∧ k ≤ 1000 ∧ xs.length ≤ 1000 ∧ (k = 1 → Q (.ref l) H) ∧ (k ≠ 1 → ∀ p, H p = none → Q (.ref p) (upd H p (.tup (List.replicate k.toNat xs).flatten)))
theorem op_repA {X : Cx} : OpR X (binaryOp .Mult) (rRepA X.K) := by
  intro pins s σ H x y v u Q I rx ry h
  obtain ⟨l, k, xs, ex, ey, hT, hne, h0, h2, hz, q1, q⟩ := h
  by_cases hk : 2 ≤ k
  · exact op_repT pins s σ H x y v u Q I rx ry ⟨l, k, xs, ex, ey, hT, hne, hk, h2, hz, q (by omega)⟩
  subst ex ey
  cases rx
  obtain ⟨t, rfl⟩ := ry
  obtain ⟨its, r, ⟨⟨cls, dd, data, sl⟩, ho, hc, n, hd⟩, hs⟩ := I.tuple hT
  simp only at hc hd
  subst hc hd
  have hle : its.length = xs.length := r.length.symm
  have hn : its ≠ [] := fun e => hne (by
    rw [e] at hle
    exact List.eq_nil_of_length_eq_zero hle.symm)
  have hi : its.toArray.isEmpty = false := by
    cases its with
    | nil => exact absurd rfl hn
    | cons a b => rfl
  have c0 : (decide (k < -(2 ^ 63)) || decide (k ≥ 2 ^ 63)) = false := by
    rw [decide_eq_false (by omega), decide_eq_false (by omega)] <;> rfl
  by_cases h1 : k = 1
  · have c1 : (its.toArray.isEmpty || k == 1) = true := by
      rw [hi, Bool.false_or]
      exact beq_iff_eq.mpr h1
    refine wpAny_binaryOp_repeat_ref (T := "tuple") (U := "int") (by decide) ⟨_, ho, rfl⟩ (fun s' => typeIs_int s' k t) noFill_tuple_mul F.fills_int_mul F.slot_int_rmul repeat_tuple F.slot_int_index.lookup
      (call_meets F.slot_int_rmul (typeIs_int s k t) F.entry_int_rmul (F.args_int_rmul_2 _ _) (int_rmul_tuple k t l its.toArray n dd sl)
        ⟨ho, rfl, ⟨_, ho, rfl⟩, call_meets F.slot_tuple_mul ⟨_, ho, rfl⟩ F.entry_tuple_mul (F.args_tuple_mul_2 _ _) (tuple_mul1 l its.toArray n dd sl k t c0 c1) ⟨ho, ?_⟩⟩)
    exact ⟨.ref l, _, I, rfl, q1 h1⟩
  · have c1 : (its.toArray.isEmpty || k == 1) = false := by
      rw [hi, Bool.false_or]
      exact beq_eq_false_iff_ne.mpr h1
    have c2 : (decide (k ≤ 0) || its.toArray.isEmpty) = true := by
      rw [hi, Bool.or_false]
      exact decide_eq_true (by omega)
    have e0 : k.toNat = 0 := by omega
    refine wpAny_binaryOp_repeat_ref (T := "tuple") (U := "int") (by decide) ⟨_, ho, rfl⟩ (fun s' => typeIs_int s' k t) noFill_tuple_mul F.fills_int_mul F.slot_int_rmul repeat_tuple F.slot_int_index.lookup
      (call_meets F.slot_int_rmul (typeIs_int s k t) F.entry_int_rmul (F.args_int_rmul_2 _ _) (int_rmul_tuple k t l its.toArray n dd sl)
        ⟨ho, rfl, ⟨_, ho, rfl⟩, call_meets F.slot_tuple_mul ⟨_, ho, rfl⟩ F.entry_tuple_mul (F.args_tuple_mul_2 _ _) (tuple_mul0 l its.toArray n dd sl k t c0 c1 c2) ⟨ho, ?_⟩⟩)
    refine ⟨.ref s.heap.objs.size, _, I.laid (t' := s.toks) (o := .tup []) (fun b ob q => Heap.get?_push_of_some _ q) (Nat.le_refl _) ?_, rfl, ?_⟩
    · exact ⟨Nat.zero_le _, [], .nil, IsTup.new _ _⟩
    · have := q h1 _ (I.hok.fresh (Nat.le_refl _))
      rw [e0] at this
      exact this
def oMulA (nw : NW) : AR2 := fun x y L P => match x, y with
  | .tup xs, .int k => xs ≠ [] ∧ (-1000000 ≤ k ∧ k ≤ 1000) ∧ xs.length ≤ 1000 ∧ P (.tup (List.replicate k.toNat xs).flatten) L
  | x, y => oMulN nw x y L P
theorem oMulA_ok {k : Kx} {nw : NW} (hn : NwOk nw) : AOp k (fun x y H Q => (rI CMul (fun i j => .int (i * j)) x y H Q ∨ rRep x y H Q) ∨ rRepA k.K x y H Q) (oMulA nw) := by
  intro I F H L x y xv yv P Q A rx ry h q
  unfold oMulA at h
  split at h
  · obtain ⟨h1, h2, h3, h⟩ := h
    cases rx with | tup hx r => ?_
    cases ry
    refine .inr ⟨_, _, _, rfl, rfl, A.imm.t hx, fun e => h1 ?_, h2.1, h2.2, by rw [← r.length]; exact h3, fun e => ?_, fun e p hp => newT_ok A (Rps.rep r _) h q p hp⟩
    · subst e; cases r; rfl
    · subst e
      rw [show (1 : Int).toNat = 1 from rfl, List.replicate_one, List.flatten_singleton] at h
      exact here A (.tup hx r) h q
  · exact .inl (oMulL_ok A rx ry (oMulN_imp hn _ _ _ _ h) q)
section
variable {X : Cx} {W : WX} {a b : Expr} {ta tb : AE} {pos : Pos} {nw : NW} (hn : NwOk nw)
include hn
theorem a_mulA (ha : PE X a (cE X.kx W ta)) (hb : PE X b (cE X.kx W tb)) : PE X (.BinOp a .Mult b pos) (cE X.kx W (aBin (oMulA nw) ta tb)) := a_bin (opMulL.or op_repA) (oMulA_ok hn) ha hb
end
section
variable {L : Led} {P : PD} {nw : NW}
theorem oMulA_ti {xs : List DV} {k : Int} : oMulA nw (.tup xs) (.int k) L P = (xs ≠ [] ∧ (-1000000 ≤ k ∧ k ≤ 1000) ∧ xs.length ≤ 1000 ∧ P (.tup (List.replicate k.toNat xs).flatten) L) := (rfl)
theorem oMulA_ii {i j : Int} : oMulA nw (.int i) (.int j) L P = (CMul i j ∧ P (.int (i * j)) L) := (rfl)
theorem oMulA_li {i : List DV} {j : Int} : oMulA nw (.lst i) (.int j) L P = (-(2 ^ 63) ≤ j ∧ j < 2 ^ 63 ∧ i.length * j.toNat ≤ sizeLine ∧ nw (List.replicate j.toNat i).flatten L P) := (rfl)
end
end AL
namespace AL
open PySem PySem.Spec PyProof.Rows L2

/-! ### texts -/
theorem CallR.or {X : Cx} {f : Value} {r r' : List V → Hp → VK → Prop} (h : CallR X f r) (h' : CallR X f r') : CallR X f (fun xs H Q => r xs H Q ∨ r' xs H Q) :=
  fun pins s σ H xs us Q I v q => q.elim (h pins s σ H xs us Q I v) (h' pins s σ H xs us Q I v)
theorem ACl.or {k : Kx} {r r' : List V → Hp → VK → Prop} {ro ro' : AC} (h : ACl k r ro) (h' : ACl k r' ro') : ACl k (fun xs H Q => r xs H Q ∨ r' xs H Q) (fun ds L P => ro ds L P ∨ ro' ds L P) :=
  fun A rx o q => o.elim (fun z => .inl (h A rx z q)) fun z => .inr (h' A rx z q)
/-- list(text) -/
def rListS : List V → Hp → VK → Prop := fun xs H Q => ∃ z : Str, xs = [.str z] ∧ z.length ≤ sizeLine ∧ ∀ p, H p = none → Q (.ref p) (upd H p (.lst (z.cps.toList.map fun c => V.str ⟨#[c]⟩)))
theorem cr_listS {X : Cx} (hc : X.calm = true) : CallR X (.type "list") rListS := by
  intro pins s σ H vs us Q I r h
  obtain ⟨z, rfl, hz, q⟩ := h
  cases r with
  | cons r1 rs =>
    cases rs
    obtain ⟨t, rfl⟩ := r1
    refine call_list_str (I.ok.hd hc) z t (fun h' tk acc' c' hk hS' hacc => ?_) (hn := hz)
    refine ⟨.ref s.heap.objs.size, _, I.laid (o := .lst (z.cps.toList.map fun c => V.str ⟨#[c]⟩)) (t' := tk) (fun b u q => hk b u q) (Nat.le_refl _) ?_, rfl, q _ (I.hok.fresh (Nat.le_refl _))⟩
    have hl : acc'.toList.length = z.cps.toList.length := by simp [hacc.1]
    refine ⟨by rw [List.length_map]; simpa using (show z.cps.size ≤ sizeLine from hz), acc'.toList, c', ?_, by simpa using hS'⟩
    have gen : ∀ (cs : List Nat) (us : List Value), us.length = cs.length → (∀ (j : Nat) (v : Value), us[j]? = some v → ∃ c u, cs[j]? = some c ∧ v = Value.str ⟨#[c]⟩ u) → Vals (cs.map fun c => V.str ⟨#[c]⟩) us := by
      intro cs
      induction cs with
      | nil => intro us h _; cases us with | nil => exact .nil | cons _ _ => simp at h
      | cons c cs ih =>
        intro us h hh
        cases us with
        | nil => simp at h
        | cons u us =>
          obtain ⟨c', t', e, rfl⟩ := hh 0 u rfl
          simp at e; subst e
          exact .cons ⟨t', rfl⟩ (ih us (by simpa using h) fun j v hv => by
            obtain ⟨c2, u2, e2, e3⟩ := hh (j + 1) v (by simpa using hv)
            exact ⟨c2, u2, by simpa using e2, e3⟩)
    refine gen _ _ hl fun j v hv => ?_
    obtain ⟨c, u, hcc, rfl⟩ := hacc.2 j v (by simpa using hv)
    exact ⟨c, u, by simpa using hcc, rfl⟩
theorem signs_rp {K : PySem.W.Frag} {I : Hp} : ∀ cs : List Nat, Rps K I (cs.map fun c => DV.str ⟨#[c]⟩) (cs.map fun c => V.str ⟨#[c]⟩)
  | [] => .nil
  | c :: cs => .cons (.str _) (signs_rp cs)
def bListS (nw : NW) : AC := fun ds L P => match ds with
  | [.str z] => z.length ≤ sizeLine ∧ nw (signs z) L P
  | _ => False
theorem bListS_ok {k : Kx} {nw : NW} (hn : NwOk nw) : ACl k rListS (bListS nw) := by
  intro I F H L ds vs P Q A r h q
  unfold bListS at h
  split at h
  · rename_i z
    obtain ⟨v, rfl, r1⟩ := one_rp r
    cases r1
    exact ⟨z, rfl, h.1, newL_ok A (signs_rp _) (hn _ _ _ h.2) q⟩
  · exact h.elim
/-- list(..) of a text or of a sequence -/
def bListT (nw : NW) : AC := fun ds L P => match ds with
  | [.str z] => z.length ≤ sizeLine ∧ nw (signs z) L P
  | ds => bListN nw ds L P
theorem bListT_ok {k : Kx} {nw : NW} (hn : NwOk nw) : ACl k (fun xs H Q => rListS xs H Q ∨ (∃ p ys, xs = [.ref p] ∧ (SqL k.K H p ys ∨ SqT k.K H p ys) ∧ ∀ l, H l = none → Q (.ref l) (upd H l (.lst ys)))) (bListT nw) := by
  intro I F H L ds vs P Q A r h q
  unfold bListT at h
  split at h
  · exact .inl (bListS_ok hn A r h q)
  · exact .inr (bList_ok A r (bListN_imp hn _ _ _ h) q)
/-- sign in text -/
def oSin (neg : Bool) : AR2 := fun x y L P => match x, y with
  | .str a, .str z => ∃ c, a = ⟨#[c]⟩ ∧ P (.bl (neg ^^ decide (c ∈ z.cps.toList))) L
  | _, _ => False
theorem oSin_ok {k : Kx} : AOp k (fun x y H Q => ∃ (c : Nat) (z : Str), x = .str ⟨#[c]⟩ ∧ y = .str z ∧ Q (.bl (decide (c ∈ z.cps.toList))) H) (oSin false) := by
  intro I F H L x y xv yv P Q A rx ry h q
  unfold oSin at h
  split at h
  · cases rx; cases ry
    obtain ⟨c, rfl, h⟩ := h
    rw [Bool.false_xor] at h
    exact ⟨c, _, rfl, rfl, here A (.bl _) h q⟩
  · exact h.elim
theorem oSnin_ok {k : Kx} : AOp k (fun x y H Q => ∃ (c : Nat) (z : Str), x = .str ⟨#[c]⟩ ∧ y = .str z ∧ Q (.bl (!decide (c ∈ z.cps.toList))) H) (oSin true) := by
  intro I F H L x y xv yv P Q A rx ry h q
  unfold oSin at h
  split at h
  · cases rx; cases ry
    obtain ⟨c, rfl, h⟩ := h
    rw [Bool.true_xor] at h
    exact ⟨c, _, rfl, rfl, here A (.bl _) h q⟩
  · exact h.elim
/-- methods of a text, one argument -/
def isStrA (d : DV) (q : Str → Prop) : Prop := match d with
  | .str a => q a
  | _ => False
abbrev ASm := Str → DV → Led → PD → Prop
def aSm1 (ro : ASm) (to te : AE) : AE := fun ρ L P px => to ρ L (fun x L1 => isStrA x fun a => te ρ L1 (fun y L2 => ro a y L2 P) px) px
def SmOk (k : Kx) (r : V → List V → Hp → VK → Prop) (ro : ASm) : Prop := ∀ {I F H : Hp} {L : Led} {a : Str} {y : DV} {yv : V} {P : PD} {Q : VK}, Ab k I L F H → Rp k.K I y yv → ro a y L P → Q2 k I F P Q → r (.str a) [yv] H Q
theorem a_sm1 {X : Cx} {W : WX} {e : Expr} {r : V → List V → Hp → VK → Prop} {ro : ASm} {to te : AE} (hr : SmOk X.kx r ro) (h : PE X e (tM1 r (cE X.kx W to) (cE X.kx W te))) : PE X e (cE X.kx W (aSm1 ro to te)) :=
  h.imp fun σ H Q ⟨I, L, F, ρ, P, px, S, h, q⟩ => ⟨I, L, F, ρ, _, px, S, h, fun x L1 xv I1 H1 h1 A1 e1 r1 => by
    cases x <;> first | exact h1.elim | skip
    cases r1
    exact ⟨⟨_, rfl⟩, I1, L1, F, ρ, _, px, S.go A1 e1, h1, fun y L2 yv I2 H2 h2 A2 e2 r2 => hr A2 r2 h2 (q.mono (e1.trans e2))⟩⟩
def sJoin : ASm := fun a y L P => withSq L y fun ds => ∃ ys : List Str, ds = ys.map DV.str ∧ (ys.map (·.length)).sum + ys.length * a.length ≤ 16777216 ∧ P (.str (Txt.join a ys)) L
theorem sJoin_ok {k : Kx} : SmOk k (fun x xs H Q => ∃ a p, ∃ ys : List Str, x = .str a ∧ xs = [.ref p] ∧ (SqL k.K H p (ys.map V.str) ∨ SqT k.K H p (ys.map V.str)) ∧ (ys.map (·.length)).sum + ys.length * a.length ≤ 16777216 ∧ Q (.str (Txt.join a ys)) H) sJoin := by
  intro I F H L a y yv P Q A ry h q
  obtain ⟨p, vs, ds, rfl, hs, r, ys, rfl, hz, h⟩ := withSq_ok A ry h
  rw [r.strs] at hs
  exact ⟨a, p, ys, rfl, rfl, hs, hz, here A (.str _) h q⟩
def sSplit (nw : NW) : ASm := fun a y L P => match y with
  | .str b => (b.length == 0) = false ∧ a.length + 2 ≤ sizeLine ∧ nw ((Txt.split a b).map DV.str) L P
  | _ => False
theorem strs_rp {K : PySem.W.Frag} {I : Hp} : ∀ ys : List Str, Rps K I (ys.map DV.str) (ys.map V.str)
  | [] => .nil
  | c :: cs => .cons (.str _) (strs_rp cs)
theorem sSplit_ok {k : Kx} {nw : NW} (hn : NwOk nw) : SmOk k (fun x xs H Q => ∃ a b, x = .str a ∧ xs = [.str b] ∧ (b.length == 0) = false ∧ a.length + 2 ≤ sizeLine ∧ rNewStrs (Txt.split a b) H Q) (sSplit nw) := by
  intro I F H L a y yv P Q A ry h q
  cases y <;> first | exact h.elim | skip
  cases ry
  exact ⟨a, _, rfl, rfl, h.1, h.2.1, newL_ok A (strs_rp _) (hn _ _ _ h.2.2) q⟩
def sRempre : ASm := fun a y L P => match y with
  | .str b => a.length ≤ sizeLine ∧ P (.str (Txt.removeprefix a b)) L
  | _ => False
theorem sRempre_ok {k : Kx} : SmOk k (fun x xs H Q => ∃ a b, x = .str a ∧ xs = [.str b] ∧ a.length ≤ sizeLine ∧ Q (.str (Txt.removeprefix a b)) H) sRempre := by
  intro I F H L a y yv P Q A ry h q
  cases y <;> first | exact h.elim | skip
  cases ry
  exact ⟨a, _, rfl, rfl, h.1, here A (.str _) h.2 q⟩
/-- int(..) of a text too -/
def bIntT : AC := fun ds L P => match ds with
  | [.str a] => ∃ n, PySem.intText? a = some n ∧ a.length ≤ 640 ∧ P (.int n) L
  | ds => bInt ds L P
theorem bIntT_ok {k : Kx} : ACl k (fun xs H Q => (∃ a n, xs = [.str a] ∧ PySem.intText? a = some n ∧ a.length ≤ 640 ∧ Q (.int n) H) ∨ ((∃ i, xs = [.int i] ∧ Q (.int i) H) ∨ ∃ k, xs = [.bl k] ∧ Q (.int (if k then 1 else 0)) H)) bIntT := by
  intro I F H L ds vs P Q A r h q
  unfold bIntT at h
  split at h
  · obtain ⟨v, rfl, r1⟩ := one_rp r
    cases r1
    obtain ⟨n, h1, h2, h⟩ := h
    exact .inl ⟨_, n, rfl, h1, h2, here A (.int _) h q⟩
  · exact .inr (bInt_ok A r h q)
section
variable {X : Cx} {W : WX} {a b o e : Expr} {ta tb to te : AE} {t : AA} {p pos apos : Pos} {nw : NW}
theorem a_sin (ha : PE X a (cE X.kx W ta)) (hb : PE X b (cE X.kx W tb)) (hm : behindInMarks .In b = false := by rfl) : PE X (.Compare a [.In] [b] pos) (cE X.kx W (aBin (oSin false) ta tb)) := a_cmp op_in_sign oSin_ok ha hb hm
theorem t_sin (ha : PE X a (cE X.kx W ta)) (hb : PE X b (cE X.kx W tb)) (hm : behindInMarks .In b = false := by rfl) : PT X (.Compare a [.In] [b] pos) (cT X.kx W (aTest (aBin (oSin false) ta tb))) := t_cmp op_in_sign oSin_ok ha hb hm
theorem a_snin (ha : PE X a (cE X.kx W ta)) (hb : PE X b (cE X.kx W tb)) (hm : behindInMarks .NotIn b = false := by rfl) : PE X (.Compare a [.NotIn] [b] pos) (cE X.kx W (aBin (oSin true) ta tb)) := a_cmp op_notIn_sign oSnin_ok ha hb hm
theorem t_snin (ha : PE X a (cE X.kx W ta)) (hb : PE X b (cE X.kx W tb)) (hm : behindInMarks .NotIn b = false := by rfl) : PT X (.Compare a [.NotIn] [b] pos) (cT X.kx W (aTest (aBin (oSin true) ta tb))) := t_cmp op_notIn_sign oSnin_ok ha hb hm
theorem a_join (ho : PE X o (cE X.kx W to)) (he : PE X e (cE X.kx W te)) (hs : starEach [e] X.env = [(false, eval e X.env)] := by rfl) (hbase : attributeBase o "join" X.env (eval o X.env) = eval o X.env := by rfl) (hline : (apos.endLine == pos.line) = true := by rfl) : PE X (.Call (.Attribute o "join" apos) [e] [] pos) (cE X.kx W (aSm1 sJoin to te)) := a_sm1 sJoin_ok (pe_join ho he hs hbase hline)
theorem a_split (hn : NwOk nw) (ho : PE X o (cE X.kx W to)) (he : PE X e (cE X.kx W te)) (hs : starEach [e] X.env = [(false, eval e X.env)] := by rfl) (hbase : attributeBase o "split" X.env (eval o X.env) = eval o X.env := by rfl) (hline : (apos.endLine == pos.line) = true := by rfl) : PE X (.Call (.Attribute o "split" apos) [e] [] pos) (cE X.kx W (aSm1 (sSplit nw) to te)) := a_sm1 (sSplit_ok hn) (pe_split ho he hs hbase hline)
theorem a_listT (hc : X.calm = true) (hn : NwOk nw) (hg : Gl X "list") (hm : X.mg "list" = none) (ha : PA X [e] (cA X.kx W t)) (he : starEach [e] X.env = (false, eval e X.env) :: starEach [] X.env := by rfl) : PE X (.Call (.Name "list" p) [e] [] pos) (cE X.kx W (aCB (bListT nw) t)) := a_callTy ((cr_listS hc).or call_list_of) (bListT_ok hn) hg hm (by decide +kernel) ha (he := he)
end
section
variable {L : Led} {P : PD} {nw : NW}
theorem bListT_s {z : Str} : bListT nw [.str z] L P = (z.length ≤ sizeLine ∧ nw (signs z) L P) := (rfl)
theorem bListT_l {ds : List DV} : bListT nw [.lst ds] L P = nw ds L P := (rfl)
theorem bListT_t {ds : List DV} : bListT nw [.tup ds] L P = nw ds L P := (rfl)
theorem bListT_r {a : Addr} : bListT nw [.ref a] L P = withL L (.ref a) fun ds => nw ds L P := (rfl)
theorem bIntT_s {a : Str} : bIntT [.str a] L P = ∃ n, PySem.intText? a = some n ∧ a.length ≤ 640 ∧ P (.int n) L := (rfl)
theorem bIntT_i {i : Int} : bIntT [.int i] L P = P (.int i) L := (rfl)
theorem oSin_e {n : Bool} {c : Nat} {z : Str} : oSin n (.str ⟨#[c]⟩) (.str z) L P = P (.bl (n ^^ decide (c ∈ z.cps.toList))) L := by
  show (∃ c', (⟨#[c]⟩ : Str) = ⟨#[c']⟩ ∧ P (.bl (n ^^ decide (c' ∈ z.cps.toList))) L) = _
  refine propext ⟨fun ⟨c', e, h⟩ => ?_, fun h => ⟨c, rfl, h⟩⟩
  simp at e; subst e; exact h
theorem xSm1 {ro : ASm} {to te : AE} {ρ : Sl} {px : PX} : aSm1 ro to te ρ L P px = to ρ L (fun x L1 => isStrA x fun a => te ρ L1 (fun y L2 => ro a y L2 P) px) px := (rfl)
theorem isStrA_s {a : Str} {q : Str → Prop} : isStrA (.str a) q = q a := (rfl)
theorem sSplit_s {a b : Str} : sSplit nw a (.str b) L P = ((b.length == 0) = false ∧ a.length + 2 ≤ sizeLine ∧ nw ((Txt.split a b).map DV.str) L P) := (rfl)
theorem sRempre_s {a b : Str} : sRempre a (.str b) L P = (a.length ≤ sizeLine ∧ P (.str (Txt.removeprefix a b)) L) := (rfl)
def joinA (a : Str) (ds : List DV) (L : Led) (P : PD) (_ : Lk P) : Prop := ∃ ys : List Str, ds = ys.map DV.str ∧ (ys.map (·.length)).sum + ys.length * a.length ≤ 16777216 ∧ P (.str (Txt.join a ys)) L
theorem sJoin_l {a : Str} {ds : List DV} : sJoin a (.lst ds) L P = joinA a ds L P .mk := (rfl)
theorem sJoin_t {a : Str} {ds : List DV} : sJoin a (.tup ds) L P = joinA a ds L P .mk := (rfl)
theorem sJoin_r {a : Str} {b : Addr} : sJoin a (.ref b) L P = withSq L (.ref b) fun ds => joinA a ds L P .mk := (rfl)
end
theorem leLine' {n : Nat} (h : n ≤ 1000000) : n ≤ sizeLine := Nat.le_trans h (by rw [sizeLine_eq]; decide)
/-! ### a text by its signs -/
def tx (cs : List Nat) : Str := ⟨cs.toArray⟩
section
variable {cs ds : List Nat} {L : Led} {P : PD} {i : Int}
theorem tx_of (z : Str) : z = tx z.cps.toList := by cases z; simp [tx]
theorem tx_list : (tx cs).cps.toList = cs := by simp [tx]
theorem tx_length : (tx cs).length = cs.length := by simp [tx, Str.length]
theorem tx_app : tx cs ++ tx ds = tx (cs ++ ds) := by
  show Str.append (tx cs) (tx ds) = _
  simp [Str.append, tx]
theorem tx_one {c : Nat} : (⟨#[c]⟩ : Str) = tx [c] := rfl
theorem tx_inj : tx cs = tx ds ↔ cs = ds := ⟨fun h => by have := congrArg (fun z : Str => z.cps.toList) h; simpa [tx] using this, fun h => by rw [h]⟩
theorem signs_tx : signs (tx cs) = cs.map fun c => DV.str (tx [c]) := by unfold signs; rw [tx_list]; rfl
theorem cutS_tx {lo hi : Option Int} : cutS (tx cs) lo hi = tx (cut cs lo hi) := by
  unfold cutS cut tx
  simp [Str.length]
theorem glued_tx : ∀ (ps : List (List Nat)) (a : List Nat), (ps.map tx).foldl (fun acc p => acc ++ (tx []).cps ++ p.cps) a.toArray = (a ++ ps.flatten).toArray
  | [], a => by simp
  | p :: ps, a => by
    rw [List.map_cons, List.foldl_cons]
    have := glued_tx ps (a ++ p)
    rw [List.flatten_cons, ← List.append_assoc, ← this]
    congr 1
    simp [tx]
theorem join_tx (ps : List (List Nat)) : Txt.join (tx []) (ps.map tx) = tx ps.flatten := by
  show (⟨((ps.map tx).drop 1).foldl (fun acc p => acc ++ (tx []).cps ++ p.cps) ((ps.map tx).headD Str.empty).cps⟩ : Str) = _
  cases ps with
  | nil => rfl
  | cons p ps =>
    have := glued_tx ps p
    simp only [List.map_cons, List.drop_succ_cons, List.drop_zero, List.headD_cons, List.flatten_cons]
    show (⟨(ps.map tx).foldl (fun acc p => acc ++ (tx []).cps ++ p.cps) p.toArray⟩ : Str) = _
    rw [this]; rfl
theorem join_signs (cs : List Nat) : Txt.join (tx []) (cs.map fun c => tx [c]) = tx cs := by
  have := join_tx (cs.map fun c => [c])
  rw [List.map_map] at this
  rw [show ((cs.map fun c => tx [c])) = cs.map (tx ∘ fun c => [c]) from rfl, this]
  congr 1
  induction cs with
  | nil => rfl
  | cons c cs ih => rw [List.map_cons, List.flatten_cons, ih (by
      have := join_tx (cs.map fun c => [c])
      rwa [List.map_map] at this)]; rfl
theorem joinA_signs {lk : Lk P} (h : cs.length ≤ 1000000) : joinA (tx []) (cs.map fun c => DV.str (tx [c])) L P lk = P (.str (tx cs)) L := by
  refine propext ⟨fun ⟨ys, e, _, h⟩ => ?_, fun q => ⟨cs.map fun c => tx [c], by rw [List.map_map]; rfl, ?_, by rw [join_signs]; exact q⟩⟩
  · have : ys = cs.map fun c => tx [c] := by
      have := congrArg (List.map fun d => match d with | DV.str z => z | _ => tx []) e
      simpa [List.map_map, Function.comp_def] using this.symm
    rw [this, join_signs] at h; exact h
  · have e : ∀ cs : List Nat, ((cs.map fun c => tx [c]).map (·.length)).sum = cs.length := fun cs => by
      induction cs with
      | nil => rfl
      | cons c cs ih => rw [List.map_cons, List.map_cons, List.sum_cons, ih, tx_length]; simp; omega
    rw [e, tx_length]; simp; omega
def sxA (cs : List Nat) (i : Int) (L : Led) (P : PD) (_ : Lk P) : Prop := (tx cs).length ≤ sizeLine ∧ ∃ c, atI cs i = some c ∧ P (.str (tx [c])) L
theorem oIx_s : oIx (.str (tx cs)) (.int i) L P = sxA cs i L P .mk := by
  show ((tx cs).length ≤ sizeLine ∧ ∃ c, atI (tx cs).cps.toList i = some c ∧ P (.str ⟨#[c]⟩) L) = _
  rw [tx_list]; rfl
theorem sxA_of {lk : Lk P} {c : Nat} (hl : cs.length ≤ 1000000) (h : atI cs i = some c) : sxA cs i L P lk = P (.str (tx [c])) L := by
  refine propext ⟨fun ⟨_, c', e, q⟩ => ?_, fun q => ⟨by rw [tx_length]; exact leLine' hl, c, h, q⟩⟩
  rw [h] at e; cases e; exact q
theorem oSin_tx {n : Bool} {c : Nat} {z : List Nat} : oSin n (.str (tx [c])) (.str (tx z)) L P = P (.bl (n ^^ decide (c ∈ z))) L := by
  rw [show DV.str (tx [c]) = DV.str ⟨#[c]⟩ from rfl, oSin_e, tx_list]
end
/-! ### dicts of the module -/
/-- the written dict p holds the data d at the text key z -/
def KdV (k : Kx) (p : Addr) (z : Str) (d : DV) : Prop := ∃ v, KDct k.K k.w p z v ∧ ∀ I, Rp k.K I d v
def oKd (k : Kx) : AR2 := fun x y L P => match x, y with
  | .ref p, .str z => ∃ d, KdV k p z d ∧ P d L
  | _, _ => False
theorem oKd_ok {k : Kx} : AOp k (rIxD k.K k.w) (oKd k) := by
  intro I F H L x y xv yv P Q A rx ry h q
  cases x <;> first | exact h.elim | skip
  cases y <;> first | exact h.elim | skip
  cases rx; cases ry
  obtain ⟨d, ⟨v, kd, r⟩, h⟩ := h
  exact ⟨_, _, v, rfl, rfl, kd, here A (r I) h q⟩
theorem a_kd {X : Cx} {W : WX} {a b : Expr} {ta tb : AE} {pos : Pos} (ha : PE X a (cE X.kx W ta)) (hb : PE X b (cE X.kx W tb)) (hs : PlainIx b := by intro _ _; rfl) : PE X (.Subscript a b pos) (cE X.kx W (aBin (oKd X.kx) ta tb)) := a_ix ix_kdict oKd_ok ha hb hs
def kdA (k : Kx) (p : Addr) (z : Str) (L : Led) (P : PD) (_ : Lk P) : Prop := ∃ d, KdV k p z d ∧ P d L
theorem oKd_e {k : Kx} {p : Addr} {z : Str} {L : Led} {P : PD} : oKd k (.ref p) (.str z) L P = kdA k p z L P .mk := (rfl)
theorem kd_ok {k : Kx} {p : Addr} {z : Str} {L : Led} {P : PD} {lk : Lk P} {d : DV} (h : KdV k p z d) (q : P d L) : kdA k p z L P lk := ⟨d, h, q⟩
theorem a_intT {X : Cx} {W : WX} {e : Expr} {t : AA} {p pos : Pos} (hg : Gl X "int") (hm : X.mg "int" = none) (ha : PA X [e] (cA X.kx W t)) (he : starEach [e] X.env = (false, eval e X.env) :: starEach [] X.env := by rfl) : PE X (.Call (.Name "int" p) [e] [] pos) (cE X.kx W (aCB bIntT t)) := a_callTy (call_int_str.or call_int1) bIntT_ok hg hm (by decide +kernel) ha (he := he)
theorem flat_strs (ns : List Str) : (ns.map DV.str).all flatD = true := by rw [List.all_map]; exact List.all_eq_true.mpr fun _ _ => rfl
theorem inD_str (i : Str) : ∀ ns : List Str, inD (.str i) (ns.map DV.str) = decide (i ∈ ns)
  | [] => rfl
  | n :: ns => by
    have ih := inD_str i ns
    have e : inD (.str i) ((n :: ns).map DV.str) = (decide (n = i) || inD (.str i) (ns.map DV.str)) := rfl
    rw [e, ih]
    by_cases h : n = i
    · subst h; simp
    · simp [h, Ne.symm h]
theorem inA_st {neg : Bool} {i : Str} {ns : List Str} {L : Led} {P : PD} {lk : Lk P} {xs : List DV} (e : xs = ns.map DV.str) : inA neg (.str i) (.tup xs) L P lk = P (.bl (neg ^^ decide (i ∈ ns))) L := by
  subst e
  show (flatD (.str i) = true ∧ (ns.map DV.str).all flatD = true ∧ P (.bl (neg ^^ inD (.str i) (ns.map DV.str))) L) = _
  rw [flat_strs, inD_str]; simp [flatD]
/-! ### text * int -/
theorem op_mulS {X : Cx} : OpR X (binaryOp .Mult) (fun x y H Q => ∃ a k, x = .str a ∧ y = .int k ∧ MulOk a k ∧ Q (.str (Txt.mul a k)) H) := by
  intro pins s σ H x y v u Q I rx ry h
  obtain ⟨a, k, rfl, rfl, hk, q⟩ := h
  obtain ⟨t, rfl⟩ := rx
  obtain ⟨t', rfl⟩ := ry
  exact SB.mul hk fun t' k' => ⟨.str _, H, I.tok k', ⟨t', rfl⟩, q⟩
def oMulT (nw : NW) : AR2 := fun x y L P => match x, y with
  | .str a, .int k => MulOk a k ∧ P (.str (Txt.mul a k)) L
  | x, y => oMulA nw x y L P
theorem oMulT_ok {k : Kx} {nw : NW} (hn : NwOk nw) : AOp k (fun x y H Q => ((rI CMul (fun i j => .int (i * j)) x y H Q ∨ rRep x y H Q) ∨ rRepA k.K x y H Q) ∨ ∃ a k, x = .str a ∧ y = .int k ∧ MulOk a k ∧ Q (.str (Txt.mul a k)) H) (oMulT nw) := by
  intro I F H L x y xv yv P Q A rx ry h q
  unfold oMulT at h
  split at h
  · cases rx; cases ry
    exact .inr ⟨_, _, rfl, rfl, h.1, here A (.str _) h.2 q⟩
  · exact .inl (oMulA_ok hn A rx ry h q)
section
variable {X : Cx} {W : WX} {a b : Expr} {ta tb : AE} {pos : Pos} {nw : NW} (hn : NwOk nw)
include hn
theorem a_mulT (ha : PE X a (cE X.kx W ta)) (hb : PE X b (cE X.kx W tb)) : PE X (.BinOp a .Mult b pos) (cE X.kx W (aBin (oMulT nw) ta tb)) := a_bin ((opMulL.or op_repA).or op_mulS) (oMulT_ok hn) ha hb
end
section
variable {L : Led} {P : PD} {nw : NW}
theorem oMulT_ti {xs : List DV} {k : Int} : oMulT nw (.tup xs) (.int k) L P = (xs ≠ [] ∧ (-1000000 ≤ k ∧ k ≤ 1000) ∧ xs.length ≤ 1000 ∧ P (.tup (List.replicate k.toNat xs).flatten) L) := (rfl)
theorem oMulT_ii {i j : Int} : oMulT nw (.int i) (.int j) L P = (CMul i j ∧ P (.int (i * j)) L) := (rfl)
theorem oMulT_li {i : List DV} {j : Int} : oMulT nw (.lst i) (.int j) L P = (-(2 ^ 63) ≤ j ∧ j < 2 ^ 63 ∧ i.length * j.toNat ≤ sizeLine ∧ nw (List.replicate j.toNat i).flatten L P) := (rfl)
theorem oMulT_si {a : Str} {k : Int} : oMulT nw (.str a) (.int k) L P = (MulOk a k ∧ P (.str (Txt.mul a k)) L) := (rfl)
end
theorem mul_tx {cs : List Nat} {k : Nat} (h1 : k ≤ 1000) (h2 : cs.length ≤ 1000) : MulOk (tx cs) (k : Int) ∧ Txt.mul (tx cs) (k : Int) = tx (List.replicate k cs).flatten := by
  have gen : ∀ (n : Nat) (a : List Nat), (List.replicate n (tx cs).cps).foldl (· ++ ·) a.toArray = (a ++ (List.replicate n cs).flatten).toArray := by
    intro n
    induction n with
    | zero => intro a; simp
    | succ n ih =>
      intro a
      rw [List.replicate_succ, List.foldl_cons, List.replicate_succ, List.flatten_cons, ← List.append_assoc, ← ih]
      congr 1
      simp [tx]
  refine ⟨⟨?_, fun h3 h4 => ?_, fun h3 h4 => ?_⟩, ?_⟩
  · rw [decide_eq_false (by omega), decide_eq_false (by omega)]; rfl
  · rw [tx_length]
    have hk : (1 : Int) ≤ k := by omega
    have hk2 : (k : Int) ≤ 1000 := by omega
    have : (1000 : Int) ≤ (2 ^ 63 - 1) / (k : Int) := (Int.le_ediv_iff_mul_le (by omega)).mpr (by omega)
    omega
  · unfold Builtin.Str.tooLong
    rw [tx_length]
    rw [Int.toNat_natCast]
    have : cs.length * k ≤ 1000 * 1000 := Nat.mul_le_mul h2 h1
    exact decide_eq_false (by rw [sizeLine_eq]; omega)
  · unfold Txt.mul
    by_cases h0 : (k : Int) < 1
    · rw [if_pos h0]
      have : k = 0 := by omega
      subst this; rfl
    · rw [if_neg h0]
      by_cases h3 : ((k : Int) == 1 || (tx cs).length == 0) = true
      · rw [if_pos h3]
        rw [tx_length] at h3
        simp at h3
        rcases h3 with h3 | h3
        · have : k = 1 := by omega
          subst this; simp
        · subst h3; simp
      · rw [if_neg h3, Int.toNat_natCast]
        have := gen k []
        simp only [List.nil_append] at this
        show (⟨(List.replicate k (tx cs).cps).foldl (· ++ ·) (#[] : Array Nat)⟩ : Str) = _
        rw [show (#[] : Array Nat) = ([] : List Nat).toArray from rfl, this]; rfl
end AL
namespace AL
open PySem PySem.Spec PyProof.Rows L2

/-! ### nested data in a list -/
def oInD (neg : Bool) : AR2 := fun x y L P => ∃ d ds, PyOf L x d ∧ PyOf L y (.list ds) ∧ SeqAt.shaped d = true ∧ SeqAt.shaped (.list ds) = true ∧ P (.bl (neg ^^ ds.any fun z => PyData.eqv z d)) L
theorem oInD_ok {k : Kx} : AOp k (rInD k.K) (oInD false) := by
  intro I F H L x y xv yv P Q A rx ry h q
  obtain ⟨d, ds, h1, h2, s1, s2, h⟩ := h
  exact ⟨d, ds, h1.dp A rx, h2.dp A ry, s1, s2, here A (.bl _) (by rw [Bool.false_xor] at h; exact h) q⟩
theorem oNinD_ok {k : Kx} : AOp k (rNotInD k.K) (oInD true) := by
  intro I F H L x y xv yv P Q A rx ry h q
  obtain ⟨d, ds, h1, h2, s1, s2, h⟩ := h
  exact ⟨d, ds, h1.dp A rx, h2.dp A ry, s1, s2, here A (.bl _) (by rw [Bool.true_xor] at h; exact h) q⟩
section
variable {X : Cx} {W : WX} {a b : Expr} {ta tb : AE} {pos : Pos} {kk : Nat}
theorem units65 (hr : Room kk X.A) : X.A.units + 65 < cLine := by have := hr.un; omega
theorem a_Din (hr : Room kk X.A) (ha : PE X a (cE X.kx W ta)) (hb : PE X b (cE X.kx W tb)) (hm : behindInMarks .In b = false := by rfl) : PE X (.Compare a [.In] [b] pos) (cE X.kx W (aBin (oInD false) ta tb)) := a_cmp (op_inD (units65 hr)) oInD_ok ha hb hm
theorem t_Din (hr : Room kk X.A) (ha : PE X a (cE X.kx W ta)) (hb : PE X b (cE X.kx W tb)) (hm : behindInMarks .In b = false := by rfl) : PT X (.Compare a [.In] [b] pos) (cT X.kx W (aTest (aBin (oInD false) ta tb))) := t_cmp (op_inD (units65 hr)) oInD_ok ha hb hm
theorem a_Dnin (hr : Room kk X.A) (ha : PE X a (cE X.kx W ta)) (hb : PE X b (cE X.kx W tb)) (hm : behindInMarks .NotIn b = false := by rfl) : PE X (.Compare a [.NotIn] [b] pos) (cE X.kx W (aBin (oInD true) ta tb)) := a_cmp (op_notInD (units65 hr)) oNinD_ok ha hb hm
theorem t_Dnin (hr : Room kk X.A) (ha : PE X a (cE X.kx W ta)) (hb : PE X b (cE X.kx W tb)) (hm : behindInMarks .NotIn b = false := by rfl) : PT X (.Compare a [.NotIn] [b] pos) (cT X.kx W (aTest (aBin (oInD true) ta tb))) := t_cmp (op_notInD (units65 hr)) oNinD_ok ha hb hm
end
section
variable {neg : Bool} {x : DV} {xs : List DV} {L : Led} {P : PD}
def inDA (neg : Bool) (x y : DV) (L : Led) (P : PD) (_ : Lk P) : Prop := oInD neg x y L P
theorem oInD_e {y : DV} : oInD neg x y L P = inDA neg x y L P .mk := (rfl)
theorem toPys_map (xs : List DV) : toPys xs = xs.map toPy := by
  induction xs with
  | nil => rfl
  | cons x xs ih => rw [toPys, ih]; rfl
open Classical in
theorem any_dec {n : Nat} (hx : plS n x) : ∀ xs : List DV, (∀ y ∈ xs, plS n y) → ((toPys xs).any fun z => PyData.eqv z (toPy x)) = decide (x ∈ xs)
  | [], _ => by simp [toPys]
  | y :: ys, h => by
    rw [toPys, List.any_cons, any_dec hx ys fun z hz => h z (List.mem_cons_of_mem _ hz), eqv_dec n y x (h y (List.mem_cons_self ..)) hx]
    by_cases e : y = x
    · subst e; simp
    · simp [e, Ne.symm e]
open Classical in
/-- x in a list of data that hold no bools -/
theorem inDA_l {n : Nat} {lk : Lk P} (hx : plS n x) (hs : ∀ y ∈ xs, plS n y) (hn : n ≤ 60) (h : P (.bl (neg ^^ decide (x ∈ xs))) L) : inDA neg x (.lst xs) L P lk := by
  obtain ⟨a, b, c⟩ := pl_ok (L := L) n x (plS_pl _ _ hx)
  have hp : pl (n + 1) (.lst xs) := plS_pl (n + 1) (.lst xs) hs
  obtain ⟨a', b', c'⟩ := pl_ok (L := L) (n + 1) (.lst xs) hp
  refine ⟨toPy x, toPys xs, a, a', pl_shaped (plS_pl _ _ hx) (by omega), pl_shaped hp (by omega), ?_⟩
  rw [any_dec hx xs hs]; exact h
open Classical in
theorem inDA_r {n : Nat} {a : Addr} {lk : Lk P} (e : L a = some (.lst xs)) (hx : plS n x) (hs : ∀ y ∈ xs, plS n y) (hn : n ≤ 60) (h : P (.bl (neg ^^ decide (x ∈ xs))) L) : inDA neg x (.ref a) L P lk := by
  obtain ⟨d, ds, h1, h2, s1, s2, h⟩ : oInD neg x (.lst xs) L P := inDA_l (lk := .mk) hx hs hn h
  cases h2 with
  | lst h2 => exact ⟨d, ds, h1, .ref e h2, s1, s2, h⟩
end
end AL
/-! ### enumerate of a text -/
namespace PySem
open Sem (wp)
theorem endS {prog : Program} {w : World} {A : Around} {E : Value → Shared → Prop} {s : Shared} {e it : Addr} {z : Str} {t : Tok} {k i : Nat} {old : Value} {Q : Option Value → Shared → Prop} (hh : A.in1.handled = none)
    (he : IsEnum s.heap e it (k : Nat) old) (hit : s.heap.IsStrIter it (strIterType z) z t i) (hx : z.cps.size ≤ i)
    (hQ : ∀ h', Heap.ExtBut it s.heap h' → Q none { s with heap := h' }) : wpAny (model prog w) A (pyNext (.ref e)) Q E s := by
  have hT : s.TypeIs (.ref e) "enumerate" := ⟨_, he, rfl⟩
  unfold pyNext
  refine wpAny_bind (wpAny_attempt (wpAny_callSpecial?_slot (name := Str.ofString "__next__") hT F.slot_enumerate_next
    (wpAny_call_entry F.slot_enumerate_next hT F.entry_enumerate_next ?_ (F.args_enumerate_next_1 _))))
  show wpAny _ _ (field (.ref e) 2 >>= _) _ _ _
  refine wpAny_bind (wpAny_field he rfl (x := .ref it) rfl ?_)
  have hx' : z.cps[i]? = none := Array.getElem?_eq_none hx
  have go : ∀ {Q2 : Value → Shared → Prop} {E2 : Value → Shared → Prop}, (∀ h' e, Heap.ExtBut it s.heap h' → (∃ o, h'.get? e = some o ∧ o.cls = .type "StopIteration") → E2 (.ref e) { s with heap := h' }) → wpAny (model prog w) A.in1 (Builtin.SmallTypes.nextOf (.ref it)) Q2 E2 s := by
    intro Q2 E2 h
    cases ha : z.cps.all (· < 128)
    · have e : strIterType z = "str_iterator" := by simp only [strIterType, ha, Bool.false_eq_true, if_false]
      rw [e] at hit
      exact wpAny_nextOf_wide_end hh hit hx' h
    · have e : strIterType z = "str_ascii_iterator" := by simp only [strIterType, ha, if_true]
      rw [e] at hit
      exact wpAny_nextOf_ascii_end hh hit hx' h
  refine wpAny_bind (go fun h' x he' hx' => ?_)
  obtain ⟨o, ho, hc⟩ := hx'
  refine wpAny_bind (wpAny_isInstance (T := "StopIteration") (b := true) ⟨o, ho, hc⟩ isSubtype_stop ?_)
  exact wpAny_pure (hQ _ he')
end PySem
namespace AL
open PySem PySem.Spec PyProof.Rows L2
def Ites (z : Str) : It :=
  ⟨fun i _ => i < z.cps.size, fun i H v H' => ∃ T c, v = .ref T ∧ H T = none ∧ z.cps[i]? = some c ∧ H' = upd H T (.tup [.int (i : Nat), .str ⟨#[c]⟩]), fun i _ => z.cps.size ≤ i⟩
theorem turn_enumS {P : Program} {w : World} {K : PySem.W.Frag} {elts : List Expr} {kk : Nat} {tpos : Pos} (z : Str) (t : Tok) (e it : Addr) :
    Turn P w K (.Tuple elts kk tpos) (Ites z) [e, it] e (fun i h => (∃ old, IsEnum h e it ((i : Nat) : Int) old) ∧ h.IsStrIter it (strIterType z) z t i ∧ e ≠ it) where
  mem := by simp
  obj := fun i h st b hb => by
    obtain ⟨⟨old, he⟩, ⟨o, ho, hc, hd⟩, _⟩ := st
    have e' : b = e ∨ b = it := by simpa using hb
    rcases e' with z | z
    · rw [z]; exact ⟨_, he, fun v q => nomatch q⟩
    · rw [z]; exact ⟨o, ho, fun v q => by rw [hd] at q; cases q⟩
  keep := fun i h h' st k => let ⟨⟨old, he⟩, ⟨o, ho, r⟩, hne⟩ := st; ⟨⟨old, k e (by simp) _ he⟩, ⟨o, k it (by simp) o ho, r⟩, hne⟩
  item := by
    intro X hP hw hK hc i pins s σ H E I hf st hg
    subst hP hw hK
    obtain ⟨⟨old, he⟩, hit, hne⟩ := st
    have hlt : i < z.cps.size := hg
    have hel : e < s.heap.objs.size := Heap.lt_size he
    have hil : it < s.heap.objs.size := by obtain ⟨_, q, _⟩ := hit; exact Heap.lt_size q
    have hh : X.A.in1.handled = none := I.ok.hd hc
    refine wpAny_pyNext_enum_itemD (Draws.text hh it z t) he hit hlt hne (by simp; exact hne) fun x' h' tk hx' ho hst' hT hsz hk => ?_
    obtain ⟨c, u, hcx, rfl⟩ := hx'
    refine ⟨_, rfl, wpAny_letOwnedTupleGo_enum (s := { s with heap := h', toks := tk + 1 }) ho fun h'' he' sb => ?_⟩
    have hT2 : h''.get? s.heap.objs.size = some { cls := .type "tuple", data := .seq #[.int i tk, .str ⟨#[c]⟩ u] } := (sb.2 _ (Nat.ne_of_gt hel)).trans hT
    have new : ObjOk X.prog X.w (upd H s.heap.objs.size (.tup [.int (i : Nat), .str ⟨#[c]⟩])) h'' s.heap.objs.size (.tup [.int (i : Nat), .str ⟨#[c]⟩]) :=
      ⟨by show 2 ≤ sizeLine; decide, [.int i tk, .str ⟨#[c]⟩ u], .cons ⟨_, rfl⟩ (.cons ⟨_, rfl⟩ .nil), ⟨_, hT2, rfl, _, rfl⟩⟩
    have I1 : Inv X pins σ (upd H s.heap.objs.size (.tup [.int (i : Nat), .str ⟨#[c]⟩])) { s with heap := h'', toks := tk + 1 } :=
      I.turnedNew (ch := [e, it]) (fun b ob hb q => (sb.2 b (fun z => hb (by simp [z]))).trans (hk b ob (fun z => hb (by simp [z])) (fun z => hb (by simp [z])) q)) hf (Nat.le_refl _) new
    refine ⟨.ref s.heap.objs.size, _, I1, rfl, ⟨_, c, rfl, I.hok.fresh (Nat.le_refl _), hcx, rfl⟩, ⟨⟨.str ⟨#[c]⟩ u, ?_⟩, ?_, hne⟩, fun b hb => ?_⟩
    · have e1 : ((i + 1 : Nat) : Int) = (i : Int) + 1 := by omega
      rw [e1]; exact he'
    · obtain ⟨o, ho', r⟩ := hst'
      exact ⟨o, (sb.2 it (Ne.symm hne)).trans ho', r⟩
    · have hb' : b < s.heap.objs.size := by
        have e' : b = e ∨ b = it := by simpa using hb
        rcases e' with z | z
        · rw [z]; exact hel
        · rw [z]; exact hil
      rw [upd_ne (Nat.ne_of_lt hb')]
      exact (hf b hb).1
  done := by
    intro X hP hw hK hc i pins s σ H E I hf st hg
    subst hP hw hK
    obtain ⟨⟨old, he⟩, hit, hne⟩ := st
    have hx : z.cps.size ≤ i := hg
    obtain ⟨f0, f1, f2, f3, f4, f5⟩ := hf it (by simp)
    have hh : X.A.in1.handled = none := I.ok.hd hc
    exact endS hh he hit hx fun h' eb => ⟨rfl, I.turned (t' := s.toks) (fun b o hb q => eb b o hb q) f0 f1 f3 f4 f5⟩
  self := fun A i s Q E st h => let ⟨⟨_, he⟩, _⟩ := st; wpAny_pyIter_enum he h
/-- enumerate(e), e a text -/
theorem pi_enumS {X : Cx} {e : Expr} {ta : TA} {p pos tpos : Pos} {elts : List Expr} {kk : Nat} (hg : Gl X "enumerate") (hm : X.mg "enumerate" = none) (ha : PA X [e] ta) (hs : starEach [e] X.env = [(false, eval e X.env)] := by rfl) :
    PI X (.Tuple elts kk tpos) (.Call (.Name "enumerate" p) [e] [] pos) (fun σ H R => ta σ H fun vs H1 => ∃ z, vs = [.str z] ∧ R (Ites z) H1) := by
  refine ⟨fun pins s σ H R I h => ?_⟩
  refine Call_ (ld_blt I hg hm boot_enumerate (PyProof.Rows.callWith_type1 (thn (ha.run pos pins s σ H _ I h) fun us s1 ⟨vs, H1, I1, r1, q1⟩ => ?_) hs rfl))
  obtain ⟨z, ex, q⟩ := q1
  subst ex
  cases r1 with
  | cons r rr =>
    cases rr
    obtain ⟨t, rfl⟩ := r
    have fresh : ∀ b ∈ [s1.heap.objs.size + 1, s1.heap.objs.size], FpOk X pins H1 b := fun b hb => by
      have e' : b = s1.heap.objs.size + 1 ∨ b = s1.heap.objs.size := by simpa using hb
      have hle : s1.heap.objs.size ≤ b := by
        rcases e' with z | z
        · rw [z]; exact Nat.le_add_right _ _
        · rw [z]; exact Nat.le_refl _
      exact I1.fpOk hle (I1.hok.fresh hle)
    refine call_enumerate_str fun h' he hit hsz hk => wpAny_pyIter_enum he ?_
    have I2 : Inv X pins σ H1 { s1 with heap := h' } := I1.kept (t' := s1.toks) hk
    exact ⟨s1.heap.objs.size + 1, [s1.heap.objs.size + 1, s1.heap.objs.size], _, _, H1, rfl, I2, turn_enumS z t (s1.heap.objs.size + 1) s1.heap.objs.size, ⟨⟨.none, he⟩, hit, Nat.succ_ne_self _⟩, fresh, q⟩
theorem it_enumS {k : Kx} {I0 : Hp} {z : Str} : ItOk k (Ites z) I0 (enumD (signs z)) (fun _ => True) where
  stop i A e s hi := by
    show z.cps.size ≤ i
    simpa [enumD_length, signs] using hi
  go i d A e s hd := by
    obtain ⟨x, hx, _⟩ := enumD_get hd
    have := (List.getElem?_eq_some_iff.mp hx).1
    show i < z.cps.size
    simpa [signs] using this
  yld i d x H' A e s hd y := by
    obtain ⟨T, c, rfl, hT, hc, rfl⟩ := y
    obtain ⟨w, hw, rfl⟩ := enumD_get hd
    unfold signs at hw
    rw [List.getElem?_map, Array.getElem?_toList, hc] at hw
    cases hw
    exact pair_new A hT (.str _)
def iEnS (ta : AA) : AI := fun ρ L P px => ta ρ L (fun ds L1 => match ds with
  | [.str z] => P (enumD (signs z)) (fun _ => True) L1
  | _ => False) px
section
variable {X : Cx} {W : WX} {e : Expr} {ta : AA} {p pos tpos : Pos} {elts : List Expr} {kk : Nat}
theorem i_enS (hg : Gl X "enumerate") (hm : X.mg "enumerate" = none) (ha : PA X [e] (cA X.kx W ta)) (hs : starEach [e] X.env = [(false, eval e X.env)] := by rfl) : PI X (.Tuple elts kk tpos) (.Call (.Name "enumerate" p) [e] [] pos) (cI X.kx W (iEnS ta)) :=
  (pi_enumS hg hm ha hs).imp fun σ H R ⟨I, L, F, ρ, P, px, S, h, q⟩ => ⟨I, L, F, ρ, _, px, S, h, fun ds L1 vs I1 H1 h1 A1 e1 r1 => by
    split at h1
    · obtain ⟨v, rfl, r2⟩ := one_rp (k := X.kx) r1
      cases r2
      exact ⟨_, rfl, q _ _ _ _ _ _ h1 A1 e1 it_enumS⟩
    · exact h1.elim⟩
end
section
variable {ρ : Sl} {L : Led} {P : PD} {px : PX} {nx_ rt_ bk_ ct_ px_} {te2 : AE} {g : AG} {tt : AT} {vs : List Nat} {nw : NW} {tb : AS} {tr : AA}
def enuS (ds : List DV) (L : Led) (P : List DV → (Led → Prop) → Led → Prop) (_ : Lk P) : Prop := match ds with
  | [.str z] => P (enumD (signs z)) (fun _ => True) L
  | _ => False
theorem enuS_str {z : Str} {Pi : List DV → (Led → Prop) → Led → Prop} : enuS [.str z] L Pi .mk = Pi (enumD (signs z)) (fun _ => True) L := (rfl)
theorem xForES : aFor (iEnS tr) g tb ⟨nx_, rt_, bk_, ct_, px_⟩ ρ L = tr ρ L (fun ds L1 => enuS ds L1 (fun items stay => forL items stay g tb ⟨nx_, rt_, bk_, ct_, px_⟩ .mk ρ) .mk) px_ := (rfl)
theorem xLcES : aLcN nw (iEnS tr) g tt te2 vs ρ L P px = tr ρ L (fun ds L1 => enuS ds L1 (fun items stay L2 => lcL nw items stay g tt te2 vs ρ L2 P .mk) .mk) px := (rfl)
end
end AL
namespace AL
open PySem PySem.Spec PyProof.Rows L2
/-! ### dicts whose keys are tuples (nested) -/
section
variable {X : Cx} {pins : List (Addr × Obj)} {σ : L2.St} {H I : Hp} {s : Shared}
mutual
theorem nested_of (Iv : Inv X pins σ H s) (e : Ex I H) : ∀ (d : DV) {v : V} {u : Value} {k : NestedKey}, Rp X.K I d v → nk d = some k → RelV v u → NestedIs s.heap k u
  | .non, _, _, _, r, h, q => by
    cases r; cases h
    obtain rfl : _ = Value.none := q
    exact .none
  | .bl b, _, _, _, _, h, _ => by cases h
  | .int i, _, _, _, r, h, q => by
    cases r; cases h
    obtain ⟨t, rfl⟩ := q
    exact .int i t
  | .str x, _, _, _, r, h, q => by
    cases r; cases h
    obtain ⟨t, rfl⟩ := q
    exact .text x t
  | .ty _, _, _, _, _, h, _ => by cases h
  | .ref _, _, _, _, _, h, _ => by cases h
  | .lst _, _, _, _, _, h, _ => by cases h
  | .wl _, _, _, _, _, h, _ => by cases h
  | .ins _ _ _, _, _, _, _, h, _ => by cases h
  | .tup ds, _, _, k, r, h, q => by
    cases r with
    | tup hs rs =>
    cases ek : nks ds with
    | none => simp [nk, ek] at h
    | some ks =>
    simp [nk, ek] at h
    subst h
    obtain ⟨its, vl, ⟨o, h1, h2, n, h3⟩, _⟩ := Iv.tuple (e.t hs)
    obtain rfl : _ = Value.ref _ := q
    exact .tup h1 h2 h3 (by simpa using nested_all Iv e ds rs ek vl)
theorem nested_all (Iv : Inv X pins σ H s) (e : Ex I H) : ∀ (ds : List DV) {vs : List V} {us : List Value} {ks : List NestedKey}, Rps X.K I ds vs → nks ds = some ks → Vals vs us → NestedAll s.heap ks us
  | [], _, _, _, r, h, q => by
    cases r; cases q; cases h
    exact .nil
  | d :: ds, _, _, ks, r, h, q => by
    cases r with
    | cons r1 r2 =>
    cases q with
    | cons q1 q2 =>
    cases e1 : nk d with
    | none => simp [nks, e1] at h
    | some k1 =>
    cases e2 : nks ds with
    | none => simp [nks, e1, e2] at h
    | some k2 =>
    simp [nks, e1, e2] at h
    subst h
    exact .cons (nested_of Iv e d r1 e1 q1) (nested_all Iv e ds r2 e2 q2)
end
def valT {α : Type} (kvs : List (NestedKey × α)) (k : NestedKey) : Option α := (kvs.find? fun kv => decide (kv.1 = k)).map (·.2)
def putT {α : Type} (kvs : List (NestedKey × α)) (k : NestedKey) (v : α) : List (NestedKey × α) :=
  if (valT kvs k).isSome = true then kvs.map (fun kv => if kv.1 = k then (kv.1, v) else kv) else kvs ++ [(k, v)]
theorem ents_len {K : PySem.W.Frag} : ∀ {kvs xs}, EntsOk K I kvs xs → kvs.length = xs.length
  | _, _, .nil => rfl
  | _, _, .cons _ r => by rw [List.length_cons, List.length_cons, ents_len r]
theorem ents_val {K : PySem.W.Frag} {k : NestedKey} : ∀ {kvs : List (NestedKey × DV)} {xs : List (NestedKey × Addr × Value)}, EntsOk K I kvs xs → (valT kvs k = none ∧ atKey xs k = none) ∨ ∃ d p v, valT kvs k = some d ∧ atKey xs k = some p ∧ RelV v p.2 ∧ Rp K I d v
  | [], [], _ => .inl ⟨rfl, rfl⟩
  | (k1, d) :: kvs, (k2, b, w) :: xs, .cons h r => by
    obtain rfl : k1 = k2 := h.key
    by_cases z : k1 = k
    · obtain ⟨v, q1, q2⟩ := h.val
      exact .inr ⟨d, (b, w), v, by simp [valT, List.find?_cons, z], by simp [atKey, List.find?_cons, z], q1, q2⟩
    · have e1 : valT ((k1, d) :: kvs) k = valT kvs k := by simp [valT, List.find?_cons, z]
      have e2 : atKey ((k1, b, w) :: xs) k = atKey xs k := by simp [atKey, List.find?_cons, z]
      rw [e1, e2]
      exact ents_val r
theorem ents_isSome {K : PySem.W.Frag} {k : NestedKey} {kvs : List (NestedKey × DV)} {xs : List (NestedKey × Addr × Value)} (r : EntsOk K I kvs xs) : (atKey xs k).isSome = (valT kvs k).isSome := by
  rcases ents_val (k := k) r with ⟨a, b⟩ | ⟨d, p, v, a, b, _⟩ <;> rw [a, b] <;> rfl
theorem ents_map {K : PySem.W.Frag} {k : NestedKey} {d : DV} {v : V} {u : Value} (q1 : RelV v u) (q2 : Rp K I d v) : ∀ {kvs : List (NestedKey × DV)} {xs : List (NestedKey × Addr × Value)}, EntsOk K I kvs xs →
    EntsOk K I (kvs.map fun kv => if kv.1 = k then (kv.1, d) else kv) (xs.map (putAt k u))
  | [], [], _ => .nil
  | (k1, d1) :: kvs, (k2, b, w) :: xs, .cons h r => by
    obtain rfl : k1 = k2 := h.key
    rw [List.map_cons, List.map_cons]
    refine .cons ?_ (ents_map q1 q2 r)
    by_cases z : k1 = k
    · simp only [putAt, if_pos z]
      exact ⟨rfl, h.tup, h.deep, v, q1, q2⟩
    · simp only [putAt, if_neg z]
      exact h
theorem ents_app {K : PySem.W.Frag} : ∀ {kvs ys : List (NestedKey × DV)} {xs zs : List (NestedKey × Addr × Value)}, EntsOk K I kvs xs → EntsOk K I ys zs → EntsOk K I (kvs ++ ys) (xs ++ zs)
  | [], _, [], _, _, s => s
  | _ :: _, _, _ :: _, _, .cons h r, s => .cons h (ents_app r s)
theorem ents_put {K : PySem.W.Frag} {k : NestedKey} {d : DV} {v : V} {u : Value} {b : Addr} {ds : List DV} (hb : Rp K I (.tup ds) (.ref b)) (hk : nk (.tup ds) = some k) (hd : k.depth ≤ 8) (q1 : RelV v u) (q2 : Rp K I d v) {kvs : List (NestedKey × DV)} {xs : List (NestedKey × Addr × Value)} (r : EntsOk K I kvs xs) : EntsOk K I (putT kvs k d) (storedH xs k b u) := by
  unfold putT storedH
  rw [ents_isSome r]
  split
  · exact ents_map q1 q2 r
  · exact ents_app r (.cons ⟨rfl, ⟨ds, hb, hk⟩, hd, v, q1, q2⟩ .nil)
theorem putT_len {α : Type} {kvs : List (NestedKey × α)} {k : NestedKey} {v : α} : (putT kvs k v).length ≤ kvs.length + 1 := by
  unfold putT; split <;> simp
/-- the dict of the ledger, met -/
theorem led_dT {L : Led} {F : Hp} {a : Addr} {kvs : List (NestedKey × DV)} (A : Ab X.kx I L F H) (Iv : Inv X pins σ H s) (hl : L a = some (.dT kvs)) :
    ∃ xs, EntsOk X.K I kvs xs ∧ (a == sysModules) = false ∧ xs.length ≤ sizeLine ∧ s.heap.DictOfH (nestedKind X.prog X.w) a xs ∧ Mut (H a) := by
  obtain ⟨_, _, o, eo, ro⟩ := A.led _ _ hl
  cases ro with
  | dT nd na few r =>
  rename_i xs
  obtain ⟨⟨ob, es, ep, h1, h2, h3, h4⟩, _, _⟩ := (show ObjOk X.prog X.w H s.heap a (.ext (RawD X.prog X.w a xs)) from Iv.hok a _ eo)
  refine ⟨xs, r, na, few, ⟨ob, es, ep, h1, h2, h3, h4, fun x hx => ?_, nd⟩, by rw [eo]; exact True.intro⟩
  have key : ∀ {kvs : List (NestedKey × DV)} {xs : List (NestedKey × Addr × Value)}, EntsOk X.K I kvs xs → ∀ x ∈ xs, (∃ ds, Rp X.K I (.tup ds) (.ref x.2.1) ∧ nk (.tup ds) = some x.1) ∧ x.1.depth ≤ 8 := by
    intro kvs xs r
    induction r with
    | nil => intro x hx; cases hx
    | cons h _ ih =>
      intro x hx
      rcases List.mem_cons.mp hx with rfl | hx
      · exact ⟨h.tup, h.deep⟩
      · exact ih x hx
  obtain ⟨⟨ds, q1, q2⟩, q3⟩ := key r x hx
  exact ⟨nested_of Iv A.imm _ q1 q2 rfl, q3⟩
theorem raw_ext {P : Program} {w : World} {H : Hp} {h : Heap} {a : Addr} {xs : List (NestedKey × Addr × Value)} (m : h.DictOfH (nestedKind P w) a xs) : ObjOk P w H h a (.ext (RawD P w a xs)) := by
  obtain ⟨o, es, ep, h1, h2, h3, h4, _, _⟩ := m
  exact ⟨⟨o, es, ep, h1, h2, h3, h4⟩, ⟨o, h1⟩, fun g1 g2 ⟨o, es, ep, h1, h2, h3, h4⟩ hk => ⟨o, es, ep, hk o h1, h2, h3, h4⟩⟩
end
/-- d is a tuple, the key k -/
def TK (d : DV) (k : NestedKey) : Prop := (∃ ds, d = .tup ds) ∧ nk d = some k ∧ k.depth ≤ 8
def rTin (k : Kx) (neg : Bool) : R2 := fun x y H Q => ∃ I L F kvs d key a, Ab k I L F H ∧ L a = some (.dT kvs) ∧ Rp k.K I d x ∧ TK d key ∧ y = .ref a ∧ Q (.bl (neg ^^ (valT kvs key).isSome)) H
def rTget (k : Kx) : R2 := fun x y H Q => ∃ I L F kvs d key a e, Ab k I L F H ∧ L a = some (.dT kvs) ∧ Rp k.K I d y ∧ TK d key ∧ x = .ref a ∧ valT kvs key = some e ∧ ∀ v, Rp k.K I e v → Q v H
def oTin (neg : Bool) : AR2 := fun x y L P => match y with
  | .ref a => ∃ kvs k, L a = some (.dT kvs) ∧ TK x k ∧ P (.bl (neg ^^ (valT kvs k).isSome)) L
  | _ => False
def oTget : AR2 := fun x y L P => match x with
  | .ref a => ∃ kvs k d, L a = some (.dT kvs) ∧ TK y k ∧ valT kvs k = some d ∧ P d L
  | _ => False
def aTput (to ti tv : AE) : AS := fun AD ρ L => tv ρ L (fun d L1 => to ρ L1 (fun x L2 => ti ρ L2 (fun y L3 => match x with
  | .ref a => ∃ kvs k, L3 a = some (.dT kvs) ∧ TK y k ∧ kvs.length < sizeLine ∧ AD.nx ρ (updL L3 a (.dT (putT kvs k d)))
  | _ => False) AD.px) AD.px) AD.px
def aDict0T : AE := fun _ L P _ => ∀ a, L a = none → P (.ref a) (updL L a (.dT []))
section
variable {X : Cx} {W : WX} {e o i value : Expr} {te to ti tv : AE} {pos pos' : Pos} {kk : Nat}
theorem tk_ref {K : PySem.W.Frag} {I : Hp} {d : DV} {v : V} {k : NestedKey} (t : TK d k) (r : Rp K I d v) : ∃ b ds, v = .ref b ∧ d = .tup ds := by
  obtain ⟨⟨ds, rfl⟩, _⟩ := t
  cases r
  exact ⟨_, _, rfl, rfl⟩
theorem roomN (hr : Room kk X.A) : (nestedKind X.prog X.w).room X.A.in1 := by
  have := hr.un
  show X.A.units + 1 + 8 < cLine
  omega
theorem op_tin (hr : Room kk X.A) : OpR X (compareOp .In) (rTin X.kx false) := by
  intro pins s σ H x y v u Q Iv rx ry ⟨I, L, F, kvs, d, key, a, A, hl, r, t, ey, q⟩
  subst ey
  obtain rfl : u = Value.ref a := ry
  obtain ⟨xs, en, na, few, dd, mu⟩ := led_dT A Iv hl
  obtain ⟨b, ds, rfl, rfl⟩ := tk_ref t r
  obtain rfl : v = Value.ref b := rx
  refine PySem.wpAny_in_heap (roomN hr) (k := key) ⟨nested_of Iv A.imm _ r t.2.1 rfl, t.2.2⟩ na dd ?_
  rw [ents_isSome en]
  rw [Bool.false_xor] at q
  exact ⟨.bl (valT kvs key).isSome, H, Iv.tok _, rfl, q⟩
theorem op_tnin (hr : Room kk X.A) : OpR X (compareOp .NotIn) (rTin X.kx true) := by
  intro pins s σ H x y v u Q Iv rx ry ⟨I, L, F, kvs, d, key, a, A, hl, r, t, ey, q⟩
  subst ey
  obtain rfl : u = Value.ref a := ry
  obtain ⟨xs, en, na, few, dd, mu⟩ := led_dT A Iv hl
  obtain ⟨b, ds, rfl, rfl⟩ := tk_ref t r
  obtain rfl : v = Value.ref b := rx
  refine wpAny_notIn_heap (roomN hr) (k := key) ⟨nested_of Iv A.imm _ r t.2.1 rfl, t.2.2⟩ na dd ?_
  rw [ents_isSome en]
  rw [Bool.true_xor] at q
  exact ⟨.bl (!(valT kvs key).isSome), H, Iv.tok _, rfl, q⟩
theorem oTin_ok {k : Kx} {neg : Bool} : AOp k (rTin k neg) (oTin neg) := by
  intro I F H L x y xv yv P Q A rx ry h q
  unfold oTin at h
  split at h
  · cases ry
    obtain ⟨kvs, key, hl, t, h⟩ := h
    exact ⟨I, L, F, kvs, x, key, _, A, hl, rx, t, rfl, here A (.bl _) h q⟩
  · exact h.elim
theorem a_tin (hr : Room kk X.A) (ha : PE X i (cE X.kx W ti)) (hb : PE X o (cE X.kx W to)) (hm : behindInMarks .In o = false := by rfl) : PE X (.Compare i [.In] [o] pos) (cE X.kx W (aBin (oTin false) ti to)) := a_cmp (op_tin hr) oTin_ok ha hb hm
theorem t_tin (hr : Room kk X.A) (ha : PE X i (cE X.kx W ti)) (hb : PE X o (cE X.kx W to)) (hm : behindInMarks .In o = false := by rfl) : PT X (.Compare i [.In] [o] pos) (cT X.kx W (aTest (aBin (oTin false) ti to))) := t_cmp (op_tin hr) oTin_ok ha hb hm
theorem a_tnin (hr : Room kk X.A) (ha : PE X i (cE X.kx W ti)) (hb : PE X o (cE X.kx W to)) (hm : behindInMarks .NotIn o = false := by rfl) : PE X (.Compare i [.NotIn] [o] pos) (cE X.kx W (aBin (oTin true) ti to)) := a_cmp (op_tnin hr) oTin_ok ha hb hm
theorem t_tnin (hr : Room kk X.A) (ha : PE X i (cE X.kx W ti)) (hb : PE X o (cE X.kx W to)) (hm : behindInMarks .NotIn o = false := by rfl) : PT X (.Compare i [.NotIn] [o] pos) (cT X.kx W (aTest (aBin (oTin true) ti to))) := t_cmp (op_tnin hr) oTin_ok ha hb hm
def tTget (k : Kx) (td ty : TE) : TE := fun σ H Q => td σ H fun x H1 => ty σ H1 fun y H2 => rTget k x y H2 Q
theorem pe_tget (hr : Room kk X.A) {td ty : TE} (ho : PE X o td) (hi : PE X i ty) (hs : NoSl i) : PE X (.Subscript o i pos) (tTget X.kx td ty) := by
  refine ⟨fun pins s σ H Q I h => ?_⟩
  refine subD_of PySem.F.slot_dict_getitem.lookup hs (thn (ho.run pins s σ H _ I h) fun u s1 ⟨x, H1, I1, rx, q1⟩ => thn (hi.run pins s1 σ H1 _ I1 q1) fun iv s2 ⟨y, H2, Iv, ry, q⟩ => ?_)
  obtain ⟨J, L, F, kvs, d, key, a, e, A, hl, r, t, ex, hv, q⟩ := q
  subst ex
  obtain rfl : u = Value.ref a := rx
  obtain ⟨xs, en, na, few, dd, mu⟩ := led_dT A Iv hl
  obtain ⟨b, ds, rfl, rfl⟩ := tk_ref t r
  obtain rfl : iv = Value.ref b := ry
  rcases ents_val (k := key) en with ⟨z, _⟩ | ⟨d', p, v, z, hp, rv, rd⟩
  · rw [hv] at z; cases z
  · rw [hv] at z; cases z
    exact ⟨dd.typeIs, wpAny_getItem_heap (roomN hr) (k := key) ⟨nested_of Iv A.imm _ r t.2.1 rfl, t.2.2⟩ dd hp ⟨v, H2, Iv.tok _, rv, q v rd⟩⟩
theorem a_tget (hr : Room kk X.A) (ho : PE X o (cE X.kx W to)) (hi : PE X i (cE X.kx W ti)) (hs : NoSl i := by intro _ _; rfl) : PE X (.Subscript o i pos) (cE X.kx W (aBin oTget to ti)) :=
  (pe_tget hr ho hi hs).imp fun σ H Q ⟨I, L, F, ρ, P, px, S, h, q⟩ => ⟨I, L, F, ρ, _, px, S, h, fun x L1 xv I1 H1 h1 A1 e1 r1 => ⟨I1, L1, F, ρ, _, px, S.go A1 e1, h1, fun y L2 yv I2 H2 h2 A2 e2 r2 => by
    unfold oTget at h2
    split at h2
    · cases r1
      obtain ⟨kvs, k, d, hl, hk, hd, h2⟩ := h2
      exact ⟨I2, L2, F, kvs, y, k, _, d, A2, hl, r2, hk, rfl, hd, fun v rv => here A2 rv h2 (q.mono (e1.trans e2))⟩
    · exact h2.elim⟩⟩
def sTput (k : Kx) (td ty tv : TE) : TS := fun D σ H => tv σ H fun v H1 => td σ H1 fun x H2 => ty σ H2 fun y H3 => ∃ I L F kvs d key a e, Ab k I L F H3 ∧ L a = some (.dT kvs) ∧ Rp k.K I d y ∧ TK d key ∧ x = .ref a ∧ Rp k.K I e v ∧ kvs.length < sizeLine ∧ ∀ H4, Ab k I (updL L a (.dT (putT kvs key e))) F H4 → D.nx σ H4
theorem ps_tput (hr : Room kk X.A) {td ty tv : TE} (ho : PE X o td) (hi : PE X i ty) (hv : PE X value tv) (hs : swapsWith value (some (.Subscript o i pos')) pos.line X.env = pure false) :
    PS X (.Assign [.Subscript o i pos'] value pos) (sTput X.kx td ty tv) := by
  refine ⟨fun pins s σ H D I h => ?_⟩
  refine wpAny_Assign_Subscript (thn (hv.run pins s σ H _ I h) fun r s1 ⟨v, H1, I1, rv, q1⟩ => thn (ho.run pins s1 σ H1 _ I1 q1) fun u s2 ⟨x, H2, I2, rx, q2⟩ => thn (hi.run pins s2 σ H2 _ I2 q2) fun iv s3 ⟨y, H3, Iv, ry, q3⟩ => ?_) hs
  obtain ⟨J, L, F, kvs, d, key, a, e, A, hl, rd, t, ex, re, hz, q⟩ := q3
  subst ex
  obtain rfl : u = Value.ref a := rx
  obtain ⟨xs, en, na, few, dd, mu⟩ := led_dT A Iv hl
  obtain ⟨b, ds, rfl, rfl⟩ := tk_ref t rd
  obtain rfl : iv = Value.ref b := ry
  have el := ents_len en
  refine wpAny_setItem_heap (hsz := by omega) (roomN hr) (k := key) ⟨nested_of Iv A.imm _ rd t.2.1 rfl, t.2.2⟩ dd fun h' dd' hs => ?_
  have en' := ents_put rd t.2.1 t.2.2 rv re en
  have hw : ObjOk X.prog X.w (upd H3 a (.ext (RawD X.prog X.w a (storedH xs key b r)))) h' a (.ext (RawD X.prog X.w a (storedH xs key b r))) := raw_ext dd'
  obtain ⟨ob, es, ep, g1, _, _, _, _, nd⟩ := id dd'
  refine ⟨σ, _, d_write Iv mu hs ⟨ob, g1⟩ hw, q _ (A.write hl (.dT nd na ?_ en'))⟩
  have := putT_len (kvs := kvs) (k := key) (v := e)
  have := ents_len en'
  omega
theorem s_tput (hr : Room kk X.A) (ho : PE X o (cE X.kx W to)) (hi : PE X i (cE X.kx W ti)) (hv : PE X value (cE X.kx W tv)) (hs : swapsWith value (some (.Subscript o i pos')) pos.line X.env = pure false := by rfl) : PS X (.Assign [.Subscript o i pos'] value pos) (cS X.kx W (aTput to ti tv)) :=
  (ps_tput hr ho hi hv hs).imp fun D σ H ⟨I, L, F, ρ, AD, S, h, q⟩ => ⟨I, L, F, ρ, _, AD.px, S, h, fun d L1 v I1 H1 h1 A1 e1 r1 => ⟨I1, L1, F, ρ, _, AD.px, S.go A1 e1, h1, fun x L2 xv I2 H2 h2 A2 e2 r2 => ⟨I2, L2, F, ρ, _, AD.px, S.go A2 (e1.trans e2), h2, fun y L3 yv I3 H3 h3 A3 e3 r3 => by
    split at h3
    · cases r2
      obtain ⟨kvs, k, hl, hk, hz, h3⟩ := h3
      exact ⟨I3, L3, F, kvs, y, k, _, d, A3, hl, r3, hk, rfl, r1.mono (e2.trans e3), hz, fun H4 A4 => q.nx _ _ _ _ _ h3 A4 ((e1.trans e2).trans e3) (S.rs.mono ((e1.trans e2).trans e3))⟩
    · exact h3.elim⟩⟩⟩
theorem pe_dnewX {k : Kx} (hk : k = X.kx) : PE X (.Dict [] [] pos) (fun _ H Q => ∀ p, H p = none → (p == sysModules) = false → Q (.ref p) (upd H p (.ext (RawD k.P k.w p [])))) := by
  subst hk
  exact ⟨fun pins s σ H Q I h =>
    wpAny_Dict_empty ⟨.ref s.heap.objs.size, _, I.laid (a := s.heap.objs.size) (o := .ext (RawD X.prog X.w s.heap.objs.size [])) (t' := s.toks) (fun _ _ q => Heap.get?_push_of_some _ q) (Nat.le_refl _) (raw_ext (Heap.DictOfH.new (knd := nestedKind X.prog X.w) s.heap)), rfl,
      h _ (I.hok.fresh (Nat.le_refl _)) (beq_eq_false_iff_ne.mpr (Ne.symm (Nat.ne_of_lt I.big)))⟩⟩
theorem a_dict0T : PE X (.Dict [] [] pos) (cE X.kx W aDict0T) := (pe_dnewX rfl).imp fun σ H Q ⟨I, L, F, ρ, P, px, S, h, q⟩ p hp na =>
  q _ _ _ _ _ (h p (S.ab.freeL hp)) (S.ab.newL hp (.dT (List.nodup_nil) na (Nat.zero_le _) .nil)) (Ex.refl I) (.ref p)
end
end AL
/-! ### set(list of ints) -/
namespace AL
open PySem PySem.Spec PyProof.Rows L2
section
variable {P : Program} {w : World} {A : Around} {E : Value → Shared → Prop} {s : Shared}
abbrev bareSet (w : World) : Obj := { cls := .type "set", dict := none, data := .set #[] 0 (.fresh 0 0 (!w.params.followText "set-order")) }
set_option maxRecDepth 100000 in
set_option maxHeartbeats 3200000 in
theorem set_of_ints {l : Addr} {xs : Array Value} (ns : List Int) {Q : Value → Shared → Prop} (h0 : A.handled = none) (pl : s.heap.IsList l xs) (allI : IntsAre xs.toList ns) (small : ns.length + 1 < scanBound)
    (fin : ∀ (g : Heap) (tk c : Nat), SetR w g s.heap.objs.size (fun j => decide (j ∈ ns)) c → c ≤ ns.length → (∀ b o, s.heap.get? b = some o → g.get? b = some o) → Q (.ref s.heap.objs.size) { s with heap := g, toks := tk }) :
    wpAny (model P w) A (call (.type "set") [.ref l]) Q E s := by
  have size : xs.size = ns.length := by have := IntsAre.length allI; rwa [Array.length_toList] at this
  obtain ⟨c, tl, hmro⟩ := F.called_set.mro
  have a1 := F.called_set.made; have a2 := F.called_set.sub
  refine wpAny_call (codeAny_of_tree ?_); show wpAny _ _ (callAny (.type "set") _) _ _ _
  refine wpAny_pure ⟨Code.quiet_builtin _ (by decide +kernel), codeAny_builtin F.entry_type_call ?_⟩; rw [Around.under_plain (weight_type_call_type "set" [.ref l] []) rfl]
  have a3 := F.called_set.notType; have a4 := F.called_set.canCreate; have a5 := F.typeCall_set_1 (.ref l)
  repeat (any_goals (first | assumption | wp_step))
  refine codeAny_mono (code_set_led1 (.ref l) (E := E) (Q₁ := fun ob t => ob = .ref s.heap.objs.size ∧ t = { s with heap := s.heap.push (bareSet w) }) ⟨rfl, rfl⟩) fun r t hr => ?_
  cases r with
  | error e => exact hr
  | ok fl =>
    cases fl with
    | ret ob =>
      obtain ⟨rfl, rfl⟩ := hr
      have hS : (s.heap.push (bareSet w)).get? s.heap.objs.size = some (bareSet w) := Heap.get?_push_size _ rfl
      have hT : Shared.TypeIs { s with heap := s.heap.push (bareSet w) } (.ref s.heap.objs.size) "set" := ⟨_, hS, rfl⟩
      have b1 := F.called_set.init.lookup; have b2 := F.called_set.init.bind (.ref s.heap.objs.size)
      repeat (any_goals (first | assumption | wp_step))
      refine codeAny_mono (codeAny_call_builtin (R := wants (fun r t => r = .none ∧ ∃ g tk c, t = { s with heap := g, toks := tk } ∧ SetR w g s.heap.objs.size (fun j => decide (j ∈ ns)) c ∧ c ≤ ns.length ∧ (∀ b o, s.heap.get? b = some o → g.get? b = some o)) E)
        F.called_set.init.plain F.entry_set_init (check_set_init_1 hT ?_)) fun r2 t2 hr2 => ?_
      · obtain ⟨ol, hol, hcl, nl, hdl⟩ := id pl
        obtain ⟨ocls, odict, odata, oslots⟩ := ol
        simp only at hcl hdl
        subst hcl; subst hdl
        have hol' : (s.heap.push (bareSet w)).get? l = some { cls := .type "list", dict := odict, data := .seq xs nl, slots := oslots } := Heap.get?_push_of_some _ hol
        have c1 := F.sub_list_set; have c2 := F.sub_list_frozenset
        have c3 : (Value.type "list" == Value.type "dict") = false := by decide
        have pl1 : (s.heap.push (bareSet w)).IsList l xs := ⟨_, hol', rfl, nl, rfl⟩
        unfold Builtin.«set.__init__» noKeywords Builtin.Frozenset.updateFrom
        generalize eqI : pyIter = PI
        wp_walk
        subst eqI
        refine wpAny_pyIter_list pl1 ?_
        refine wpAny_bind (wpAny_runValue ?_)
        have below : l < s.heap.objs.size := Heap.lt_size hol
        have h3 : A.in1.in1.in1.handled = none := by simp [h0]
        have neI : l ≠ (s.heap.push (bareSet w)).objs.size := by rw [Heap.size_push]; exact Nat.ne_of_lt (Nat.lt_succ_of_lt below)
        have apart : s.heap.objs.size ∉ [(s.heap.push (bareSet w)).objs.size, l] := by
          rw [Heap.size_push]; simp only [List.mem_cons, List.mem_singleton, List.not_mem_nil, or_false, not_or]; exact ⟨Nat.ne_of_lt (Nat.lt_succ_self _), Nat.ne_of_gt below⟩
        have vals : ∀ (i : Nat) (v : Value), xs[i]? = some v → ∃ k t, ns[i]? = some k ∧ v = .int k t := fun i v hv => by
          have hi : i < ns.length := by rw [← size]; exact (Array.getElem?_eq_some_iff.mp hv).1
          obtain ⟨t, e⟩ := PyProof.Rows.IntsAre.int_at allI i v (by rw [Array.getElem?_toList]; exact hv)
          refine ⟨ns[i], t, List.getElem?_eq_getElem hi, ?_⟩; rw [e, List.getD_eq_getElem?_getD, List.getElem?_eq_getElem hi] <;> rfl
        refine set_update_ints ((Walks.list h3 _ l neI xs).toS) s.heap.objs.size apart ns size small vals (xs.size - 0) 0 _ (by omega) (Nat.zero_le _) ⟨⟨_, Heap.get?_push_size _ rfl, rfl, rfl⟩, (pl1.push _)⟩ ?g0 ?g1
        case g0 => exact ⟨0, Nat.le_refl 0, setR_new_at (Heap.get?_push_of_some _ hS)⟩
        case g1 =>
          intro t' c' hm hc' hS'
          obtain ⟨g, g2, d', tk', os'⟩ := t'
          have eg : g2 = s.gens := hm.gens; have ed : d' = s.drawn := hm.drawn; have eo : os' = s.os := hm.os
          subst eg; subst ed; subst eo
          show wpAny _ _ _ _ _ _
          refine wpAny_pure ?_
          show wpAny _ _ (ret Value.none) _ _ _
          rw [size] at hc'
          refine wpAny_pure ⟨rfl, g, tk', c', rfl, hS', hc', fun b o e => ?_⟩
          have lb : b < s.heap.objs.size := Heap.lt_size e
          have n2 : b ≠ (s.heap.push (bareSet w)).objs.size := by rw [Heap.size_push]; exact Nat.ne_of_lt (Nat.lt_succ_of_lt lb)
          exact hm.heap b o (by simp only [List.mem_cons, List.mem_singleton, List.not_mem_nil, or_false, not_or]; exact ⟨Nat.ne_of_lt lb, n2⟩) (Heap.get?_push_of_some _ (Heap.get?_push_of_some _ e))
      · cases r2 with
        | error e => exact hr2
        | ok fl2 =>
          cases fl2 with
          | ret r =>
            obtain ⟨rfl, g, tk, c', rfl, hS', hc', hk'⟩ := hr2
            repeat (any_goals (first | assumption | wp_step))
            exact fin _ _ _ hS' hc' hk'
          | _ => exact hr2.elim
    | _ => exact hr.elim
end
def rSetI (K : PySem.W.Frag) (w : World) : List V → Hp → VK → Prop := fun xs H Q => ∃ (l : Addr) (ns : List Int), xs = [.ref l] ∧ SqL K H l (ns.map V.int) ∧ ns.length < 64 ∧ ∀ p c, H p = none → c ≤ ns.length → Q (.ref p) (upd H p (SetO w p (fun j => decide (j ∈ ns)) c))
theorem cr_setI {X : Cx} (hc : X.calm = true) : CallR X (.type "set") (rSetI X.K X.w) := by
  intro pins s σ H xs us Q I r h
  obtain ⟨l, ns, rfl, hq, h64, q⟩ := h
  obtain rfl := Vals.ref1 r
  obtain ⟨its, rv, pl, hz⟩ := I.list hq
  refine set_of_ints ns (I.ok.hd hc) pl.isList (by simpa using rv.ints) (by unfold scanBound; omega) fun g tk c R hc' hk => ?_
  exact ⟨.ref s.heap.objs.size, _, I.laid (t' := tk) (o := SetO X.w s.heap.objs.size (fun j => decide (j ∈ ns)) c) hk (Nat.le_refl _) (setO_new R), rfl, q _ c (I.hok.fresh (Nat.le_refl _)) hc'⟩
/-! ### sorted(set(list of ints)) -/
def bSortSet (nw : NW) : AC := fun ds L P => match ds with
  | [x] => withL L x fun ds => ∃ ns : List Int, ds = ns.map DV.int ∧ ns.length < 64 ∧ ∀ ms : List Int, ms.Pairwise (· < ·) → (∀ k, k ∈ ms ↔ k ∈ ns) → nw (ms.map DV.int) L P
  | _ => False
section
variable {X : Cx} {W : WX} {e : Expr} {t : AA} {p p2 pos pos2 : Pos} {nw : NW}
theorem a_sortset (hc : X.calm = true) (hn : NwOk nw) (hg : Gl X "sorted") (hm : X.mg "sorted" = none) (hg2 : Gl X "set") (hm2 : X.mg "set" = none) (ha : PA X [e] (cA X.kx W t)) (he : starEach [e] X.env = (false, eval e X.env) :: starEach [] X.env := by rfl)
    (he2 : starEach [.Call (.Name "set" p2) [e] [] pos2] X.env = (false, eval (.Call (.Name "set" p2) [e] [] pos2) X.env) :: starEach [] X.env := by rfl) : PE X (.Call (.Name "sorted" p) [.Call (.Name "set" p2) [e] [] pos2] [] pos) (cE X.kx W (aCB (bSortSet nw) t)) :=
  (pe_callB (cr_sortedSet hc) hg hm (by decide +kernel) (pa_cons (pe_callTy (cr_setI hc) hg2 hm2 (by decide +kernel) ha (by decide) (by decide) he rfl) pa_nil he2) (by decide) (by decide) he2 rfl).imp fun σ H Q ⟨I, L, F, ρ, P, px, S, h, q⟩ => ⟨I, L, F, ρ, _, px, S, h, fun ds L1 vs I1 H1 h1 A1 e1 r1 => by
    unfold bSortSet at h1
    split at h1
    · obtain ⟨v, rfl, r2⟩ := one_rp (k := X.kx) r1
      obtain ⟨a, us, xs, rfl, ha, rr, ns, rfl, h64, h1⟩ := withL_ok A1 r2 h1
      rw [rr.ints] at ha
      refine ⟨a, ns, rfl, SqL.of ha, h64, fun p c hp hl => ⟨p, _, c, rfl, upd_same, by omega, fun ms p2 hs hi _ hp2 => ?_⟩⟩
      have hk : ∀ k, k ∈ ms ↔ k ∈ ns := fun k => by rw [hi k]; simp
      exact newL_ok (A1.lost hp) (Rps.of_ints ms) (hn _ _ _ (h1 ms hs hk)) (q.mono e1) p2 hp2
    · exact h1.elim⟩
end
/-- ascending, each once -/
def ssort (ns : List Int) : List Int := (ns.eraseDups).mergeSort (fun a b => decide (a ≤ b))
theorem asc_unique : ∀ {xs ys : List Int}, xs.Pairwise (· < ·) → ys.Pairwise (· < ·) → (∀ k, k ∈ xs ↔ k ∈ ys) → xs = ys
  | [], [], _, _, _ => rfl
  | [], y :: ys, _, _, h => by have := (h y).mpr (List.mem_cons_self ..); cases this
  | x :: xs, [], _, _, h => by have := (h x).mp (List.mem_cons_self ..); cases this
  | x :: xs, y :: ys, hx, hy, h => by
    rw [List.pairwise_cons] at hx hy
    have e : x = y := by
      rcases List.mem_cons.mp ((h x).mp (List.mem_cons_self ..)) with e | e
      · exact e
      · rcases List.mem_cons.mp ((h y).mpr (List.mem_cons_self ..)) with e' | e'
        · exact e'.symm
        · have := hx.1 y e'; have := hy.1 x e; omega
    subst e
    congr 1
    refine asc_unique hx.2 hy.2 fun k => ⟨fun hk => ?_, fun hk => ?_⟩
    · rcases List.mem_cons.mp ((h k).mp (List.mem_cons_of_mem _ hk)) with e | e
      · subst e; have := hx.1 k hk; omega
      · exact e
    · rcases List.mem_cons.mp ((h k).mpr (List.mem_cons_of_mem _ hk)) with e | e
      · subst e; have := hy.1 k hk; omega
      · exact e
theorem nodup_dups : ∀ (n : Nat) (ns : List Int), ns.length ≤ n → ns.eraseDups.Nodup
  | _, [], _ => by simp
  | 0, _ :: _, h => by simp at h
  | n + 1, a :: ns, h => by
    rw [List.eraseDups_cons, List.nodup_cons]
    refine ⟨fun z => ?_, nodup_dups n _ (Nat.le_trans (List.length_filter_le ..) (by simpa using h))⟩
    have := List.mem_eraseDups.mp z
    simp at this
theorem ssort_mem {ns : List Int} {k : Int} : k ∈ ssort ns ↔ k ∈ ns := by unfold ssort; rw [List.mem_mergeSort, List.mem_eraseDups]
theorem ssort_asc {ns : List Int} : (ssort ns).Pairwise (· < ·) := by
  have h1 : (ssort ns).Pairwise (fun a b => decide (a ≤ b) = true) := List.pairwise_mergeSort (fun a b c => by simp; omega) (fun a b => by simp; omega) _
  have h2 : (ssort ns).Nodup := (List.mergeSort_perm _ _).nodup_iff.mpr (nodup_dups _ _ (Nat.le_refl _))
  rw [List.Nodup] at h2
  exact (h1.and h2).imp fun h => by simp at h; omega
theorem ssort_of {ns ms : List Int} (h1 : ms.Pairwise (· < ·)) (h2 : ∀ k, k ∈ ms ↔ k ∈ ns) : ms = ssort ns := asc_unique h1 ssort_asc fun k => by rw [h2, ssort_mem]
theorem ssort_self {ns : List Int} (h : ns.Pairwise (· < ·)) : ssort ns = ns := (ssort_of h fun _ => Iff.rfl).symm
theorem ssort_len (ns : List Int) : (ssort ns).length ≤ ns.length := by
  unfold ssort
  rw [List.length_mergeSort]
  have : ∀ (n : Nat) (ns : List Int), ns.length ≤ n → ns.eraseDups.length ≤ ns.length := by
    intro n
    induction n with
    | zero => intro ns h; cases ns with
      | nil => simp
      | cons a r => simp at h
    | succ n ih => intro ns h; cases ns with
      | nil => simp
      | cons a r =>
        rw [List.eraseDups_cons, List.length_cons, List.length_cons]
        have h1 := List.length_filter_le (fun b => !b == a) r
        have h2 := ih (r.filter fun b => !b == a) (by simp at h; omega)
        omega
  exact this _ _ (Nat.le_refl _)
/-- the locked form; its rule -/
def sorsA (nw : NW) (ds : List DV) (L : Led) (P : PD) (_ : Lk P) : Prop := bSortSet nw [.lst ds] L P
section
variable {L : Led} {P : PD} {nw : NW} {lk : Lk P}
theorem bSortSet_l {ds : List DV} : bSortSet nw [.lst ds] L P = sorsA nw ds L P .mk := (rfl)
theorem bSortSet_r {a : Addr} : bSortSet nw [.ref a] L P = withL L (.ref a) fun ds => sorsA nw ds L P .mk := (rfl)
theorem sorsA_of {ns : List Int} (h64 : ns.length < 64) (h : nw ((ssort ns).map DV.int) L P) : sorsA nw (ns.map DV.int) L P lk := ⟨ns, rfl, h64, fun ms h1 h2 => by rw [ssort_of h1 h2]; exact h⟩
end
/-! ### list(dict) -/
def keyV : Key → DV
  | .inl i => .int i
  | .inr s => .str s
mutual
def unk : NestedKey → DV
  | .none => .non
  | .num i => .int i
  | .text s => .str s
  | .tup ks => .tup (unks ks)
def unks : List NestedKey → List DV
  | [] => []
  | k :: ks => unk k :: unks ks
end
mutual
theorem unk_nk : ∀ (d : DV) {k : NestedKey}, nk d = some k → d = unk k
  | .non, _, h => by cases h; rfl
  | .bl _, _, h => by cases h
  | .int _, _, h => by cases h; rfl
  | .str _, _, h => by cases h; rfl
  | .ty _, _, h => by cases h
  | .ref _, _, h => by cases h
  | .lst _, _, h => by cases h
  | .wl _, _, h => by cases h
  | .ins _ _ _, _, h => by cases h
  | .tup ds, k, h => by
    cases e : nks ds with
    | none => simp [nk, e] at h
    | some ks =>
      simp [nk, e] at h
      subst h
      rw [unks_nks ds e]; rfl
theorem unks_nks : ∀ (ds : List DV) {ks : List NestedKey}, nks ds = some ks → ds = unks ks
  | [], _, h => by cases h; rfl
  | d :: ds, ks, h => by
    cases e1 : nk d with
    | none => simp [nks, e1] at h
    | some k1 =>
      cases e2 : nks ds with
      | none => simp [nks, e1, e2] at h
      | some k2 =>
        simp [nks, e1, e2] at h
        subst h
        rw [unk_nk d e1, unks_nks ds e2]; rfl
end
def bListD (nw : NW) : AC := fun ds L P => match ds with
  | [.ref a] => (∃ kvs, L a = some (.dK kvs) ∧ nw (kvs.map fun kv => keyV kv.1) L P) ∨ ∃ kvs, L a = some (.dT kvs) ∧ nw (kvs.map fun kv => unk kv.1) L P
  | _ => False
def rListX (k : Kx) : List V → Hp → VK → Prop := fun xs H Q => ∃ I L F kvs a, Ab k I L F H ∧ L a = some (.dT kvs) ∧ xs = [.ref a] ∧ ∀ p us, H p = none → Rps k.K I (kvs.map fun kv => unk kv.1) us → Q (.ref p) (upd H p (.lst us))
theorem ents_keys {K : PySem.W.Frag} {I : Hp} : ∀ {kvs : List (NestedKey × DV)} {xs : List (NestedKey × Addr × Value)}, EntsOk K I kvs xs → Rps K I (kvs.map fun kv => unk kv.1) (xs.map fun x => V.ref x.2.1)
  | [], [], _ => .nil
  | (k1, d) :: kvs, (k2, b, w) :: xs, .cons h r => by
    obtain ⟨ds, q1, q2⟩ := h.tup
    have e := unk_nk _ q2
    rw [e] at q1
    have e2 : k1 = k2 := h.key
    exact .cons (by rw [e2]; exact q1) (ents_keys r)
theorem cr_listX {X : Cx} (hc : X.calm = true) : CallR X (.type "list") (rListX X.kx) := by
  intro pins s σ H xs us Q Iv r h
  obtain ⟨I, L, F, kvs, a, A, hl, rfl, q⟩ := h
  obtain rfl := Vals.ref1 r
  obtain ⟨ks, en, na, few, ⟨o, es, ep, ho, hx, hdt, he, _, hn⟩, mu⟩ := led_dT A Iv hl
  have l1 : es.size = ks.length := size_of_entries he
  refine PySem.W.kdl_call (kdl_raw na hx hdt) (Iv.ok.hd hc) ho (by omega) fun h' tk acc c' kp e it => ?_
  have ea : acc.toList = ks.map fun x => Value.ref x.2.1 := by
    apply List.ext_getElem?
    intro j
    have hl : acc.toList.length = ks.length := by rw [Array.length_toList, it.1]; exact l1
    rw [List.getElem?_map]
    by_cases hj : j < ks.length
    · have hv := List.getElem?_eq_getElem (l := acc.toList) (i := j) (by omega)
      obtain ⟨en2, hen, hv2⟩ := it.2 j _ (by rw [← Array.getElem?_toList]; exact hv)
      have qe := entry_at he j
      rw [hen, List.getElem?_eq_getElem hj] at qe
      rw [hv, List.getElem?_eq_getElem hj, hv2]
      cases qe
      rfl
    · rw [List.getElem?_eq_none (by omega), List.getElem?_eq_none (by omega)]; rfl
  have rv : Vals (ks.map fun x => V.ref x.2.1) acc.toList := by
    have := vals_refs (ks.map fun x => x.2.1)
    rw [List.map_map, List.map_map] at this
    rw [ea]; exact this
  refine ⟨.ref s.heap.objs.size, _, Iv.laid (t' := tk) (o := .lst (ks.map fun x => V.ref x.2.1)) kp (Nat.le_refl _) ⟨by rw [List.length_map]; exact few, acc.toList, c', rv, by rw [Array.toArray_toList]; exact e⟩, rfl, q _ _ (Iv.hok.fresh (Nat.le_refl _)) (ents_keys en)⟩
theorem keyV_rp {K : PySem.W.Frag} {I : Hp} : ∀ {kvs : List (Key × DV)} {xs : List (Key × V)}, kvs.map (·.1) = xs.map (·.1) → Rps K I (kvs.map fun kv => keyV kv.1) (xs.map fun kv => kV kv.1)
  | [], [], _ => .nil
  | [], _ :: _, e => by cases e
  | _ :: _, [], e => by cases e
  | (k1, d) :: kvs, (k2, v) :: xs, e => by
    simp only [List.map_cons, List.cons.injEq] at e
    obtain ⟨rfl, e⟩ := e
    refine .cons ?_ (keyV_rp e)
    cases k1
    · exact .int _
    · exact .str _
theorem bListD_ok {k : Kx} {nw : NW} (hn : NwOk nw) : ACl k (fun xs H Q => rListD xs H Q ∨ rListX k xs H Q) (bListD nw) := by
  intro I F H L ds vs P Q A r h q
  unfold bListD at h
  split at h
  · obtain ⟨v, rfl, r1⟩ := one_rp r
    cases r1
    rcases h with ⟨kvs, hl, h⟩ | ⟨kvs, hl, h⟩
    · obtain ⟨_, _, o, eo, ro⟩ := A.led _ _ hl
      cases ro with
      | dK ek rk => exact .inl ⟨_, _, rfl, eo, fun p hp => newL_ok A (keyV_rp ek) (hn _ _ _ h) q p hp⟩
    · exact .inr ⟨I, L, F, kvs, _, A, hl, rfl, fun p us hp r => newL_ok A r (hn _ _ _ h) q p hp⟩
  · exact h.elim
section
variable {X : Cx} {W : WX} {e : Expr} {t : AA} {p pos : Pos} {nw : NW}
theorem a_listD (hc : X.calm = true) (hn : NwOk nw) (hg : Gl X "list") (hm : X.mg "list" = none) (ha : PA X [e] (cA X.kx W t)) (he : starEach [e] X.env = (false, eval e X.env) :: starEach [] X.env := by rfl) : PE X (.Call (.Name "list" p) [e] [] pos) (cE X.kx W (aCB (bListD nw) t)) :=
  a_callTy ((call_list_dK hc).or (cr_listX hc)) (bListD_ok hn) hg hm (by decide +kernel) ha (he := he)
end
/-! ### displays of one entry -/
theorem Ab.unhideW {k : Kx} {I F H : Hp} {L : Led} {p : Addr} {o o' : HO} {m : MO} (A : Ab k I L (upd F p o) H) (hF : F p = none) (r : RpO k I p m o') : Ab k I (updL L p m) F (upd H p o') := by
  have hp : (upd F p o) p = some o := upd_same
  have hI := A.sep _ _ hp
  refine ⟨fun a u e => ?_, fun a u e => ?_, fun a n e => ?_, fun a u e => ?_⟩
  · rw [upd_ne (ne_of_none e hI)]; exact A.imm a u e
  · have : a ≠ p := ne_of_none e hF
    rw [upd_ne this]
    exact A.frm a u (by rw [upd_ne this]; exact e)
  · by_cases z : a = p
    · subst z; rw [updL_same] at e; cases e
      exact ⟨hI, hF, o', upd_same, r⟩
    · rw [updL_ne z] at e
      obtain ⟨h1, h2, u, h3, h4⟩ := A.led a n e
      rw [upd_ne z] at h2
      exact ⟨h1, h2, u, by rw [upd_ne z]; exact h3, h4⟩
  · have : a ≠ p := ne_of_none e hF
    exact A.sep a u (by rw [upd_ne this]; exact e)
theorem Ab.hidL {k : Kx} {I F H : Hp} {L : Led} {p : Addr} {o : HO} (A : Ab k I L (upd F p o) H) : L p = none := by
  cases q : L p with
  | none => rfl
  | some m =>
    obtain ⟨_, h2, _⟩ := A.led p m q
    rw [upd_same] at h2; cases h2
def aDict1 (tk tv : AE) : AE := fun ρ L P _ => tk ρ L (fun x L1 => tv ρ L1 (fun y L2 => ∃ key, keyD x = some key ∧ ∀ a, L2 a = none → P (.ref a) (updL L2 a (.dK [(key, y)]))) noPX) noPX
def aDict1T (tk tv : AE) : AE := fun ρ L P _ => tk ρ L (fun x L1 => tv ρ L1 (fun y L2 => ∃ key, TK x key ∧ ∀ a, L2 a = none → P (.ref a) (updL L2 a (.dT [(key, y)]))) noPX) noPX
section
variable {X : Cx} {W : WX} {ke ve : Expr} {tk tv : AE} {pos : Pos} {kk : Nat}
theorem a_dict1 (hk : PE X ke (cE X.kx W0 tk)) (hv : PE X ve (cE X.kx W0 tv)) : PE X (.Dict [some ke] [ve] pos) (cE X.kx W (aDict1 tk tv)) :=
  (pe_disp (pps_cons hk hv pps_nil) rfl rfl (by simp) (by simp)).imp fun σ H Q ⟨I, L, F, ρ, P, px, S, h, q⟩ p hp => by
    have hF := S.ab.freeF hp
    refine ⟨I, L, upd F p (.dK []), ρ, _, noPX, ⟨S.ab.newF hp, S.rs, fun _ _ _ _ _ _ z => z.elim⟩, h, fun x L1 xv I1 H1 h1 A1 e1 r1 => ⟨I1, L1, upd F p (.dK []), ρ, _, noPX, ⟨A1, S.rs.mono e1, fun _ _ _ _ _ _ z => z.elim⟩, h1, fun y L2 yv I2 H2 h2 A2 e2 r2 => ?_⟩⟩
    obtain ⟨key, hk, h2⟩ := h2
    rw [keyD_rp r1 hk]
    refine ⟨A2.frm _ _ upd_same, [(key, yv)], rfl, by simp, ?_⟩
    exact q _ _ _ _ _ (h2 p A2.hidL) (A2.unhideW hF (.dK (kvs := [(key, y)]) (xs := [(key, yv)]) rfl (.cons r2 .nil))) (e1.trans e2) (.ref p)
theorem a_dict1T (hr : Room kk X.A) (hk : PE X ke (cE X.kx W0 tk)) (hv : PE X ve (cE X.kx W0 tv)) : PE X (.Dict [some ke] [ve] pos) (cE X.kx W (aDict1T tk tv)) := by
  refine ⟨fun pins s σ H Q Iv ⟨I, L, F, ρ, P, px, S, h, q⟩ => ?_⟩
  have hp := Iv.hok.fresh (Nat.le_refl s.heap.objs.size)
  have hF := S.ab.freeF hp
  have sys : (s.heap.objs.size == sysModules) = false := beq_eq_false_iff_ne.mpr (Ne.symm (Nat.ne_of_lt Iv.big))
  have J := Iv.laid (a := s.heap.objs.size) (o := .ext (RawD X.prog X.w s.heap.objs.size [])) (t' := s.toks) (fun _ _ q => Heap.get?_push_of_some _ q) (Nat.le_refl _) (raw_ext (Heap.DictOfH.new (knd := nestedKind X.prog X.w) s.heap))
  have room : (nestedKind X.prog X.w).room X.A := by
    have := hr.un
    show X.A.units + 8 < cLine
    omega
  have hz := pairTrees_length [some ke] [ve] X.env pos rfl rfl
  rw [arm_eval_Dict, zip_pairTrees [some ke] [ve] X.env pos rfl rfl, dictDisplay_pairs (pairTrees [some ke] [ve] X.env pos) (by intro z; rw [z] at hz; cases hz) (by rw [hz]; simp)]
  refine wpAny_bind (wpAny_standAt (wpAny_bind (wpAny_subDictH (knd := nestedKind X.prog X.w) room (by rw [hz]; simp) ?_)))
  refine thn ((pps_cons hk hv pps_nil).run pins _ σ _ (fun ps H2 => ∃ I2 L2 x y xv yv, (∃ key, TK x key ∧ ∀ a, L2 a = none → P (.ref a) (updL L2 a (.dT [(key, y)]))) ∧ Ab X.kx I2 L2 (upd F s.heap.objs.size (.ext (RawD X.prog X.w s.heap.objs.size []))) H2 ∧ Ex I I2 ∧ Rp X.K I2 x xv ∧ Rp X.K I2 y yv ∧ ps = [(xv, yv)]) J
    ⟨I, L, upd F s.heap.objs.size (.ext (RawD X.prog X.w s.heap.objs.size [])), ρ, _, noPX, ⟨S.ab.newF hp, S.rs, fun _ _ _ _ _ _ z => z.elim⟩, h, fun x L1 xv I1 H1 h1 A1 e1 r1 =>
      ⟨I1, L1, upd F s.heap.objs.size (.ext (RawD X.prog X.w s.heap.objs.size [])), ρ, _, noPX, ⟨A1, S.rs.mono e1, fun _ _ _ _ _ _ z => z.elim⟩, h1, fun y L2 yv I2 H2 h2 A2 e2 r2 => ⟨I2, L2, x, y, xv, yv, h2, A2, e1.trans e2, r1.mono e2, r2, rfl⟩⟩⟩) fun us s1 ⟨ps, H2, J2, rv, I2, L2, x, y, xv, yv, ⟨key, tk, h2⟩, A2, e2, r1, r2, eps⟩ => ?_
  subst eps
  cases rv with
  | @cons _ b _ _ hb t =>
  cases t
  obtain ⟨ku, vu⟩ := b
  obtain ⟨hb1, hb2⟩ := hb
  obtain ⟨kb, ds, rfl, rfl⟩ := tk_ref tk r1
  obtain rfl : ku = Value.ref kb := hb1
  have raw := J2.hok _ _ (A2.frm _ _ upd_same)
  obtain ⟨⟨ob, es, ep, g1, g2, g3, g4⟩, _, _⟩ := (show ObjOk X.prog X.w H2 s1.heap s.heap.objs.size (.ext (RawD X.prog X.w s.heap.objs.size [])) from raw)
  refine ⟨[(key, kb, vu)], ⟨rfl, rfl, ⟨nested_of J2 A2.imm _ r1 tk.2.1 rfl, tk.2.2⟩, trivial⟩, ⟨ob, es, ep, g1, g2, g3, g4, fun _ z => (nomatch z), List.nodup_nil⟩, fun h' tk' m' hs => ?_⟩
  have e1 : storedAllH [] [(key, kb, vu)] = [(key, kb, vu)] := rfl
  rw [e1] at m'
  have mu : Mut (H2 s.heap.objs.size) := by rw [A2.frm _ _ upd_same]; exact True.intro
  obtain ⟨o2, _, _, k1, _⟩ := id m'
  refine wpAny_pure ⟨.ref s.heap.objs.size, _, d_write J2 mu hs ⟨o2, k1⟩ (raw_ext m'), rfl, ?_⟩
  exact q _ _ _ _ _ (h2 _ A2.hidL) (A2.unhideW hF (.dT (List.pairwise_singleton ..) sys (by simp [sizeLine_eq]) (.cons ⟨rfl, ⟨ds, r1, tk.2.1⟩, tk.2.2, yv, hb2, r2⟩ .nil))) e2 (.ref _)
end
end AL
namespace AL
open PySem PySem.Spec PyProof.Rows L2
/-! ### dicts: stepping rules -/
section
variable {ρ : Sl} {L : Led} {P : PD} {px : PX} {nx_ bk_ ct_ : Sl → Led → Prop} {rt_ : PD} {px_ : PX} {to ti tv : AE} {neg : Bool} {nw : NW}
def dinA (neg : Bool) (x : DV) (a : Addr) (L : Led) (P : PD) (_ : Lk P) : Prop := oDin neg x (.ref a) L P
def dgetA (a : Addr) (y : DV) (L : Led) (P : PD) (_ : Lk P) : Prop := oDget (.ref a) y L P
def dputA (a : Addr) (y d : DV) (L : Led) (q : Led → Prop) (_ : Lk q) : Prop := ∃ kvs k, L a = some (.dK kvs) ∧ keyD y = some k ∧ kvs.length < sizeLine ∧ q (updL L a (.dK (putG kvs k d)))
def tinA (neg : Bool) (x : DV) (a : Addr) (L : Led) (P : PD) (_ : Lk P) : Prop := oTin neg x (.ref a) L P
def tgetA (a : Addr) (y : DV) (L : Led) (P : PD) (_ : Lk P) : Prop := oTget (.ref a) y L P
def tputA (a : Addr) (y d : DV) (L : Led) (q : Led → Prop) (_ : Lk q) : Prop := ∃ kvs k, L a = some (.dT kvs) ∧ TK y k ∧ kvs.length < sizeLine ∧ q (updL L a (.dT (putT kvs k d)))
def dputD (x y d : DV) (L : Led) (q : Led → Prop) (_ : Lk q) : Prop := match x with
  | .ref a => dputA a y d L q .mk
  | _ => False
def tputD (x y d : DV) (L : Led) (q : Led → Prop) (_ : Lk q) : Prop := match x with
  | .ref a => tputA a y d L q .mk
  | _ => False
theorem xDict0 : aDict0 ρ L P px = ∀ a, L a = none → P (.ref a) (updL L a (.dK [])) := (rfl)
theorem xDict0T : aDict0T ρ L P px = ∀ a, L a = none → P (.ref a) (updL L a (.dT [])) := (rfl)
theorem oDin_e {x : DV} {a : Addr} : oDin neg x (.ref a) L P = dinA neg x a L P .mk := (rfl)
theorem oDget_e {y : DV} {a : Addr} : oDget (.ref a) y L P = dgetA a y L P .mk := (rfl)
theorem oTin_e {x : DV} {a : Addr} : oTin neg x (.ref a) L P = tinA neg x a L P .mk := (rfl)
theorem oTget_e {y : DV} {a : Addr} : oTget (.ref a) y L P = tgetA a y L P .mk := (rfl)
theorem xDput : aDput to ti tv ⟨nx_, rt_, bk_, ct_, px_⟩ ρ L = tv ρ L (fun d L1 => to ρ L1 (fun x L2 => ti ρ L2 (fun y L3 => dputD x y d L3 (nx_ ρ) .mk) px_) px_) px_ := (rfl)
theorem xTput : aTput to ti tv ⟨nx_, rt_, bk_, ct_, px_⟩ ρ L = tv ρ L (fun d L1 => to ρ L1 (fun x L2 => ti ρ L2 (fun y L3 => tputD x y d L3 (nx_ ρ) .mk) px_) px_) px_ := (rfl)
theorem dputD_r {a : Addr} {y d : DV} {q : Led → Prop} {lk : Lk q} : dputD (.ref a) y d L q lk = dputA a y d L q .mk := (rfl)
theorem tputD_r {a : Addr} {y d : DV} {q : Led → Prop} {lk : Lk q} : tputD (.ref a) y d L q lk = tputA a y d L q .mk := (rfl)
theorem din_of {x : DV} {a : Addr} {kvs : List (Key × DV)} {k : Key} {lk : Lk P} (h : L a = some (.dK kvs)) (hk : keyD x = some k) : dinA neg x a L P lk = P (.bl (neg ^^ (valG kvs k).isSome)) L :=
  propext ⟨fun ⟨kvs', k', e1, e2, q⟩ => by rw [h] at e1; cases e1; rw [hk] at e2; cases e2; exact q, fun q => ⟨_, _, h, hk, q⟩⟩
theorem dget_of {y : DV} {a : Addr} {kvs : List (Key × DV)} {k : Key} {d : DV} {lk : Lk P} (h : L a = some (.dK kvs)) (hk : keyD y = some k) (hv : valG kvs k = some d) : dgetA a y L P lk = P d L :=
  propext ⟨fun ⟨kvs', k', d', e1, e2, e3, q⟩ => by rw [h] at e1; cases e1; rw [hk] at e2; cases e2; rw [hv] at e3; cases e3; exact q, fun q => ⟨_, _, _, h, hk, hv, q⟩⟩
theorem dput_of {y d : DV} {a : Addr} {kvs : List (Key × DV)} {k : Key} {q : Led → Prop} {lk : Lk q} (h : L a = some (.dK kvs)) (hk : keyD y = some k) (hz : kvs.length < sizeLine) : dputA a y d L q lk = q (updL L a (.dK (putG kvs k d))) :=
  propext ⟨fun ⟨kvs', k', e1, e2, _, q⟩ => by rw [h] at e1; cases e1; rw [hk] at e2; cases e2; exact q, fun q => ⟨_, _, h, hk, hz, q⟩⟩
theorem tin_of {x : DV} {a : Addr} {kvs : List (NestedKey × DV)} {k : NestedKey} {lk : Lk P} (h : L a = some (.dT kvs)) (hk : TK x k) : tinA neg x a L P lk = P (.bl (neg ^^ (valT kvs k).isSome)) L :=
  propext ⟨fun ⟨kvs', k', e1, e2, q⟩ => by rw [h] at e1; cases e1; have := e2.2.1; rw [hk.2.1] at this; cases this; exact q, fun q => ⟨_, _, h, hk, q⟩⟩
theorem tget_of {y : DV} {a : Addr} {kvs : List (NestedKey × DV)} {k : NestedKey} {d : DV} {lk : Lk P} (h : L a = some (.dT kvs)) (hk : TK y k) (hv : valT kvs k = some d) : tgetA a y L P lk = P d L :=
  propext ⟨fun ⟨kvs', k', d', e1, e2, e3, q⟩ => by rw [h] at e1; cases e1; have := e2.2.1; rw [hk.2.1] at this; cases this; rw [hv] at e3; cases e3; exact q, fun q => ⟨_, _, _, h, hk, hv, q⟩⟩
theorem tput_of {y d : DV} {a : Addr} {kvs : List (NestedKey × DV)} {k : NestedKey} {q : Led → Prop} {lk : Lk q} (h : L a = some (.dT kvs)) (hk : TK y k) (hz : kvs.length < sizeLine) : tputA a y d L q lk = q (updL L a (.dT (putT kvs k d))) :=
  propext ⟨fun ⟨kvs', k', e1, e2, _, q⟩ => by rw [h] at e1; cases e1; have := e2.2.1; rw [hk.2.1] at this; cases this; exact q, fun q => ⟨_, _, h, hk, hz, q⟩⟩
def dict1A (x y : DV) (L : Led) (P : PD) (_ : Lk P) : Prop := ∃ key, keyD x = some key ∧ ∀ a, L a = none → P (.ref a) (updL L a (.dK [(key, y)]))
def dict1TA (x y : DV) (L : Led) (P : PD) (_ : Lk P) : Prop := ∃ key, TK x key ∧ ∀ a, L a = none → P (.ref a) (updL L a (.dT [(key, y)]))
theorem xDict1 : aDict1 ti tv ρ L P px = ti ρ L (fun x L1 => tv ρ L1 (fun y L2 => dict1A x y L2 P .mk) noPX) noPX := (rfl)
theorem xDict1T : aDict1T ti tv ρ L P px = ti ρ L (fun x L1 => tv ρ L1 (fun y L2 => dict1TA x y L2 P .mk) noPX) noPX := (rfl)
theorem dict1_i {i : Int} {y : DV} {lk : Lk P} : dict1A (.int i) y L P lk = ∀ a, L a = none → P (.ref a) (updL L a (.dK [(.inl i, y)])) :=
  propext ⟨fun ⟨k, e, h⟩ => by cases e; exact h, fun h => ⟨_, rfl, h⟩⟩
theorem dict1_s {i : Str} {y : DV} {lk : Lk P} : dict1A (.str i) y L P lk = ∀ a, L a = none → P (.ref a) (updL L a (.dK [(.inr i, y)])) :=
  propext ⟨fun ⟨k, e, h⟩ => by cases e; exact h, fun h => ⟨_, rfl, h⟩⟩
theorem dict1T_of {x y : DV} {k : NestedKey} {lk : Lk P} (hk : TK x k) (h : ∀ a, L a = none → P (.ref a) (updL L a (.dT [(k, y)]))) : dict1TA x y L P lk := ⟨k, hk, h⟩
/-! ### list(dict), max of a list -/
def lstDA (nw : NW) (a : Addr) (L : Led) (P : PD) (_ : Lk P) : Prop := bListD nw [.ref a] L P
theorem bListD_e {a : Addr} : bListD nw [.ref a] L P = lstDA nw a L P .mk := (rfl)
theorem lstDA_k {a : Addr} {kvs : List (Key × DV)} {lk : Lk P} (e : L a = some (.dK kvs)) (h : nw (kvs.map fun kv => keyV kv.1) L P) : lstDA nw a L P lk := .inl ⟨kvs, e, h⟩
theorem lstDA_t {a : Addr} {kvs : List (NestedKey × DV)} {lk : Lk P} (e : L a = some (.dT kvs)) (h : nw (kvs.map fun kv => unk kv.1) L P) : lstDA nw a L P lk := .inr ⟨kvs, e, h⟩
def maxA (ds : List DV) (L : Led) (P : PD) (_ : Lk P) : Prop := bMaxL [.lst ds] L P
theorem bMaxL_l {ds : List DV} : bMaxL [.lst ds] L P = maxA ds L P .mk := (rfl)
theorem maxA_of {ns : List Int} {m : Int} {lk : Lk P} (hm : m ∈ ns) (hle : ∀ y ∈ ns, y ≤ m) (h : P (.int m) L) : maxA (ns.map DV.int) L P lk :=
  ⟨ns, rfl, List.length_pos_of_mem hm, fun m' h1 h2 => by
    have e : m' = m := Int.le_antisymm (hle _ h1) (h2 _ hm)
    rw [e]; exact h⟩
def minA (ds : List DV) (L : Led) (P : PD) (_ : Lk P) : Prop := bMinL [.lst ds] L P
theorem bMinL_l {ds : List DV} : bMinL [.lst ds] L P = minA ds L P .mk := (rfl)
theorem minA_of {ns : List Int} {m : Int} {lk : Lk P} (hm : m ∈ ns) (hle : ∀ y ∈ ns, m ≤ y) (h : P (.int m) L) : minA (ns.map DV.int) L P lk :=
  ⟨ns, rfl, List.length_pos_of_mem hm, fun m' h1 h2 => by
    have e : m' = m := Int.le_antisymm (h2 _ hm) (hle _ h1)
    rw [e]; exact h⟩
theorem oEqN_bs {n : Bool} {i : Bool} {s : Str} : oEqN n (.bl i) (.str s) L P = P (.bl (n ^^ false)) L := (rfl)
theorem oEqN_sb {n : Bool} {i : Bool} {s : Str} : oEqN n (.str s) (.bl i) L P = P (.bl (n ^^ false)) L := (rfl)
theorem oEqN_bn {n : Bool} {i : Bool} : oEqN n (.bl i) .non L P = P (.bl (n ^^ false)) L := (rfl)
theorem oEqN_nb {n : Bool} {i : Bool} : oEqN n .non (.bl i) L P = P (.bl (n ^^ false)) L := (rfl)
theorem oEqN_ns {n : Bool} {s : Str} : oEqN n .non (.str s) L P = P (.bl (n ^^ false)) L := (rfl)
theorem oEqN_sn {n : Bool} {s : Str} : oEqN n (.str s) .non L P = P (.bl (n ^^ false)) L := (rfl)
end
end AL
namespace AL
open PySem PySem.Spec PyProof.Rows L2
/-! ### methods of an object of one of some classes -/
def aMethD (tab : List (Addr × ASp)) (te : AE) (t : AA) : AE := fun ρ L P px => te ρ L (fun x L1 => ∃ C asp, (C, asp) ∈ tab ∧ isC L1 x C (t ρ L1 (fun ds L2 => asp (x :: ds) L2 P fun c L' => px c ρ L') px)) px
/-- each of the classes has the method -/
def DD (X : Cx) (m : Str) (tab : List (Addr × ASp)) : Prop := ∀ C asp, (C, asp) ∈ tab → ∃ (k : Nat) (f : Addr) (fd : FuncData) (ps : List Str), Cls X.K C ∧ Meth X.K C m f ∧ FnOk X.prog X.w X.K X.mg X.base (L2N.CX X.prog X.w) k f fd ps (liftSp X.kx asp) ∧ Room k X.A ∧ Binds X.K fd ps []
section
variable {X : Cx} {W : WX} {o : Expr} {es : List Expr} {te : AE} {t : AA} {m : Str} {pos apos : Pos} {tab : List (Addr × ASp)}
theorem dd_nil : DD X m [] := fun _ _ h => nomatch h
theorem dd_cons {C f : Addr} {fd : FuncData} {ps : List Str} {asp : ASp} {k : Nat} (c : Cls X.K C) (hm : Meth X.K C m f) (F : FnOk X.prog X.w X.K X.mg X.base (L2N.CX X.prog X.w) k f fd ps (liftSp X.kx asp)) (hr : Room k X.A) (hb : Binds X.K fd ps []) (r : DD X m tab) : DD X m ((C, asp) :: tab) := fun C' asp' h => by
  rcases List.mem_cons.mp h with h | h
  · cases h; exact ⟨k, f, fd, ps, c, hm, F, hr, hb⟩
  · exact r _ _ h
theorem a_methD {pl : Sem Bool} (he : PE X o (cE X.kx W te)) (dd : DD X m tab) (tk : L2N.Takes X W) (ga : GoArgs X es (cA X.kx W t))
    (ht : eval (.Call (.Attribute o m apos) es [] pos) X.env = (do
      let ov ← eval o X.env
      standAt apos.atName
      let (f, first) ← holding [ov] (getMethod ov m pl)
      callWith pos f first (backTo pos (starEach es X.env)) (backToKw pos (keywordEach [] X.env))) := by rfl) : PE X (.Call (.Attribute o m apos) es [] pos) (cE X.kx W (aMethD tab te t)) := by
  refine ⟨fun pins s σ H Q I h => ?_⟩
  obtain ⟨I0, L, F0, ρ, P, px, S, h, q⟩ := h
  refine methcall_of he I ⟨I0, L, F0, ρ, _, px, S, h, fun xd L1 xv I1 H1 h1 A1 e1 r1 => ?_⟩ ht
  obtain ⟨C, asp, hC, h1⟩ := h1
  obtain ⟨k, f, fd, ps, c, hm, F, hr, hb⟩ := dd C asp hC
  obtain ⟨a, dx, fs, rfl, ha, cc, h1⟩ := isC_ok A1 r1 h1
  refine ⟨a, C, dx, fs, f, rfl, ha, c, hm, meth_no cc hm, fun s1 J => ?_⟩
  refine ga pos f [.ref a] pins s1 σ H1 _ hm.kp J ⟨I1, L1, F0, ρ, _, px, S.go A1 e1, h1, fun ds L2 vs I2 H2 h2 A2 e2 r2 s2 us J2 r => ?_⟩
  exact goes (us := .ref a :: us) (vs := .ref a :: vs) (dvs := []) (ds0 := []) F hr hb .nil (L2N.passAt tk σ) J2 (.cons rfl r) (lift_at (S.go A2 (e1.trans e2)) (by rw [List.append_nil]; exact .cons (r1.mono e2) r2) h2 (q.mono (e1.trans e2)))
end
def dispA (tab : List (Addr × ASp)) (x : DV) (L : Led) (q : ASp → Prop) (_ : Lk q) : Prop := ∃ C asp, (C, asp) ∈ tab ∧ isC L x C (q asp)
section
variable {ρ : Sl} {L : Led} {P : PD} {px : PX} {tab : List (Addr × ASp)} {te : AE} {t : AA}
theorem xMethD : aMethD tab te t ρ L P px = te ρ L (fun x L1 => dispA tab x L1 (fun asp => t ρ L1 (fun ds L2 => callA asp (x :: ds) L2 P (pxA px ρ) .mk .mk) px) .mk) px := (rfl)
theorem disp_ins {C : Addr} {ks : List Str} {ds : List DV} {asp : ASp} {q : ASp → Prop} {lk : Lk q} (h : (C, asp) ∈ tab) (hq : q asp) : dispA tab (.ins C ks ds) L q lk := ⟨C, asp, h, rfl, hq⟩
end
end AL
namespace AL
open PySem PySem.Spec PyProof.Rows L2
/-! ### is True, is False -/
theorem op_isB {X : Cx} : OpR X (compareOp .Is) (fun x y H Q => ∃ a b, x = .bl a ∧ y = .bl b ∧ Q (.bl (a == b)) H) := by
  intro pins s σ H x y v u Q I rx ry h
  obtain ⟨a, b, rfl, rfl, q⟩ := h
  cases rx
  cases ry
  exact wpAny_pure (fin_bl I q (by cases a <;> cases b <;> rfl))
def oIsB : AR2 := fun x y L P => match x, y with
  | .bl a, .bl b => P (.bl (a == b)) L
  | _, _ => False
theorem oIsB_ok {k : Kx} : AOp k (fun x y H Q => ∃ a b, x = .bl a ∧ y = .bl b ∧ Q (.bl (a == b)) H) oIsB := by
  intro I F H L x y xv yv P Q A rx ry h q
  unfold oIsB at h
  split at h
  · cases rx
    cases ry
    exact ⟨_, _, rfl, rfl, here A (.bl _) h q⟩
  · exact h.elim
section
variable {X : Cx} {W : WX} {a b : Expr} {ta tb : AE} {pos : Pos}
theorem a_isB (ha : PE X a (cE X.kx W ta)) (hb : PE X b (cE X.kx W tb)) : PE X (.Compare a [.Is] [b] pos) (cE X.kx W (aBin oIsB ta tb)) := a_cmp op_isB oIsB_ok ha hb
theorem t_isB (ha : PE X a (cE X.kx W ta)) (hb : PE X b (cE X.kx W tb)) : PT X (.Compare a [.Is] [b] pos) (cT X.kx W (aTest (aBin oIsB ta tb))) := t_cmp op_isB oIsB_ok ha hb
end
theorem op_isNB {X : Cx} : OpR X (compareOp .IsNot) (fun x y H Q => ∃ a b, x = .bl a ∧ y = .bl b ∧ Q (.bl (!(a == b))) H) := by
  intro pins s σ H x y v u Q I rx ry h
  obtain ⟨a, b, rfl, rfl, q⟩ := h
  cases rx
  cases ry
  exact wpAny_pure (fin_bl I q (by cases a <;> cases b <;> rfl))
def oIsNB : AR2 := fun x y L P => match x, y with
  | .bl a, .bl b => P (.bl (!(a == b))) L
  | _, _ => False
theorem oIsNB_ok {k : Kx} : AOp k (fun x y H Q => ∃ a b, x = .bl a ∧ y = .bl b ∧ Q (.bl (!(a == b))) H) oIsNB := by
  intro I F H L x y xv yv P Q A rx ry h q
  unfold oIsNB at h
  split at h
  · cases rx
    cases ry
    exact ⟨_, _, rfl, rfl, here A (.bl _) h q⟩
  · exact h.elim
section
variable {X : Cx} {W : WX} {a b : Expr} {ta tb : AE} {pos : Pos}
theorem a_isNB (ha : PE X a (cE X.kx W ta)) (hb : PE X b (cE X.kx W tb)) : PE X (.Compare a [.IsNot] [b] pos) (cE X.kx W (aBin oIsNB ta tb)) := a_cmp op_isNB oIsNB_ok ha hb
theorem t_isNB (ha : PE X a (cE X.kx W ta)) (hb : PE X b (cE X.kx W tb)) : PT X (.Compare a [.IsNot] [b] pos) (cT X.kx W (aTest (aBin oIsNB ta tb))) := t_cmp op_isNB oIsNB_ok ha hb
end
theorem oIsNB_bb {a b : Bool} {L : Led} {P : PD} : oIsNB (.bl a) (.bl b) L P = P (.bl (!(a == b))) L := (rfl)
theorem oIsB_bb {a b : Bool} {L : Led} {P : PD} : oIsB (.bl a) (.bl b) L P = P (.bl (a == b)) L := (rfl)
end AL
namespace AL
open PySem PySem.Spec PyProof.Rows L2
/-! ### displays of dicts whose keys are texts -/
def aPairs : List (Str × AE) → Sl → Led → (List DV → Led → Prop) → Prop
  | [], _, L, K => K [] L
  | p :: r, ρ, L, K => p.2 ρ L (fun y L1 => aPairs r ρ L1 fun ys L2 => K (y :: ys) L2) noPX
def aDictS (ps : List (Str × AE)) : AE := fun ρ L P _ => aPairs ps ρ L fun ys L2 => ∀ a, L2 a = none → P (.ref a) (updL L2 a (.dK ((ps.map fun p => (Sum.inr p.1 : Key)).zip ys)))
inductive DPs (X : Cx) : List (Option Expr) → List Expr → List (Str × AE) → Prop
  | nil : DPs X [] [] []
  | cons {k v : Expr} {s : Str} {tv : AE} {ks : List (Option Expr)} {vs : List Expr} {ps : List (Str × AE)} (hk : PE X k (cE X.kx W0 (aC (.str s)))) (hv : PE X v (cE X.kx W0 tv)) (r : DPs X ks vs ps) : DPs X (some k :: ks) (v :: vs) ((s, tv) :: ps)
theorem DPs.pps {X : Cx} {pos : Pos} {ks : List (Option Expr)} {vs : List Expr} {ps : List (Str × AE)} (h : DPs X ks vs ps) : PPs X pos ks vs (ps.map fun p => (cE X.kx W0 (aC (.str p.1)), cE X.kx W0 p.2)) := by
  induction h with
  | nil => exact pps_nil
  | cons hk hv _ ih => exact pps_cons hk hv ih
theorem DPs.len {X : Cx} {ks : List (Option Expr)} {vs : List Expr} {ps : List (Str × AE)} (h : DPs X ks vs ps) : ks.length = vs.length ∧ ks.length = ps.length ∧ ks.all (·.isSome) = true := by
  induction h with
  | nil => exact ⟨rfl, rfl, rfl⟩
  | cons hk hv _ ih => exact ⟨congrArg Nat.succ ih.1, congrArg Nat.succ ih.2.1, ih.2.2⟩
theorem pairs_lift {k : Kx} : ∀ (ps : List (Str × AE)) {I F H : Hp} {L : Led} {ρ : Sl} {σ : L2.St}, Ab k I L F H → RpS k.K I ρ σ → ∀ (K : List DV → Led → Prop), aPairs ps ρ L K → ∀ (Q : List (V × V) → Hp → Prop), (∀ ys L2 vs I2 H2, K ys L2 → Ab k I2 L2 F H2 → Ex I I2 → Rps k.K I2 ys vs → ys.length = ps.length → Q ((ps.map fun p => V.str p.1).zip vs) H2) → tPairs (ps.map fun p => (cE k W0 (aC (.str p.1)), cE k W0 p.2)) σ H Q
  | [], I, F, H, L, ρ, σ, A, rs, K, h, Q, q => q [] L [] I H h A (Ex.refl I) .nil rfl
  | (s, tv) :: r, I, F, H, L, ρ, σ, A, rs, K, h, Q, q => by
    refine ⟨I, L, F, ρ, fun d L1 => d = .str s ∧ L1 = L, noPX, ⟨A, rs, fun _ _ _ _ _ _ z => z.elim⟩, ⟨rfl, rfl⟩, fun d L1 v I1 H1 hd A1 e1 r1 => ?_⟩
    obtain ⟨rfl, rfl⟩ := hd
    cases r1
    refine ⟨I1, L1, F, ρ, _, noPX, ⟨A1, rs.mono e1, fun _ _ _ _ _ _ z => z.elim⟩, h, fun y L2 yv I2 H2 h2 A2 e2 r2 => ?_⟩
    refine pairs_lift r A2 (rs.mono (e1.trans e2)) _ h2 _ fun ys L3 vs I3 H3 h3 A3 e3 r3 l3 => ?_
    exact q (y :: ys) L3 (yv :: vs) I3 H3 h3 A3 ((e1.trans e2).trans e3) (.cons (r2.mono e3) r3) (congrArg Nat.succ l3)
theorem mergeK_nd : ∀ (more acc : List (Key × V)), ((acc ++ more).map (·.1)).Nodup → mergeK acc more = acc ++ more
  | [], acc, _ => by rw [List.append_nil]; rfl
  | p :: r, acc, h => by
    have hn : ∀ kv ∈ acc, kv.1 ≠ p.1 := fun kv hkv e => by
      rw [List.map_append, List.nodup_append] at h
      exact h.2.2 kv.1 (List.mem_map.mpr ⟨kv, hkv, rfl⟩) p.1 (by simp) e
    have e : putK acc p.1 p.2 = acc ++ [p] := by
      unfold putK
      rw [if_neg fun z => ?_]
      obtain ⟨kv, hkv, e⟩ := List.any_eq_true.mp z
      exact hn kv hkv (of_decide_eq_true e)
    show mergeK (putK acc p.1 p.2) r = _
    rw [e, mergeK_nd r (acc ++ [p]) (by rw [List.append_assoc]; exact h), List.append_assoc]; rfl
section
variable {X : Cx} {W : WX} {pos : Pos} {ks : List (Option Expr)} {vs : List Expr} {ps : List (Str × AE)}
theorem a_dictS (h : DPs X ks vs ps) (nd : (ps.map (·.1)).Nodup) (h0 : 0 < ps.length) (h15 : ps.length ≤ 15) : PE X (.Dict ks vs pos) (cE X.kx W (aDictS ps)) :=
  (pe_disp h.pps h.len.2.2 h.len.1 (fun z => by have := h.len.2.1; rw [z] at this; rw [← this] at h0; exact absurd h0 (Nat.lt_irrefl 0)) (by rw [h.len.2.1]; exact h15)).imp fun σ H Q ⟨I, L, F, ρ, P, px, S, h, q⟩ p hp => by
    have hF := S.ab.freeF hp
    refine pairs_lift ps (S.ab.newF (o := .dK []) hp) S.rs _ h _ fun ys L2 zs I2 H2 h2 A2 e2 r2 l2 => ?_
    have lz : zs.length = ps.length := by rw [← r2.length]; exact l2
    have lk : ((ps.map fun p => (Sum.inr p.1 : Key)).zip zs).map (·.1) = ps.map fun p => (Sum.inr p.1 : Key) := by
      rw [List.map_fst_zip]; rw [List.length_map, lz]; exact Nat.le_refl _
    refine ⟨A2.frm _ _ upd_same, (ps.map fun p => (Sum.inr p.1 : Key)).zip zs, ?_, ?_, ?_⟩
    · rw [List.zip_map_left, List.zip_map_left, List.map_map]; rfl
    · rw [List.length_zip, List.length_map]; omega
    rw [mergeK_nd _ [] ?_, List.nil_append]
    · refine q _ _ _ _ _ (h2 p A2.hidL) (A2.unhideW hF (.dK (kvs := (ps.map fun p => (Sum.inr p.1 : Key)).zip ys) (xs := (ps.map fun p => (Sum.inr p.1 : Key)).zip zs) ?_ ?_)) e2 (.ref p)
      · rw [lk, List.map_fst_zip]; rw [List.length_map, l2]; exact Nat.le_refl _
      · rw [List.map_snd_zip, List.map_snd_zip]
        · exact r2
        · rw [List.length_map, lz]; exact Nat.le_refl _
        · rw [List.length_map, l2]; exact Nat.le_refl _
    · rw [List.nil_append, lk]
      have : ps.map (fun p => (Sum.inr p.1 : Key)) = (ps.map (·.1)).map Sum.inr := by rw [List.map_map]; rfl
      rw [this]
      exact List.pairwise_map.mpr (nd.imp fun h e => h (Sum.inr.inj e))
end
section
variable {ρ : Sl} {L : Led} {P : PD} {px : PX} {K : List DV → Led → Prop} {s : Str} {tv : AE} {ps : List (Str × AE)}
theorem xDictS : aDictS ps ρ L P px = aPairs ps ρ L (fun ys L2 => ∀ a, L2 a = none → P (.ref a) (updL L2 a (.dK ((ps.map fun p => (Sum.inr p.1 : Key)).zip ys)))) := (rfl)
theorem xPairs_nil : aPairs [] ρ L K = K [] L := (rfl)
theorem xPairs_cons : aPairs ((s, tv) :: ps) ρ L K = tv ρ L (fun y L1 => aPairs ps ρ L1 fun ys => K (y :: ys)) noPX := (rfl)
end
end AL
namespace AL
open PySem PySem.Spec PyProof.Rows L2
/-! ### small helps for readings -/
theorem map_at {α β : Type} {f : α → β} {ns : List α} {i : Nat} {d : β} (h : (ns.map f)[i]? = some d) : ∃ n, ns[i]? = some n ∧ d = f n := by
  rw [List.getElem?_map] at h
  cases e : ns[i]? with
  | none => rw [e] at h; cases h
  | some n => rw [e] at h; exact ⟨n, rfl, (Option.some.inj h).symm⟩
theorem take_more {α : Type} {ns : List α} {i : Nat} {n : α} (h : ns[i]? = some n) : ns.take (i + 1) = ns.take i ++ [n] := by
  rw [List.take_add_one, h]; rfl
theorem fold_more {α β : Type} {g : β → α → β} {z : β} {ns : List α} {i : Nat} {n : α} (h : ns[i]? = some n) : (ns.take (i + 1)).foldl g z = g ((ns.take i).foldl g z) n := by
  rw [take_more h, List.foldl_append]; rfl
theorem range_more {β : Type} {g : β → Nat → β} {z : β} (i : Nat) : (List.range (i + 1)).foldl g z = g ((List.range i).foldl g z) i := by
  rw [List.range_succ, List.foldl_append]; rfl
theorem at_nat {α : Type} {xs : List α} {j : Nat} {v : α} (h : xs[j]? = some v) : atI xs (j : Int) = some v := atI_nat h
theorem at_int {α : Type} {xs : List α} {j : Int} {v : α} (h0 : 0 ≤ j) (h : xs[j.toNat]? = some v) : atI xs j = some v := by
  have := atI_nat h
  rwa [Int.toNat_of_nonneg h0] at this
theorem dt {p : Prop} [Decidable p] (h : decide p = true) : p := of_decide_eq_true h
theorem df {p : Prop} [Decidable p] (h : decide p = false) : ¬ p := of_decide_eq_false h
theorem et {p : Prop} [Decidable p] (h : (false ^^ decide p) = true) : p := by simpa using h
theorem ef {p : Prop} [Decidable p] (h : (false ^^ decide p) = false) : ¬ p := by simpa using h
theorem nt {p : Prop} [Decidable p] (h : (true ^^ decide p) = true) : ¬ p := by simpa using h
theorem nf {p : Prop} [Decidable p] (h : (true ^^ decide p) = false) : p := by simpa using h
theorem mulR {i j : Int} (h : -(2 ^ 64) < j ∧ j < 2 ^ 64) : CMul i j := .inr h
theorem mulL {i j : Int} (h : -(2 ^ 64) < i ∧ i < 2 ^ 64) : CMul i j := .inl h
theorem smallLine {n : Nat} (h : n ≤ 1000000) : n < sizeLine := Nat.lt_of_le_of_lt h (by rw [sizeLine_eq]; decide)
theorem leLine {n : Nat} (h : n ≤ 1000000) : n ≤ sizeLine := Nat.le_of_lt (smallLine h)
theorem replicate_len {α : Type} (n : Nat) (a : α) : (List.replicate n a).length = n := List.length_replicate
/-- by the answer of a test -/
theorem bl2 {q : Bool → Prop} {b : Bool} (h1 : b = true → q true) (h2 : b = false → q false) : q b := by
  cases b
  · exact h2 rfl
  · exact h1 rfl
/-- an exception leaves; what was made may be forgotten -/
def RS (R : Addr → Led → Prop) (c : Addr) (L : Led) : Prop := ∃ L2, Sub L2 L ∧ R c L2
theorem RS.of {R : Addr → Led → Prop} {c : Addr} {L : Led} (h : R c L) : RS R c L := ⟨L, Sub.refl L, h⟩
theorem RS.up {R : Addr → Led → Prop} {c : Addr} {L L' : Led} (s : Sub L L') (h : RS R c L) : RS R c L' := let ⟨L2, s2, h⟩ := h; ⟨L2, s2.trans s, h⟩
/-- data whose kind isinstance tells; a list of the ledger too -/
def told (d : DV) (L : Led) (q : Prop) : Prop := match d with
  | .non => q
  | .bl _ => q
  | .int _ => q
  | .str _ => q
  | .lst _ => q
  | .tup _ => q
  | .ref a => (∃ ds, L a = some (.lst ds)) ∧ q
  | _ => False
theorem told.imp {d : DV} {L L' : Led} {p q : Prop} (s : Sub L L') (i : p → q) (h : told d L p) : told d L' q := by
  cases d <;> first | exact i h | exact h.elim | skip
  obtain ⟨⟨ds, e⟩, h⟩ := h
  exact ⟨⟨ds, s _ _ e⟩, i h⟩
/-- a list made here is handed back, as the caller wants it -/
theorem ret_new {k : Kx} {ds : List DV} {L : Led} {P : PD} {a : Addr} (h : newL ds L P) (ha : L a = none) : FrzP k (.ref a) (updL L a (.lst ds)) P := by
  rcases h with h | h
  · exact ⟨_, _, FrzD.refl _ _ _, h a ha⟩
  · exact ⟨_, _, FrzD.lst updL_same, by rw [delL_updL ha]; exact h⟩
theorem ret_newE {k : Kx} {ds : List DV} {L L1 : Led} {P : PD} {a : Addr} (h : newL ds L P) (ha : L a = none) (e : L1 = updL L a (.lst ds)) : FrzP k (.ref a) L1 P := by
  subst e; exact ret_new h ha
theorem kit_self {K : PySem.W.Frag} {v : Value} : PySem.W.kitOne K v v = some true := by unfold PySem.W.kitOne; rw [if_pos (by simp)]
theorem rel_ref {a : Addr} : RelV (.ref a) (.ref a) := rfl
theorem rel_int {i : Int} {t : Tok} : RelV (.int i) (.int i t) := ⟨t, rfl⟩
theorem rel_str {i : Str} {t : Tok} : RelV (.str i) (.str i t) := ⟨t, rfl⟩
theorem pair_eqv {a b c d : Int} : PyData.eqv (.tuple [.int a, .int b]) (.tuple [.int c, .int d]) = decide (a = c ∧ b = d) := by
  unfold PyData.eqv PyData.eqvAll PyData.eqvAll PyData.eqvAll
  by_cases h1 : a = c <;> by_cases h2 : b = d <;> simp [h1, h2, PyData.eqv]
theorem pair_deep {neg : Bool} {a b c d : Int} {L : Led} {P : PD} (h : P (.bl (neg ^^ decide (a = c ∧ b = d))) L) : oEqN neg (.tup [.int a, .int b]) (.tup [.int c, .int d]) L P :=
  ⟨.tuple [.int a, .int b], .tuple [.int c, .int d], .tup (.cons (.int _) (.cons (.int _) .nil)), .tup (.cons (.int _) (.cons (.int _) .nil)), rfl, rfl, by rw [pair_eqv]; exact h⟩
theorem eqA_pair {neg : Bool} {a b c d : Int} {L : Led} {P : PD} {lk : Lk P} (h : P (.bl (neg ^^ decide (a = c ∧ b = d))) L) : eqA neg (.tup [.int a, .int b]) (.tup [.int c, .int d]) L P lk := pair_deep h
/-- a def of which nothing is asked -/
theorem fun_bot {P : Program} {w : World} {K : PySem.W.Frag} {mg : Str → Option Value} {base : Heap} {x qual : Str} {st : Stmt} {f : Addr} {fd : FuncData} {N ps : List Str} {k : Nat} {kx : Kx} {asp : ASp} (F : Fun K x qual st f fd) (S : FnScope N ps (defScope st)) (no : ∀ ds L P R, asp ds L P R → False) : FnOk P w K mg base (L2N.CX P w) (k + 1) f fd ps (liftSp kx asp) := by
  refine okXF F S (fun vs H Q E ⟨ds, I, L, F, P, R, A, r, h, _, _⟩ => (no _ _ _ _ h).elim) (fun cdv A outer s H vs Q E hr h => ?_)
  obtain ⟨ds, I, L, F0, P0, R, Ab0, r, h, q, qx⟩ := h
  exact (no _ _ _ _ h).elim
/-! ### the program's own errors -/
section
variable {K : PySem.W.Frag} {D O : Addr}
theorem kit_refT (hd : PySem.W.hasDictIn K O = true) (ht : PySem.W.typeIn K (.ref O) = some (.type "type")) (h : PySem.W.subIn K (.ref D) (.ref O) = some true) : PySem.W.kitOne K (.ref D) (.ref O) = some true := by
  unfold PySem.W.kitOne
  split
  · rfl
  · obtain ⟨cd, hc, _⟩ := PySem.W.any_some hd
    show (if ((PySem.W.clsIn K O).isSome && PySem.W.typeIn K (.ref O) == some (.type "type")) = true then PySem.W.subIn K (.ref D) (.ref O) else none) = _
    rw [if_pos (by rw [hc, ht]; rfl)]
    exact h
theorem kit_refF (hd : PySem.W.hasDictIn K O = true) (ht : PySem.W.typeIn K (.ref O) = some (.type "type")) (h : PySem.W.subIn K (.ref D) (.ref O) = some false) (ho : PySem.W.subIn K (.ref O) (.ref O) = some true) : PySem.W.kitOne K (.ref D) (.ref O) = some false := by
  unfold PySem.W.kitOne
  split
  · rename_i e
    rw [beq_iff_eq.mp e, ho] at h
    cases h
  · obtain ⟨cd, hc, _⟩ := PySem.W.any_some hd
    show (if ((PySem.W.clsIn K O).isSome && PySem.W.typeIn K (.ref O) == some (.type "type")) = true then PySem.W.subIn K (.ref D) (.ref O) else none) = _
    rw [if_pos (by rw [hc, ht]; rfl)]
    exact h
theorem kit_tyT {T : String} (hm : PySem.W.kitMeta T = true) (h : PySem.W.subIn K (.ref D) (.type T) = some true) : PySem.W.kitOne K (.ref D) (.type T) = some true := by
  unfold PySem.W.kitOne
  split
  · rfl
  · show (if PySem.W.kitMeta T = true then PySem.W.subIn K (.ref D) (.type T) else none) = _
    rw [if_pos hm]
    exact h
end
theorem kit_xF {K : PySem.W.Frag} {O : Addr} {T : String} (hd : PySem.W.hasDictIn K O = true) (ht : PySem.W.typeIn K (.ref O) = some (.type "type")) (h : PySem.W.subIn K (.type T) (.ref O) = some false) : PySem.W.kitOne K (.type T) (.ref O) = some false := by
  unfold PySem.W.kitOne
  split
  · rename_i e
    cases beq_iff_eq.mp e
  · obtain ⟨cd, hc, _⟩ := PySem.W.any_some hd
    show (if ((PySem.W.clsIn K O).isSome && PySem.W.typeIn K (.ref O) == some (.type "type")) = true then PySem.W.subIn K (.type T) (.ref O) else none) = _
    rw [if_pos (by rw [hc, ht]; rfl)]
    exact h
theorem kit_tyF {K : PySem.W.Frag} {D : Addr} {T : String} (hm : PySem.W.kitMeta T = true) (h : PySem.W.subIn K (.ref D) (.type T) = some false) : PySem.W.kitOne K (.ref D) (.type T) = some false := by
  unfold PySem.W.kitOne
  split
  · rename_i e
    cases beq_iff_eq.mp e
  · show (if PySem.W.kitMeta T = true then PySem.W.subIn K (.ref D) (.type T) else none) = _
    rw [if_pos hm]
    exact h
/-- the error D among the program's four: a, b, c are the others -/
structure ErrK (G : Gx) (D a b c : Addr) : Prop where
  ex : ExcC G.k.K D
  ca : PySem.W.exmOne G.k.K (.ref D) (.ref G.PlayError) = some true
  cd : PySem.W.exmOne G.k.K (.ref D) (.ref D) = some true
  pe : PySem.W.kitOne G.k.K (.ref D) (.ref G.PlayError) = some true
  na : PySem.W.kitOne G.k.K (.ref D) (.ref a) = some false
  nb : PySem.W.kitOne G.k.K (.ref D) (.ref b) = some false
  nc : PySem.W.kitOne G.k.K (.ref D) (.ref c) = some false
  ve : PySem.W.kitOne G.k.K (.ref D) (.type "ValueError") = some true
theorem ErrK.cP {G : Gx} {D a b c : Addr} (h : ErrK G D a b c) : Caught G.k.K D (.ref G.PlayError) true := ⟨h.ex, h.ca⟩
theorem ErrK.cD {G : Gx} {D a b c : Addr} (h : ErrK G D a b c) : Caught G.k.K D (.ref D) true := ⟨h.ex, h.cd⟩
/-- every law's promise: a list of ints comes, True goes out -/
def spLawT : ASp := fun ds L P _ => match ds with
  | [.wl xs] => (∃ ns : List Int, ns.length ≤ 63 ∧ xs = ns.map DV.int) ∧ P (.bl true) L
  | _ => False
theorem ints_rp {K : PySem.W.Frag} {I : Hp} : ∀ ns : List Int, Rps K I (ns.map DV.int) (ns.map V.int)
  | [] => .nil
  | n :: ns => .cons (.int n) (ints_rp ns)
theorem law_start {k : Kx} {H : Hp} {a : Addr} {ns : List Int} (hl : ns.length ≤ 63) (hS : SqL k.K H a (ns.map V.int)) : liftSp k spLawT [.ref a] H (fun v _ => v = .bl true) fun _ _ _ => False :=
  ⟨[.wl (ns.map DV.int)], H, fun _ => none, fun _ => none, fun d _ => d = .bl true, fun _ _ => False, ⟨fun _ _ e => e, fun _ _ e => (by cases e), fun _ _ e => (by cases e), fun _ _ e => (by cases e)⟩, .cons (.wl hS (ints_rp ns)) .nil,
    ⟨⟨ns, hl, rfl⟩, rfl⟩, fun d L' v I' H' e A x r => by subst e; cases r; rfl, fun _ _ _ _ z => z.elim⟩
theorem spLawT_len {ds : List DV} {L : Led} {P : PD} {R : Addr → Led → Prop} (h : spLawT ds L P R) : ds.length = 1 := by
  unfold spLawT at h
  split at h
  · rfl
  · exact h.elim
end AL
namespace AL
open PySem PySem.Spec PyProof.Rows L2
local macro_rules | `(tactic| simp! [$xs,*]) => `(tactic| simp -dsimp only [↓xDictS, ↓xPairs_nil, ↓xPairs_cons, oIsB_bb, ↓av_0, ↓sl_0, ↓av_1, ↓sl_1, ↓av_2, ↓sl_2, ↓av_3, ↓sl_3, ↓av_4, ↓sl_4, ↓av_5, ↓sl_5, ↓av_6, ↓sl_6, ↓av_7, ↓sl_7, ↓av_8, ↓sl_8, ↓av_9, ↓sl_9, ↓av_10, ↓sl_10, ↓av_11, ↓sl_11, ↓av_12, ↓sl_12, ↓av_13, ↓sl_13, ↓av_14, ↓sl_14, ↓av_15, ↓sl_15, ↓st_1_0, ↓st_1_1, ↓st_2_0, ↓st_2_1, ↓st_2_2, ↓st_3_0, ↓st_3_1, ↓st_3_2, ↓st_3_3, ↓st_4_0, ↓st_4_1, ↓st_4_2, ↓st_4_3, ↓st_4_4, ↓st_5_0, ↓st_5_1, ↓st_5_2, ↓st_5_3, ↓st_5_4, ↓st_5_5, ↓st_6_0, ↓st_6_1, ↓st_6_2, ↓st_6_3, ↓st_6_4, ↓st_6_5, ↓st_6_6, ↓st_7_0, ↓st_7_1, ↓st_7_2, ↓st_7_3, ↓st_7_4, ↓st_7_5, ↓st_7_6, ↓st_8_0, ↓st_8_1, ↓st_8_2, ↓st_8_3, ↓st_8_4, ↓st_8_5, ↓st_8_6, ↓st_9_0, ↓st_9_1, ↓st_9_2, ↓st_9_3, ↓st_9_4, ↓st_9_5, ↓st_9_6, ↓st_10_0, ↓st_10_1, ↓st_10_2, ↓st_10_3, ↓st_10_4, ↓st_10_5, ↓st_10_6, ↓st_11_0, ↓st_11_1, ↓st_11_2, ↓st_11_3, ↓st_11_4, ↓st_11_5, ↓st_11_6, ↓st_12_0, ↓st_12_1, ↓st_12_2, ↓st_12_3, ↓st_12_4, ↓st_12_5, ↓st_12_6, ↓st_13_0, ↓st_13_1, ↓st_13_2, ↓st_13_3, ↓st_13_4, ↓st_13_5, ↓st_13_6, ↓st_14_0, ↓st_14_1, ↓st_14_2, ↓st_14_3, ↓st_14_4, ↓st_14_5, ↓st_14_6, ↓st_15_0, ↓st_15_1, ↓st_15_2, ↓st_15_3, ↓st_15_4, ↓st_15_5, ↓st_15_6, ↓st_16_0, ↓st_16_1, ↓st_16_2, ↓st_16_3, ↓st_16_4, ↓st_16_5, ↓st_16_6, ↓xSeq, ↓xNext, ↓yNx, ↓yBk, ↓yCt, ↓yRt, ↓yPx, ↓xBrk, ↓xCnt, ↓xDrop, ↓xRet, ↓xRetN, ↓xIf, ↓xSet, ↓xRaise, ↓xGh, ↓xFrz, ↓xC, ↓xBin, ↓tstA_bl, ↓xTest, ↓xChain, ↓xAnd, ↓xOr, ↓xNot, ↓xIfE, ↓xAndV, ↓xOrV, ↓xNotB, ↓xNotV, ↓negA_int, ↓xNeg, ↓xNil, ↓xCons, ↓xTup, ↓xLst, ↓xLstN, ↓few_nil, ↓xCB, ↓xTru, ↓xSl, ↓xSlN, ↓xNoPart, ↓partA_int, ↓xPart, ↓xRev, ↓xRevN, ↓xFld, ↓xCall, ↓xMeth, ↓xProp, ↓xMake, ↓xOpM, ↓xUnM, ↓xForS, ↓xForR, ↓sigA_str, ↓xForG, ↓enuA_lst, ↓enuA_tup, ↓xForE, ↓xLcS, ↓xLcR, ↓xLcG, ↓xLcE, ↓xWhile, ↓xTryO, ↓xAsgT, ↓xSetIx, ↓xgN, ↓xgT2, ↓xgT3, ↓wipe0, ↓wipe1, ↓wipe2, ↓wipe3, ↓xYes, ↓oI0_ii, ↓oI_ii, ↓oAdd_ii, ↓oAddN_ii, ↓oAddN_tt, ↓oAddN_ss, ↓oAddN_ll, ↓oAddN_rl, ↓oAddN_lr, ↓oAddN_rr, ↓oMulN_ii, ↓oMulN_li, ↓oMulL_ii, ↓newD_eq, ↓oSlN_tup, ↓oSlN_lst, ↓oSlN_ref, ↓oSlN_str, ↓oIx_tup, ↓oIx_lst, ↓oIx_wl, ↓oIx_ref, ↓ixA_0, ↓ixA_1, ↓ixA_2, ↓oEqN_ii, ↓oEqN_ss, ↓oEqN_bb, ↓oEqN_nn, ↓oEqN_ni, ↓oEqN_in, ↓oEqN_si, ↓oEqN_is, ↓oIsN_x, ↓isN_non, ↓isN_int, ↓isN_tup, ↓isN_lst, ↓isN_str, ↓isN_ins, ↓isN_ref, ↓isN_bl, ↓bInt_i, ↓bInt_b, ↓bAbs_i, ↓bMax2_i, ↓bMin2_i, ↓bLen_s, ↓bLen_l, ↓bLen_t, ↓bLen_w, ↓bLen_r, ↓bListN_l, ↓bListN_t, ↓bListN_w, ↓bListN_r, ↓bTuple_t, ↓bTuple_l, ↓bTuple_r, ↓bStr_i, ↓truD_b, ↓truD_n, ↓truD_i, ↓truD_l, ↓truD_t, ↓truD_r, ↓seqI_l, ↓seqI_t, ↓seqI_w, ↓rng1_i, ↓rng2_i, ↓rng3_i, ↓withL_lst, ↓withSq_lst, ↓withSq_tup, ↓withSq_wl, ↓withL_ref, ↓withSq_ref, ↓seqI_ref, ↓isC_ref, ↓newR_eq, ↓newS_e, ↓newL_e, ↓oIn_e, ↓oEqN_tx, ↓oEqN_lx, ↓oEqN_rx, ↓oEqN_xt, ↓oEqN_xl, ↓withL_upd, ↓withSq_upd, ↓seqI_upd, ↓xLm, ↓lmR_upd, ↓lmB_upd, ↓mAppend_e, ↓mReverse_e, ↓mClear_e, ↓mExtend_l, ↓updupd, ↓updsame, ↓isC_self, ↓fldI_0, ↓fldI_1, ↓fldI_2, ↓fldI_3, ↓fldI_4, ↓fldI_5, ↓few_200, ↓few_199, ↓few_198, ↓few_197, ↓few_196, ↓few_195, ↓few_194, ↓few_193, ↓few_192, ↓few_191, ↓few_190, ↓few_189, ↓few_188, ↓few_187, ↓few_186, ↓few_185, ↓few_184, ↓few_183, ↓few_182, ↓few_181, ↓isi_non_int, ↓isi_non_bool, ↓isi_non_str, ↓isi_non_list, ↓isi_non_tuple, ↓isi_bl_int, ↓isi_bl_bool, ↓isi_bl_str, ↓isi_bl_list, ↓isi_bl_tuple, ↓isi_int_int, ↓isi_int_bool, ↓isi_int_str, ↓isi_int_list, ↓isi_int_tuple, ↓isi_str_int, ↓isi_str_bool, ↓isi_str_str, ↓isi_str_list, ↓isi_str_tuple, ↓isi_lst_int, ↓isi_lst_bool, ↓isi_lst_str, ↓isi_lst_list, ↓isi_lst_tuple, ↓isi_tup_int, ↓isi_tup_bool, ↓isi_tup_str, ↓isi_tup_list, ↓isi_tup_tuple, ↓isi_refx, ↓isi_insx, ↓isi_intx, ↓isi_nonx, ↓isi_lstx, ↓isi_tupx, ↓isi_own, ↓xMethD, ↓oEqN_bs, ↓oEqN_sb, ↓oEqN_bn, ↓oEqN_nb, ↓oEqN_ns, ↓oEqN_sn, ↓xDict0, ↓xDict0T, ↓oDin_e, ↓oDget_e, ↓oTin_e, ↓oTget_e, ↓xDput, ↓xTput, ↓dputD_r, ↓tputD_r, ↓xDict1, ↓xDict1T, ↓dict1_i, ↓dict1_s, ↓bListD_e, ↓bMaxL_l, ↓bMinL_l, ↓bSortSet_l, ↓bSortSet_r, ↓enuS_str, ↓xForES, ↓xLcES, ↓oInD_e, ↓oMulT_ti, ↓oMulT_ii, ↓oMulT_li, ↓oMulT_si, ↓oKd_e, ↓bListT_s, ↓bListT_l, ↓bListT_t, ↓bListT_r, ↓bIntT_i, ↓oSin_tx, ↓oSin_e, ↓xSm1, ↓isStrA_s, ↓sSplit_s, ↓sRempre_s, ↓sJoin_l, ↓sJoin_t, ↓sJoin_r, ↓oIx_s, ↓joinA_signs, ↓inA_l, ↓inA_t, ↓oMulA_ti, ↓oMulA_ii, ↓oMulA_li, ↓oSetL_e, ↓xTryA, ↓xFNew, ↓fnewA_upd, ↓ixA_ints, ↓ixA_map, ↓run_nil, ↓run_cons, ↓bAll_map, ↓bAny_map, ↓bSum_map, ne_lr, ne_rl, tx_length, tx_app, tx_one, signs_tx, cutS_tx, List.map_nil, Int.toNat_natCast, rangeD_0, downD_e, enumD_map, cut_map, List.flatten_replicate_singleton, List.length_replicate, Int.reduceLE, Int.reduceLT, Int.reduceToNat, Nat.reduceAdd, Nat.reduceSub, Nat.reduceMul, Nat.reduceLT, Nat.reduceLeDiff, Int.reduceAdd, Int.reduceSub, Int.reduceMul, Int.reduceEq, Nat.reduceEqDiff, cut_take, cut_drop, cut_takeN, cut_dropN, cut_dropS, List.length_map, List.length_append, List.length_cons, List.length_nil, true_implies, forall_const, false_implies, eq_self, Bool.true_eq_false, Bool.false_eq_true, and_true, true_and, implies_true, decide_eq_true_eq, decide_eq_false_iff_not, Bool.false_xor, Bool.true_xor, Bool.not_eq_true', Bool.not_eq_false', Bool.not_true, Bool.not_false, Bool.not_eq_eq_eq_not, not_true_eq_false, not_false_eq_true, decide_true, decide_false, List.append_nil, List.nil_append, List.cons_append, Bool.and_eq_true, reduceIte, if_true, if_false, $xs,*])
local macro_rules | `(tactic| dsimp! [$xs,*]) => `(tactic| ((try simp only [List.length_append, List.length_map, List.length_take, List.length_drop, List.length_range, List.length_cons, List.length_nil, List.length_replicate, List.length_zipIdx, List.length_reverse, List.length_singleton, List.length_set, sizeLine_eq, $xs,*]); omega))
/-- n figures below 60 -/
def figs (n : Nat) (xs : List Nat) : Prop := xs.length = n ∧ ∀ x ∈ xs, x < 60
theorem figs.lt {n : Nat} {xs : List Nat} (f : figs n xs) {i : Nat} (h : i < n) : ∃ d, xs[i]? = some d ∧ d < 60 := by
  have e := List.getElem?_eq_getElem (l := xs) (i := i) (by rw [f.1]; exact h)
  exact ⟨_, e, f.2 _ (List.mem_of_getElem? e)⟩
theorem figs.ix {n : Nat} {xs : List Nat} (f : figs n xs) {m : Nat} (h : m < n) : ∃ d, d < 60 ∧ ∀ (i : Int) {L : Led} {P : PD} {lk : Lk P}, i = (m : Int) → ixA (xs.map fun x => DV.int ((x : Nat) : Int)) i L P lk = P (.int ((d : Nat) : Int)) L := by
  obtain ⟨d, e, l⟩ := f.lt h
  exact ⟨d, l, fun i L P lk z => by rw [z]; exact ixA_map e⟩
def sideS (left : Bool) : Str := if left then "left" else "right"
/-- d is a list with these items, as data or on the ledger -/
def LsD (d : DV) (xs : List DV) (L : Led) : Prop := d = .lst xs ∨ ∃ a, d = .ref a ∧ L a = some (.lst xs)
theorem LsD.sub {d : DV} {xs : List DV} {L L' : Led} (s : Sub L L') (h : LsD d xs L) : LsD d xs L' := by
  rcases h with rfl | ⟨a, rfl, h⟩
  · exact .inl rfl
  · exact .inr ⟨a, rfl, s _ _ h⟩
/-- .. walked while other things change -/
theorem LsD.walk {d : DV} {xs : List DV} {L : Led} (h : LsD d xs L) : ∃ stay : Led → Prop, (∀ L', LsD d xs L' → stay L') ∧ ∀ P : List DV → (Led → Prop) → Led → Prop, seqI d L P = P xs stay L := by
  rcases h with rfl | ⟨a, rfl, h⟩
  · exact ⟨fun _ => True, fun _ _ => trivial, fun P => rfl⟩
  · refine ⟨fun L' => L' a = some (.lst xs), fun L' s => ?_, fun P => by rw [seqI_ref, seqI_of h]⟩
    rcases s with s | ⟨b, e, s⟩
    · cases s
    · cases e; exact s
theorem LsD.list {nw : NW} {d : DV} {xs : List DV} {L : Led} {P : PD} (h : LsD d xs L) : bListN nw [d] L P = nw xs L P := by
  rcases h with rfl | ⟨a, rfl, h⟩
  · rfl
  · rw [bListN_r, withL_ref, withL_of h]
theorem LsD.walkX {d : DV} {xs : List DV} {L : Led} (h : LsD d xs L) : ∃ stay : Led → Prop, (∀ L', LsD d xs L' → stay L') ∧ stay L ∧ ∀ P : List DV → (Led → Prop) → Led → Prop, seqI d L P = P xs stay L := by
  obtain ⟨s, h1, h2⟩ := h.walk
  exact ⟨s, h1, h1 _ h, h2⟩
theorem LsD.add {d1 d2 : DV} {xs ys : List DV} {nw : NW} {L : Led} {P : PD} (h1 : LsD d1 xs L) (h2 : LsD d2 ys L) : oAddN nw d1 d2 L P = (xs.length + ys.length ≤ sizeLine ∧ nw (xs ++ ys) L P) := by
  rcases h1 with rfl | ⟨a, rfl, h1⟩ <;> rcases h2 with rfl | ⟨b, rfl, h2⟩
  · rfl
  · rw [oAddN_lr, withL_ref, withL_of h2]
  · rw [oAddN_rl, withL_ref, withL_of h1]
  · rw [oAddN_rr, withL_ref, withL_of h1, withL_ref, withL_of h2]
theorem LsD.sors {d : DV} {xs : List DV} {nw : NW} {L : Led} {P : PD} (h : LsD d xs L) : bSortSet nw [d] L P = sorsA nw xs L P .mk := by
  rcases h with rfl | ⟨a, rfl, h⟩
  · rfl
  · rw [bSortSet_r, withL_ref, withL_of h]
theorem LsD.len {d : DV} {xs : List DV} {L : Led} {P : PD} (h : LsD d xs L) : bLen [d] L P = P (.int (xs.length : Nat)) L := by
  rcases h with rfl | ⟨a, rfl, h⟩
  · rfl
  · rw [bLen_r, withL_ref, withL_of h]
theorem LsD.isi {K : PySem.W.Frag} {d : DV} {xs : List DV} {L : Led} (h : LsD d xs L) (P : PD) : bIsi K [d, .ty "list"] L P = P (.bl true) L := by
  rcases h with rfl | ⟨a, rfl, h⟩
  · exact isi_lst_list
  · rw [isi_refx, isi_r_list h]
theorem newL_under {k : Kx} {ds : List DV} {L L2 : Led} {P : PD} (s : Sub L L2) (h : newL ds L P) : newL ds L2 (fun d L' => FrzP k d L' P) := by
  rcases h with h | h
  · exact .inl fun b hb => ⟨_, _, FrzD.sub (fun x m e => by
      by_cases q : x = b
      · subst q; rw [updL_same] at e ⊢; exact e
      · rw [updL_ne q] at e ⊢; exact s _ _ e), h b (s.none hb)⟩
  · exact .inr ⟨_, _, FrzD.sub s, h⟩
theorem LsD.tru {d : DV} {xs : List DV} {L : Led} {q : Bool → Prop} (h : LsD d xs L) : truD d L q = q (!xs.isEmpty) := by
  rcases h with rfl | ⟨a, rfl, h⟩
  · rfl
  · rw [truD_r, withL_ref, withL_of h]
theorem LsD.ix {d : DV} {xs : List DV} {L : Led} {i : Int} {P : PD} (h : LsD d xs L) : oIx d (.int i) L P = ixA xs i L P .mk := by
  rcases h with rfl | ⟨a, rfl, h⟩
  · rfl
  · rw [oIx_ref, withL_ref, withL_of h]
/-- is it an int and no bool -/
def isIntD : DV → Bool
  | .int _ => true
  | _ => false
theorem isIntD_of {d : DV} (h : isIntD d = true) : ∃ i, d = .int i := by
  cases d <;> first | exact ⟨_, rfl⟩ | cases h
theorem told.get {d : DV} {L : Led} {q : Prop} (h : told d L q) : q := by
  cases d <;> first | exact h | exact h.2 | exact h.elim
/-- the plain form -/
def red : Nat → Int → Int × Nat
  | 0, t => (t, 0)
  | p + 1, t => if t % 2 = 0 then red p (t / 2) else (t, p + 1)
theorem red_stop {t : Int} : ∀ {p : Nat}, p = 0 ∨ t % 2 ≠ 0 → red p t = (t, p)
  | 0, _ => rfl
  | p + 1, h => by
    rcases h with h | h
    · cases h
    · show (if t % 2 = 0 then red p (t / 2) else (t, p + 1)) = _
      rw [if_neg h]
theorem red_go {t : Int} {p : Nat} (h0 : 0 < p) (h : t % 2 = 0) : red p t = red (p - 1) (t / 2) := by
  obtain ⟨n, rfl⟩ : ∃ n, p = n + 1 := ⟨p - 1, by omega⟩
  show (if t % 2 = 0 then red n (t / 2) else (t, n + 1)) = _
  rw [if_pos h]; rfl
/-- what red leaves is plain -/
theorem red_plain : ∀ (p : Nat) (t : Int), (red p t).2 = 0 ∨ (red p t).1 % 2 ≠ 0
  | 0, t => .inl rfl
  | p + 1, t => by
    show (if t % 2 = 0 then red p (t / 2) else (t, p + 1)).2 = 0 ∨ (if t % 2 = 0 then red p (t / 2) else (t, p + 1)).1 % 2 ≠ 0
    by_cases h : t % 2 = 0
    · rw [if_pos h]; exact red_plain p (t / 2)
    · rw [if_neg h]; exact .inr h
/-- .. of the same worth, no higher -/
theorem red_val : ∀ (p : Nat) (t : Int), (red p t).2 ≤ p ∧ (red p t).1 * 2 ^ (p - (red p t).2) = t
  | 0, t => ⟨Nat.le_refl _, by show t * 2 ^ (0 - 0) = t; simp⟩
  | p + 1, t => by
    show (if t % 2 = 0 then red p (t / 2) else (t, p + 1)).2 ≤ p + 1 ∧ (if t % 2 = 0 then red p (t / 2) else (t, p + 1)).1 * 2 ^ (p + 1 - (if t % 2 = 0 then red p (t / 2) else (t, p + 1)).2) = t
    by_cases h : t % 2 = 0
    · rw [if_pos h]
      obtain ⟨h1, h2⟩ := red_val p (t / 2)
      refine ⟨Nat.le_succ_of_le h1, ?_⟩
      rw [show p + 1 - (red p (t / 2)).2 = (p - (red p (t / 2)).2) + 1 by omega, Int.pow_succ, ← Int.mul_assoc, h2]
      omega
    · rw [if_neg h]
      exact ⟨Nat.le_refl _, by simp⟩
theorem red_idem (p : Nat) (t : Int) : red (red p t).2 (red p t).1 = red p t := red_stop (red_plain p t)
theorem iabs (i : Int) : (if i < 0 then -i else i) = (i.natAbs : Int) := by split <;> omega
abbrev ksDy : List Str := ["_top", "_power"]
/-- a dyadic as data -/
def dy (G : Gx) (t : Int) (p : Nat) : DV := .ins G.Dyadic ksDy [.int t, .int p]
/-- the age of a plain form -/
def ageF (t : Int) (p : Nat) : Int := if p = 0 then (t.natAbs : Int) else (t.natAbs : Int) / 2 ^ p + p + 1
theorem natAbs_half (t : Int) : (t / 2).natAbs ≤ t.natAbs := by omega
theorem red_abs : ∀ (p : Nat) (t : Int), (red p t).1.natAbs ≤ t.natAbs
  | 0, t => Nat.le_refl _
  | p + 1, t => by
    show (if t % 2 = 0 then red p (t / 2) else (t, p + 1)).1.natAbs ≤ _
    by_cases h : t % 2 = 0
    · rw [if_pos h]; exact Nat.le_trans (red_abs p (t / 2)) (natAbs_half t)
    · rw [if_neg h]; exact Nat.le_refl _
theorem pow2_pos (n : Nat) : (0 : Int) < 2 ^ n := Int.pow_pos (by decide)
theorem one_pow2 (n : Nat) : (1 : Int) * 2 ^ n = 2 ^ n := Int.one_mul _
theorem cpow1 {n : Nat} (h : n ≤ 1000000) : CPow 1 (n : Int) := ⟨Int.natCast_nonneg n, by omega, by decide⟩
theorem cdiv_small {i j : Int} (h : 0 < j) (hj : j.natAbs < 2 ^ 64) : CDivW i j := ⟨h, Nat.lt_of_lt_of_le ((Nat.log2_lt (by omega)).mpr hj) (by decide)⟩
theorem cdiv_pow2 {i : Int} {n : Nat} (h : n < 9000) : CDivW i (2 ^ n) := ⟨pow2_pos n, by rw [Int.natAbs_pow]; show (2 ^ n).log2 < 9000; rw [Nat.log2_two_pow]; exact h⟩
/-- two numbers over one denominator, as written and in plain form -/
theorem red_cross (p p2 : Nat) (t t2 : Int) : ∃ S : Int, 0 < S ∧ t * 2 ^ p2 = (red p t).1 * 2 ^ (red p2 t2).2 * S ∧ t2 * 2 ^ p = (red p2 t2).1 * 2 ^ (red p t).2 * S := by
  obtain ⟨h1, h2⟩ := red_val p t
  obtain ⟨h3, h4⟩ := red_val p2 t2
  refine ⟨2 ^ (p - (red p t).2) * 2 ^ (p2 - (red p2 t2).2), Int.mul_pos (pow2_pos _) (pow2_pos _), ?_, ?_⟩
  · have e : (2 : Int) ^ p2 = 2 ^ (red p2 t2).2 * 2 ^ (p2 - (red p2 t2).2) := by rw [← Int.pow_add]; congr 1; omega
    conv => lhs; rw [← h2, e]
    ac_rfl
  · have e : (2 : Int) ^ p = 2 ^ (red p t).2 * 2 ^ (p - (red p t).2) := by rw [← Int.pow_add]; congr 1; omega
    conv => lhs; rw [← h4, e]
    ac_rfl
theorem red_lt (p p2 : Nat) (t t2 : Int) : (red p t).1 * 2 ^ (red p2 t2).2 < (red p2 t2).1 * 2 ^ (red p t).2 ↔ t * 2 ^ p2 < t2 * 2 ^ p := by
  obtain ⟨S, h0, h1, h2⟩ := red_cross p p2 t t2
  rw [h1, h2]
  exact ⟨fun h => Int.mul_lt_mul_of_pos_right h h0, fun h => Int.lt_of_mul_lt_mul_right h (Int.le_of_lt h0)⟩
theorem plain_eq {a a2 : Int} : ∀ {b b2 : Nat}, (b = 0 ∨ a % 2 ≠ 0) → (b2 = 0 ∨ a2 % 2 ≠ 0) → a * 2 ^ b2 = a2 * 2 ^ b → a = a2 ∧ b = b2
  | 0, 0, _, _, e => by simpa using e
  | 0, n + 1, _, h2, e => by
    rw [Int.pow_succ, Int.pow_zero, Int.mul_one, ← Int.mul_assoc] at e
    omega
  | n + 1, 0, h1, _, e => by
    rw [Int.pow_succ, Int.pow_zero, Int.mul_one, ← Int.mul_assoc] at e
    omega
  | n + 1, m + 1, h1, h2, e => by
    rw [Int.pow_succ, Int.pow_succ, ← Int.mul_assoc, ← Int.mul_assoc] at e
    have := plain_eq (b := n) (b2 := m) (.inr (by omega)) (.inr (by omega)) (Int.eq_of_mul_eq_mul_right (by decide) e)
    exact ⟨this.1, congrArg Nat.succ this.2⟩
theorem red_eq (p p2 : Nat) (t t2 : Int) : ((red p t).1 = (red p2 t2).1 ∧ (red p t).2 = (red p2 t2).2) ↔ t * 2 ^ p2 = t2 * 2 ^ p := by
  obtain ⟨S, h0, h1, h2⟩ := red_cross p p2 t t2
  rw [h1, h2]
  constructor
  · rintro ⟨e1, e2⟩
    rw [e1, e2]
  · intro h
    exact plain_eq (red_plain p t) (red_plain p2 t2) (Int.eq_of_mul_eq_mul_right (Int.ne_of_gt h0) h)
/-- what isinstance(d, list) tells, and the items -/
def kindL (d : DV) (L : Led) (q : Option (List DV) → Prop) : Prop := match d with
  | .non => q none
  | .bl _ => q none
  | .int _ => q none
  | .str _ => q none
  | .tup _ => q none
  | .lst xs => q (some xs)
  | .ref a => (∃ xs, L a = some (.lst xs) ∧ q (some xs)) ∨ ∃ kvs, L a = some (.dK kvs) ∧ q none
  | _ => False
theorem kindL.imp {d : DV} {L L' : Led} {p q : Option (List DV) → Prop} (s : Sub L L') (i : ∀ o, p o → q o) (h : kindL d L p) : kindL d L' q := by
  cases d <;> first | exact i _ h | exact h.elim | skip
  rcases h with ⟨xs, e, h⟩ | ⟨kvs, e, h⟩
  · exact .inl ⟨xs, s _ _ e, i _ h⟩
  · exact .inr ⟨kvs, s _ _ e, i _ h⟩
def withinD (d : DV) (lo hi : Int) : Bool := match d with
  | .int i => decide (lo ≤ i ∧ i ≤ hi)
  | _ => false
/-- the ints of a list that holds nothing but ints between lo and hi -/
def intsIn (lo hi : Int) : List DV → Option (List Int)
  | [] => some []
  | .int i :: r => if lo ≤ i ∧ i ≤ hi then (intsIn lo hi r).map (i :: ·) else none
  | _ :: _ => none
theorem intsIn_all {lo hi : Int} : ∀ {xs : List DV} {ns : List Int}, intsIn lo hi xs = some ns → xs = ns.map DV.int ∧ ∀ n ∈ ns, lo ≤ n ∧ n ≤ hi
  | [], ns, h => by cases h; exact ⟨rfl, fun n h => by cases h⟩
  | .int i :: r, ns, h => by
    unfold intsIn at h
    split at h
    · rename_i hi'
      cases e : intsIn lo hi r with
      | none => rw [e] at h; cases h
      | some ms =>
        rw [e] at h
        cases h
        obtain ⟨e1, e2⟩ := intsIn_all e
        refine ⟨by rw [e1]; rfl, fun n hn => ?_⟩
        rcases List.mem_cons.mp hn with rfl | hn
        · exact hi'
        · exact e2 n hn
    · cases h
  | .non :: _, _, h => by cases h
  | .bl _ :: _, _, h => by cases h
  | .str _ :: _, _, h => by cases h
  | .ty _ :: _, _, h => by cases h
  | .ref _ :: _, _, h => by cases h
  | .lst _ :: _, _, h => by cases h
  | .tup _ :: _, _, h => by cases h
  | .ins _ _ _ :: _, _, h => by cases h
  | .wl _ :: _, _, h => by cases h
theorem intsIn_some {lo hi : Int} {xs : List DV} : (intsIn lo hi xs).isSome = xs.all fun d => withinD d lo hi := by
  induction xs with
  | nil => rfl
  | cons d r ih =>
    rw [List.all_cons]
    cases d <;> try rfl
    rename_i i
    show (if lo ≤ i ∧ i ≤ hi then (intsIn lo hi r).map (i :: ·) else none).isSome = (decide (lo ≤ i ∧ i ≤ hi) && _)
    by_cases h : lo ≤ i ∧ i ≤ hi
    · rw [if_pos h, decide_eq_true h, Option.isSome_map, ih, Bool.true_and]
    · rw [if_neg h, decide_eq_false h]; rfl
theorem intsIn_ints {lo hi : Int} : ∀ {ns : List Int}, (∀ n ∈ ns, lo ≤ n ∧ n ≤ hi) → intsIn lo hi (ns.map DV.int) = some ns
  | [], _ => rfl
  | n :: r, h => by
    show (if lo ≤ n ∧ n ≤ hi then (intsIn lo hi (r.map DV.int)).map (n :: ·) else none) = _
    rw [if_pos (h n (List.mem_cons_self ..)), intsIn_ints fun m hm => h m (List.mem_cons_of_mem _ hm)]
    rfl
/-- d is a list with these items, as data or on the ledger -/
structure IsL (K : PySem.W.Frag) (d : DV) (xs : List DV) (L : Led) : Prop where
  len : ∀ P : PD, bLen [d] L P = P (.int (xs.length : Nat)) L
  tup : ∀ P : PD, bTuple [d] L P = P (.tup xs) L
  isi : ∀ P : PD, bIsi K [d, .ty "list"] L P = P (.bl true) L
  enu : ∃ stay : Led → Prop, stay L ∧ ∀ (P : List DV → (Led → Prop) → Led → Prop) (lk : Lk P), enuA [d] L P lk = P (enumD xs) stay L
  seq : ∃ stay : Led → Prop, stay L ∧ ∀ P : List DV → (Led → Prop) → Led → Prop, seqI d L P = P xs stay L
  ix : ∀ (i : Int) (P : PD), oIx d (.int i) L P = ixA xs i L P .mk
theorem IsL.lst {K : PySem.W.Frag} {xs : List DV} {L : Led} : IsL K (.lst xs) xs L :=
  ⟨fun _ => rfl, fun _ => rfl, fun _ => isi_lst_list, ⟨_, trivial, fun _ _ => rfl⟩, ⟨_, trivial, fun _ => rfl⟩, fun _ _ => rfl⟩
theorem IsL.ref {K : PySem.W.Frag} {a : Addr} {xs : List DV} {L : Led} (h : L a = some (.lst xs)) : IsL K (.ref a) xs L :=
  ⟨fun P => by rw [bLen_r, withL_ref, withL_of h], fun P => by rw [bTuple_r, withL_ref, withL_of h], fun P => by rw [isi_refx, isi_r_list h], ⟨_, h, fun P lk => enuA_of h⟩, ⟨_, h, fun P => by rw [seqI_ref, seqI_of h]⟩, fun i P => by rw [oIx_ref, withL_ref, withL_of h]⟩
theorem kindL.cases {K : PySem.W.Frag} {d : DV} {L : Led} {q : Option (List DV) → Prop} (h : kindL d L q) : (∃ xs, IsL K d xs L ∧ q (some xs)) ∨ ((∀ P : PD, bIsi K [d, .ty "list"] L P = P (.bl false) L) ∧ q none) := by
  cases d <;> try exact h.elim
  case lst xs => exact .inl ⟨xs, .lst, h⟩
  case ref a =>
    rcases h with ⟨xs, e, h⟩ | ⟨kvs, e, h⟩
    · exact .inl ⟨xs, .ref e, h⟩
    · exact .inr ⟨fun P => by rw [isi_refx, isi_d_list e], h⟩
  case non => exact .inr ⟨fun P => isi_non_list, h⟩
  case bl => exact .inr ⟨fun P => isi_bl_list, h⟩
  case int => exact .inr ⟨fun P => isi_int_list, h⟩
  case str => exact .inr ⟨fun P => isi_str_list, h⟩
  case tup => exact .inr ⟨fun P => isi_tup_list, h⟩
/-- a new list is answered -/
theorem newL_fin {k : Kx} {ds : List DV} {L L0 : Led} {a : Addr} {P : PD} {lk : Lk P} (h : newL ds L P) (ha : L a = none) (hs : Sub L L0) (h0 : L0 a = none) : frzA k (.ref a) (updL L0 a (.lst ds)) P lk := by
  rcases h with h | h
  · exact ⟨_, _, FrzD.sub (L2 := updL L a (.lst ds)) (fun x m e => by
      by_cases q : x = a
      · subst q; rw [updL_same] at e ⊢; exact e
      · rw [updL_ne q] at e ⊢; exact hs _ _ e), h a ha⟩
  · exact ⟨_, _, (FrzD.lst updL_same).trans (FrzD.sub (L2 := L) (by rw [delL_updL h0]; exact hs)), h⟩
/-- a dyadic within the bounds, or BadValue -/
def dyOr (G : Gx) (r : Int × Nat) (L : Led) (P : PD) (R : Addr → Led → Prop) : Prop := if -10 ^ 12 ≤ r.1 ∧ r.1 ≤ 10 ^ 12 ∧ r.2 ≤ 40 then P (dy G (red r.2 r.1).1 (red r.2 r.1).2) L else R G.BadValue L
theorem dyOr.mk {G : Gx} {r : Int × Nat} {L : Led} {P : PD} {R : Addr → Led → Prop} (h : -10 ^ 12 ≤ r.1 ∧ r.1 ≤ 10 ^ 12 ∧ r.2 ≤ 40) (q : P (dy G (red r.2 r.1).1 (red r.2 r.1).2) L) : dyOr G r L P R := by
  unfold dyOr; rw [if_pos h]; exact q
theorem dyOr.bad {G : Gx} {r : Int × Nat} {L : Led} {P : PD} {R : Addr → Led → Prop} (h : ¬ (-10 ^ 12 ≤ r.1 ∧ r.1 ≤ 10 ^ 12 ∧ r.2 ≤ 40)) (q : R G.BadValue L) : dyOr G r L P R := by
  unfold dyOr; rw [if_neg h]; exact q
/-- what the program's numbers keep -/
def dyIn (t p : Int) : Prop := (-10 ^ 12 ≤ t ∧ t ≤ 10 ^ 12 ∧ 0 ≤ p ∧ p ≤ 40) ∧ (p.toNat = 0 ∨ t % 2 ≠ 0)
theorem dyIn.of {t : Int} {p : Nat} (h : -10 ^ 12 ≤ t ∧ t ≤ 10 ^ 12 ∧ p ≤ 40) : dyIn (red p t).1 (red p t).2 := by
  have q1 := red_abs p t
  have q2 := (red_val p t).1
  have q3 := red_plain p t
  refine ⟨⟨by omega, by omega, by omega, by omega⟩, ?_⟩
  rw [Int.toNat_natCast]
  exact q3
/-- the sum's plain form -/
def sumT (t : Int) (p : Nat) (t2 : Int) (p2 : Nat) : Int × Nat := red (max p p2) (t * 2 ^ (max p p2 - p) + t2 * 2 ^ (max p p2 - p2))
theorem red_same {p p2 : Nat} {t t2 : Int} (h : t * 2 ^ p2 = t2 * 2 ^ p) : red p t = red p2 t2 := by
  have := (red_eq p p2 t t2).mpr h
  exact Prod.ext this.1 this.2
theorem pow_go {a b c : Nat} (h1 : a ≤ b) (h2 : b ≤ c) : (2 : Int) ^ (b - a) * 2 ^ (c - b) = 2 ^ (c - a) := by
  rw [← Int.pow_add]; congr 1; omega
theorem redV {p : Nat} {t : Int} (h : p ≤ 40) : red 40 (t * 2 ^ (40 - p)) = red p t := by
  apply red_same
  rw [Int.mul_assoc, ← Int.pow_add]
  congr 2; omega
theorem redV2 {p : Nat} {t : Int} (h : p ≤ 40) : (red p t).1 * 2 ^ (40 - (red p t).2) = t * 2 ^ (40 - p) := by
  obtain ⟨h1, h2⟩ := red_val p t
  conv => rhs; rw [← h2]
  rw [Int.mul_assoc, pow_go h1 h]
theorem sumV {t t2 : Int} {p p2 : Nat} (h : p ≤ 40) (h2 : p2 ≤ 40) : sumT t p t2 p2 = red 40 (t * 2 ^ (40 - p) + t2 * 2 ^ (40 - p2)) := by
  unfold sumT
  rw [← redV (p := max p p2) (by omega), Int.add_mul, Int.mul_assoc, Int.mul_assoc, pow_go (by omega) (by omega), pow_go (by omega) (by omega)]
theorem red_neg : ∀ (p : Nat) (t : Int), red p (-t) = (-(red p t).1, (red p t).2)
  | 0, t => rfl
  | p + 1, t => by
    show (if -t % 2 = 0 then red p (-t / 2) else (-t, p + 1)) = (-(if t % 2 = 0 then red p (t / 2) else (t, p + 1)).1, (if t % 2 = 0 then red p (t / 2) else (t, p + 1)).2)
    by_cases h : t % 2 = 0
    · rw [if_pos h, if_pos (by omega), show -t / 2 = -(t / 2) by omega]
      exact red_neg p (t / 2)
    · rw [if_neg h, if_neg (by omega)]
theorem sumT_plain (t : Int) (p : Nat) (t2 : Int) (p2 : Nat) : (sumT t p t2 p2).2 = 0 ∨ (sumT t p t2 p2).1 % 2 ≠ 0 := red_plain _ _
theorem sumT_pow (t : Int) (p : Nat) (t2 : Int) (p2 : Nat) : (sumT t p t2 p2).2 ≤ max p p2 := (red_val _ _).1
theorem red_self {r : Int × Nat} (h : r.2 = 0 ∨ r.1 % 2 ≠ 0) : red r.2 r.1 = r := red_stop h
theorem red_half {p : Nat} {t : Int} : red ((red p t).2 + 1) (red p t).1 = red (p + 1) t := by
  apply red_same
  obtain ⟨h1, h2⟩ := red_val p t
  conv => rhs; lhs; rw [← h2]
  rw [Int.mul_assoc, ← Int.pow_add]
  congr 2; omega
/-- the walk of a number's days: k days on, here stands between lo and hi -/
inductive WS (t : Int) (p : Nat) : Nat → Int → DV → DV → Prop
  | up (k : Nat) (lo : DV) (h : 0 ≤ t) (hk : k = 0 ∨ (lo = .int ((k : Int) * 2 ^ 40 - 2 ^ 40) ∧ (k : Int) * 2 ^ 40 - 2 ^ 40 < t * 2 ^ (40 - p))) : WS t p k ((k : Int) * 2 ^ 40) lo .non
  | dn (k : Nat) (hi : DV) (h : t < 0) (hk : k = 0 ∨ (hi = .int (2 ^ 40 - (k : Int) * 2 ^ 40) ∧ t * 2 ^ (40 - p) < 2 ^ 40 - (k : Int) * 2 ^ 40)) : WS t p k (-((k : Int) * 2 ^ 40)) .non hi
  | mid (k j : Nat) (m A : Int) (h1 : 1 ≤ j) (h2 : j ≤ p) (hk : k = t.natAbs / 2 ^ p + 1 + j) (hA : A = m * 2 ^ (40 - j)) (l : A - 2 ^ (40 - j) < t * 2 ^ (40 - p)) (r : t * 2 ^ (40 - p) < A + 2 ^ (40 - j)) : WS t p k A (.int (A - 2 ^ (40 - j))) (.int (A + 2 ^ (40 - j)))
theorem pow_split {j p : Nat} (h1 : j ≤ p) (h : p ≤ 40) : (2 : Int) ^ (40 - j) = 2 ^ (p - j) * 2 ^ (40 - p) := by
  rw [← Int.pow_add]; congr 1; omega
theorem pow_half {j : Nat} (h : j < 40) : (2 : Int) ^ (40 - j) = 2 * 2 ^ (40 - (j + 1)) := by
  rw [show 40 - j = (40 - (j + 1)) + 1 by omega, Int.pow_succ, Int.mul_comm]
theorem pow_all {p : Nat} (h : p ≤ 40) : (2 : Int) ^ 40 = 2 ^ p * 2 ^ (40 - p) := pow_split (j := 0) (Nat.zero_le p) h
theorem div_is {a k : Nat} {b : Nat} (h1 : k * b ≤ a) (h2 : a < k * b + b) : a / b = k := by
  have hb : 0 < b := by omega
  apply Nat.div_eq_of_lt_le h1
  rw [Nat.succ_mul]; exact h2
section
variable {t : Int} {p k : Nat} {here : Int} {lo hi : DV}
theorem even_no {m : Int} {j : Nat} (hp : p = 0 ∨ t % 2 ≠ 0) (hj : j < p) (h4 : p ≤ 40) (e : m * 2 ^ (40 - j) = t * 2 ^ (40 - p)) : False := by
  have e2 : m * 2 ^ (p - j) = t := by
    rw [pow_split (Nat.le_of_lt hj) h4, ← Int.mul_assoc] at e
    exact Int.eq_of_mul_eq_mul_right (Int.ne_of_gt (pow2_pos _)) e
  rcases hp with hp | hp
  · omega
  · apply hp
    rw [← e2, show p - j = (p - j - 1) + 1 by omega, Int.pow_succ, ← Int.mul_assoc]
    omega
theorem n_of {a : Nat} {g : Int} (h4 : p ≤ 40) (e : g = (a : Int) * 2 ^ (40 - p)) {k : Nat} (h1 : (k : Int) * 2 ^ 40 < g) (h2 : g < (k : Int) * 2 ^ 40 + 2 ^ 40) : a / 2 ^ p = k ∧ 0 < p := by
  rw [pow_all h4, ← Int.mul_assoc, e] at h1
  rw [pow_all h4, ← Int.mul_assoc, e, ← Int.add_mul] at h2
  have z1 := Int.lt_of_mul_lt_mul_right h1 (Int.le_of_lt (pow2_pos _))
  have z2 := Int.lt_of_mul_lt_mul_right h2 (Int.le_of_lt (pow2_pos _))
  have c : ((2 ^ p : Nat) : Int) = 2 ^ p := by push_cast; rfl
  have z3 : k * 2 ^ p < a := by
    have : ((k * 2 ^ p : Nat) : Int) < a := by push_cast; exact z1
    exact Int.ofNat_lt.mp this
  have z4 : a < k * 2 ^ p + 2 ^ p := by
    have : (a : Int) < ((k * 2 ^ p + 2 ^ p : Nat) : Int) := by push_cast; exact z2
    exact Int.ofNat_lt.mp this
  refine ⟨div_is (Nat.le_of_lt z3) z4, ?_⟩
  rcases Nat.eq_zero_or_pos p with z | z
  · subst z; rw [Nat.pow_zero] at z3 z4; omega
  · exact z
theorem WS.first : WS t p 0 0 .non .non := by
  by_cases h : 0 ≤ t
  · have := WS.up (t := t) (p := p) 0 .non h (.inl rfl)
    simpa using this
  · have := WS.dn (t := t) (p := p) 0 .non (by omega) (.inl rfl)
    simpa using this
theorem WS.met (w : WS t p k here lo hi) (h4 : p ≤ 40) (hp : p = 0 ∨ t % 2 ≠ 0) (e : here = t * 2 ^ (40 - p)) : (k : Int) = ageF t p := by
  unfold ageF
  cases w with
  | up lo h hk =>
    by_cases z : p = 0
    · subst z
      rw [if_pos rfl]
      have := Int.eq_of_mul_eq_mul_right (by decide) e
      omega
    · exact (even_no (j := 0) hp (by omega) h4 e).elim
  | dn hi h hk =>
    rw [← Int.neg_mul] at e
    by_cases z : p = 0
    · subst z
      rw [if_pos rfl]
      have := Int.eq_of_mul_eq_mul_right (by decide) e
      omega
    · exact (even_no (j := 0) hp (by omega) h4 e).elim
  | mid j m A h1 h2 hk hA l r =>
    by_cases z : j = p
    · subst z
      rw [if_neg (by omega), hk]
      push_cast
      omega
    · rw [hA] at e
      exact (even_no hp (by omega) h4 e).elim
theorem mid_p {m A : Int} {j : Nat} (hA : A = m * 2 ^ (40 - j)) (l : A - 2 ^ (40 - j) < t * 2 ^ (40 - j)) (r : t * 2 ^ (40 - j) < A + 2 ^ (40 - j)) : A = t * 2 ^ (40 - j) := by
  rw [hA] at l r ⊢
  have l2 : (m - 1) * 2 ^ (40 - j) < t * 2 ^ (40 - j) := by rw [Int.sub_mul, Int.one_mul]; exact l
  have r2 : t * 2 ^ (40 - j) < (m + 1) * 2 ^ (40 - j) := by rw [Int.add_mul, Int.one_mul]; exact r
  have z1 := Int.lt_of_mul_lt_mul_right l2 (Int.le_of_lt (pow2_pos _))
  have z2 := Int.lt_of_mul_lt_mul_right r2 (Int.le_of_lt (pow2_pos _))
  rw [show m = t by omega]
/-- goal ahead -/
theorem WS.more (w : WS t p k here lo hi) (h4 : p ≤ 40) (e : here < t * 2 ^ (40 - p)) : (hi = .non ∧ WS t p (k + 1) (here + 2 ^ 40) (.int here) .non) ∨ ∃ i, hi = .int i ∧ WS t p (k + 1) ((here + i) / 2) (.int here) (.int i) := by
  cases w with
  | up lo h hk =>
    refine .inl ⟨rfl, ?_⟩
    have := WS.up (t := t) (p := p) (k + 1) (.int ((k : Int) * 2 ^ 40)) h (.inr ⟨?_, ?_⟩)
    · rw [show ((k + 1 : Nat) : Int) * 2 ^ 40 = (k : Int) * 2 ^ 40 + 2 ^ 40 by omega] at this
      exact this
    · exact congrArg DV.int (by omega)
    · omega
  | dn hi h hk =>
    rcases hk with hk | ⟨rfl, hk⟩
    · subst hk
      have : t * 2 ^ (40 - p) < 0 := Int.mul_neg_of_neg_of_pos h (pow2_pos _)
      omega
    refine .inr ⟨_, rfl, ?_⟩
    have hk0 : 0 < k := by
      rcases Nat.eq_zero_or_pos k with z | z
      · subst z
        have : t * 2 ^ (40 - p) < 0 := Int.mul_neg_of_neg_of_pos h (pow2_pos _)
        omega
      · exact z
    obtain ⟨n, rfl⟩ : ∃ n, k = n + 1 := ⟨k - 1, by omega⟩
    have en : ((n + 1 : Nat) : Int) * 2 ^ 40 = (n : Int) * 2 ^ 40 + 2 ^ 40 := by omega
    rw [en] at e hk ⊢
    have eg : -(t * 2 ^ (40 - p)) = (t.natAbs : Int) * 2 ^ (40 - p) := by rw [← Int.neg_mul]; congr 1; omega
    obtain ⟨e1, e2⟩ := n_of h4 eg (k := n) (by omega) (by omega)
    have := WS.mid (t := t) (p := p) (n + 1 + 1) 1 (-(2 * (n : Int) + 1)) (-(n : Int) * 2 ^ 40 - 2 ^ 39) (by omega) (by omega) (by rw [e1]) (by show _ = _ * 2 ^ 39; omega) (by show _ - 2 ^ 39 < _; omega) (by show _ < _ + 2 ^ 39; omega)
    have a1 : (-((n : Int) * 2 ^ 40 + 2 ^ 40) + (2 ^ 40 - ((n : Int) * 2 ^ 40 + 2 ^ 40))) / 2 = -(n : Int) * 2 ^ 40 - 2 ^ 39 := by omega
    have a2 : -((n : Int) * 2 ^ 40 + 2 ^ 40) = -(n : Int) * 2 ^ 40 - 2 ^ 39 - 2 ^ (40 - 1) := by show _ = _ - (2 : Int) ^ 39; omega
    have a3 : (2 : Int) ^ 40 - ((n : Int) * 2 ^ 40 + 2 ^ 40) = -(n : Int) * 2 ^ 40 - 2 ^ 39 + 2 ^ (40 - 1) := by show _ = _ + (2 : Int) ^ 39; omega
    rw [a1, a2, a3]
    exact this
  | mid j m A h1 h2 hk hA l r =>
    refine .inr ⟨_, rfl, ?_⟩
    have hj : j < p := by
      rcases Nat.lt_or_eq_of_le h2 with z | z
      · exact z
      · subst z
        have := mid_p hA l r
        omega
    have ph := pow_half (j := j) (by omega)
    have := WS.mid (t := t) (p := p) (k + 1) (j + 1) (2 * m + 1) (here + 2 ^ (40 - (j + 1))) (by omega) (by omega) (by omega) (by rw [hA, ph, Int.add_mul, Int.one_mul, Int.mul_left_comm, Int.mul_assoc]) (by omega) (by omega)
    rw [show (here + (here + 2 ^ (40 - j))) / 2 = here + 2 ^ (40 - (j + 1)) by omega]
    rw [show here + 2 ^ (40 - (j + 1)) - 2 ^ (40 - (j + 1)) = here by omega, show here + 2 ^ (40 - (j + 1)) + 2 ^ (40 - (j + 1)) = here + 2 ^ (40 - j) by omega] at this
    exact this
/-- goal behind -/
theorem WS.less (w : WS t p k here lo hi) (h4 : p ≤ 40) (e : t * 2 ^ (40 - p) < here) : (lo = .non ∧ WS t p (k + 1) (here - 2 ^ 40) .non (.int here)) ∨ ∃ i, lo = .int i ∧ WS t p (k + 1) ((here + i) / 2) (.int i) (.int here) := by
  cases w with
  | dn hi h hk =>
    refine .inl ⟨rfl, ?_⟩
    have := WS.dn (t := t) (p := p) (k + 1) (.int (-((k : Int) * 2 ^ 40))) h (.inr ⟨?_, ?_⟩)
    · rw [show -(((k + 1 : Nat) : Int) * 2 ^ 40) = -((k : Int) * 2 ^ 40) - 2 ^ 40 by omega] at this
      exact this
    · exact congrArg DV.int (by omega)
    · omega
  | up lo h hk =>
    have h0 : 0 ≤ t * 2 ^ (40 - p) := Int.mul_nonneg h (Int.le_of_lt (pow2_pos _))
    rcases hk with hk | ⟨rfl, hk⟩
    · subst hk
      omega
    refine .inr ⟨_, rfl, ?_⟩
    have hk0 : 0 < k := by
      rcases Nat.eq_zero_or_pos k with z | z
      · subst z; omega
      · exact z
    obtain ⟨n, rfl⟩ : ∃ n, k = n + 1 := ⟨k - 1, by omega⟩
    have en : ((n + 1 : Nat) : Int) * 2 ^ 40 = (n : Int) * 2 ^ 40 + 2 ^ 40 := by omega
    rw [en] at e hk ⊢
    have eg : t * 2 ^ (40 - p) = (t.natAbs : Int) * 2 ^ (40 - p) := by congr 1; omega
    obtain ⟨e1, e2⟩ := n_of h4 eg (k := n) (by omega) (by omega)
    have := WS.mid (t := t) (p := p) (n + 1 + 1) 1 (2 * (n : Int) + 1) ((n : Int) * 2 ^ 40 + 2 ^ 39) (by omega) (by omega) (by rw [e1]) (by show _ = _ * 2 ^ 39; omega) (by show _ - 2 ^ 39 < _; omega) (by show _ < _ + 2 ^ 39; omega)
    have a1 : ((n : Int) * 2 ^ 40 + 2 ^ 40 + ((n : Int) * 2 ^ 40 + 2 ^ 40 - 2 ^ 40)) / 2 = (n : Int) * 2 ^ 40 + 2 ^ 39 := by omega
    have a2 : (n : Int) * 2 ^ 40 + 2 ^ 40 - 2 ^ 40 = (n : Int) * 2 ^ 40 + 2 ^ 39 - 2 ^ (40 - 1) := by show _ = _ - (2 : Int) ^ 39; omega
    have a3 : (n : Int) * 2 ^ 40 + 2 ^ 40 = (n : Int) * 2 ^ 40 + 2 ^ 39 + 2 ^ (40 - 1) := by show _ = _ + (2 : Int) ^ 39; omega
    rw [a1, a2, a3]
    exact this
  | mid j m A h1 h2 hk hA l r =>
    refine .inr ⟨_, rfl, ?_⟩
    have hj : j < p := by
      rcases Nat.lt_or_eq_of_le h2 with z | z
      · exact z
      · subst z
        have := mid_p hA l r
        omega
    have ph := pow_half (j := j) (by omega)
    have := WS.mid (t := t) (p := p) (k + 1) (j + 1) (2 * m - 1) (here - 2 ^ (40 - (j + 1))) (by omega) (by omega) (by omega) (by rw [hA, ph, Int.sub_mul, Int.one_mul, Int.mul_left_comm, Int.mul_assoc]) (by omega) (by omega)
    rw [show (here + (here - 2 ^ (40 - j))) / 2 = here - 2 ^ (40 - (j + 1)) by omega]
    rw [show here - 2 ^ (40 - (j + 1)) - 2 ^ (40 - (j + 1)) = here - 2 ^ (40 - j) by omega, show here - 2 ^ (40 - (j + 1)) + 2 ^ (40 - (j + 1)) = here by omega] at this
    exact this
theorem WS.few (w : WS t p k here lo hi) (h4 : p ≤ 40) (hs : t.natAbs ≤ 50 * 2 ^ p) : k < 100 := by
  have big : ∀ n : Nat, 60 ≤ n → (n : Int) * 2 ^ 40 - 2 ^ 40 < (t.natAbs : Int) * 2 ^ (40 - p) → False := fun n hn z => by
    have h1 : (t.natAbs : Int) * 2 ^ (40 - p) ≤ ((50 * 2 ^ p : Nat) : Int) * 2 ^ (40 - p) := Int.mul_le_mul_of_nonneg_right (by omega) (Int.le_of_lt (pow2_pos _))
    have h2 : ((50 * 2 ^ p : Nat) : Int) * 2 ^ (40 - p) = 50 * 2 ^ 40 := by
      rw [pow_all h4]; push_cast; rw [Int.mul_assoc]
    rw [h2] at h1
    omega
  cases w with
  | up lo h hk =>
    rcases hk with hk | ⟨_, hk⟩
    · omega
    · rcases Nat.lt_or_ge k 100 with z | z
      · exact z
      · refine (big k (by omega) ?_).elim
        rw [show ((t.natAbs : Nat) : Int) = t by omega]; exact hk
  | dn hi h hk =>
    rcases hk with hk | ⟨_, hk⟩
    · omega
    · rcases Nat.lt_or_ge k 100 with z | z
      · exact z
      · refine (big k (by omega) ?_).elim
        rw [show ((t.natAbs : Nat) : Int) = -t by omega, Int.neg_mul]; omega
  | mid j m A h1 h2 hk hA l r =>
    have : t.natAbs / 2 ^ p ≤ 50 := Nat.div_le_of_le_mul (by rw [Nat.mul_comm]; exact hs)
    omega
end
/-- a number in 2^40ths -/
def V40 (a : Int) (b : Nat) : Int := a * 2 ^ (40 - b)
theorem less_V {t t2 : Int} {p p2 : Nat} (h : p ≤ 40) (h2 : p2 ≤ 40) : t * 2 ^ p2 < t2 * 2 ^ p ↔ V40 t p < V40 t2 p2 := by
  unfold V40
  have e1 : t * 2 ^ p2 * 2 ^ 40 = t * 2 ^ (40 - p) * (2 ^ p * 2 ^ p2) := by
    rw [pow_all h]; ac_rfl
  have e2 : t2 * 2 ^ p * 2 ^ 40 = t2 * 2 ^ (40 - p2) * (2 ^ p * 2 ^ p2) := by
    rw [pow_all h2]; ac_rfl
  have hp : (0 : Int) < 2 ^ p * 2 ^ p2 := Int.mul_pos (pow2_pos _) (pow2_pos _)
  constructor
  · intro z
    have := Int.mul_lt_mul_of_pos_right z (pow2_pos 40)
    rw [e1, e2] at this
    exact Int.lt_of_mul_lt_mul_right this (Int.le_of_lt hp)
  · intro z
    have := Int.mul_lt_mul_of_pos_right z hp
    rw [← e1, ← e2] at this
    exact Int.lt_of_mul_lt_mul_right this (by decide)
structure Simp (lo hi : Option Int) (a : Int) (b : Nat) : Prop where
  hb : b ≤ 40
  pl : b = 0 ∨ a % 2 ≠ 0
  lo_ : ∀ l, lo = some l → l < V40 a b
  hi_ : ∀ h, hi = some h → V40 a b < h
  nb : 0 < b → (∃ l, lo = some l ∧ V40 (a - 1) b ≤ l) ∧ ∃ h, hi = some h ∧ h ≤ V40 (a + 1) b
  n0 : b = 0 → a = 0 ∨ (0 < a ∧ ∃ l, lo = some l ∧ V40 (a - 1) 0 ≤ l) ∨ (a < 0 ∧ ∃ h, hi = some h ∧ h ≤ V40 (a + 1) 0)
theorem V_split {c : Int} {d b : Nat} (h : d ≤ b) (hb : b ≤ 40) : V40 c d = c * 2 ^ (b - d) * 2 ^ (40 - b) := by
  unfold V40; rw [pow_split h hb, Int.mul_assoc]
theorem V_zero (a : Int) {d : Nat} (h : d ≤ 40) : V40 a 0 = a * 2 ^ d * 2 ^ (40 - d) := V_split (Nat.zero_le d) h
theorem mul_lt_of {a b k : Int} (h : 0 < k) (z : a * k < b * k) : a < b := Int.lt_of_mul_lt_mul_right z (Int.le_of_lt h)
theorem div_ge {a k b : Nat} (hb : 0 < b) (h : k * b ≤ a) : k ≤ a / b := (Nat.le_div_iff_mul_le hb).mpr h
theorem ageF_pos {c : Int} {d : Nat} (h : 0 < d) : ageF c d = ((c.natAbs / 2 ^ d + d + 1 : Nat) : Int) := by
  unfold ageF; rw [if_neg (by omega)]; push_cast; rfl
theorem ageF_zero {c : Int} : ageF c 0 = (c.natAbs : Int) := by
  unfold ageF; rw [if_pos rfl]
/-- of the numbers between, the simplest is the youngest -/
theorem Simp.young {lo hi : Option Int} {a : Int} {b : Nat} (s : Simp lo hi a b) {c : Int} {d : Nat} (hd : d ≤ 40) (pc : d = 0 ∨ c % 2 ≠ 0) (l1 : ∀ l, lo = some l → l < V40 c d) (h1 : ∀ h, hi = some h → V40 c d < h) : (c = a ∧ d = b) ∨ ageF a b < ageF c d := by
  rcases Nat.eq_zero_or_pos b with hb0 | hb0
  · subst hb0
    rcases s.n0 rfl with rfl | ⟨ha, l, el, hl⟩ | ⟨ha, h, eh, hh⟩
    · rcases Nat.eq_zero_or_pos d with z | z
      · subst z
        rw [ageF_zero, ageF_zero]
        omega
      · rw [ageF_zero, ageF_pos z]
        right; simp only [Int.natAbs_zero]; generalize c.natAbs / 2 ^ d = q; omega
    · have q := Int.lt_of_le_of_lt hl (l1 l el)
      rw [V_zero _ hd] at q
      have q := mul_lt_of (pow2_pos _) q
      rcases Nat.eq_zero_or_pos d with z | z
      · subst z
        rw [Int.pow_zero, Int.mul_one] at q
        rw [ageF_zero, ageF_zero]
        omega
      · rw [ageF_zero, ageF_pos z]
        have w : a.natAbs - 1 ≤ c.natAbs / 2 ^ d := by
          apply div_ge (Nat.pow_pos (by decide))
          have e : (((a.natAbs - 1) * 2 ^ d : Nat) : Int) = (a - 1) * 2 ^ d := by
            rw [Int.natCast_mul, show ((a.natAbs - 1 : Nat) : Int) = a - 1 by omega]; push_cast; rfl
          have : 0 ≤ (a - 1) * 2 ^ d := Int.mul_nonneg (by omega) (Int.le_of_lt (pow2_pos d))
          omega
        right; omega
    · have q := Int.lt_of_lt_of_le (h1 h eh) hh
      rw [V_zero _ hd] at q
      have q := mul_lt_of (pow2_pos _) q
      rcases Nat.eq_zero_or_pos d with z | z
      · subst z
        rw [Int.pow_zero, Int.mul_one] at q
        rw [ageF_zero, ageF_zero]
        omega
      · rw [ageF_zero, ageF_pos z]
        have w : a.natAbs - 1 ≤ c.natAbs / 2 ^ d := by
          apply div_ge (Nat.pow_pos (by decide))
          have e : (((a.natAbs - 1) * 2 ^ d : Nat) : Int) = -((a + 1) * 2 ^ d) := by
            rw [Int.natCast_mul, show ((a.natAbs - 1 : Nat) : Int) = -(a + 1) by omega]; push_cast; rw [Int.neg_mul]
          have : 0 ≤ (-(a + 1)) * 2 ^ d := Int.mul_nonneg (by omega) (Int.le_of_lt (pow2_pos d))
          rw [Int.neg_mul] at this
          omega
        right; omega
  · obtain ⟨⟨l, el, hl⟩, h, eh, hh⟩ := s.nb hb0
    have ho : a % 2 ≠ 0 := by rcases s.pl with z | z <;> omega
    have q1 := Int.lt_of_le_of_lt hl (l1 l el)
    have q2 := Int.lt_of_lt_of_le (h1 h eh) hh
    have hb := s.hb
    rcases Nat.lt_or_ge b d with hbd | hbd
    · right
      rw [V_split (Nat.le_of_lt hbd) hd] at q1 q2
      have q1 := mul_lt_of (pow2_pos _) (show (a - 1) * 2 ^ (d - b) * 2 ^ (40 - d) < c * 2 ^ (40 - d) from q1)
      have q2 := mul_lt_of (pow2_pos _) (show c * 2 ^ (40 - d) < (a + 1) * 2 ^ (d - b) * 2 ^ (40 - d) from q2)
      rw [Int.sub_mul, Int.one_mul] at q1
      rw [Int.add_mul, Int.one_mul] at q2
      have hK := pow2_pos (d - b)
      obtain ⟨n, hn⟩ : ∃ n, n = a.natAbs / 2 ^ b := ⟨_, rfl⟩
      have n1 : n * 2 ^ b ≤ a.natAbs - 1 := by
        have z : n * 2 ^ b ≤ a.natAbs := by rw [hn]; exact Nat.div_mul_le_self _ _
        have : n * 2 ^ b ≠ a.natAbs := fun e => ho (by
          obtain ⟨m, rfl⟩ : ∃ m, b = m + 1 := ⟨b - 1, by omega⟩
          rw [Nat.pow_succ, ← Nat.mul_assoc] at e
          omega)
        omega
      have n2 : a.natAbs + 1 ≤ (n + 1) * 2 ^ b := by
        have := Nat.lt_div_mul_add (a := a.natAbs) (b := 2 ^ b) (Nat.pow_pos (by decide))
        rw [← hn] at this
        rw [Nat.add_mul, Nat.one_mul]
        omega
      have e : 2 ^ b * 2 ^ (d - b) = 2 ^ d := by rw [← Nat.pow_add]; congr 1; omega
      have m1 : n * 2 ^ d ≤ (a.natAbs - 1) * 2 ^ (d - b) := by
        rw [← e, ← Nat.mul_assoc]; exact Nat.mul_le_mul_right _ n1
      have m2 : (a.natAbs + 1) * 2 ^ (d - b) ≤ n * 2 ^ d + 2 ^ d := by
        have := Nat.mul_le_mul_right (2 ^ (d - b)) n2
        rw [Nat.mul_assoc, e, show (n + 1) * 2 ^ d = n * 2 ^ d + 2 ^ d by rw [Nat.add_mul, Nat.one_mul]] at this
        exact this
      have c1 : (((a.natAbs - 1) * 2 ^ (d - b) : Nat) : Int) = (a.natAbs : Int) * 2 ^ (d - b) - 2 ^ (d - b) := by
        rw [Int.natCast_mul, show ((a.natAbs - 1 : Nat) : Int) = (a.natAbs : Int) - 1 by omega, Int.sub_mul, Int.one_mul]; push_cast; rfl
      have c2 : (((a.natAbs + 1) * 2 ^ (d - b) : Nat) : Int) = (a.natAbs : Int) * 2 ^ (d - b) + 2 ^ (d - b) := by
        rw [Int.natCast_mul, show ((a.natAbs + 1 : Nat) : Int) = (a.natAbs : Int) + 1 by omega, Int.add_mul, Int.one_mul]; push_cast; rfl
      have key : (a.natAbs : Int) * 2 ^ (d - b) - 2 ^ (d - b) < c.natAbs ∧ (c.natAbs : Int) < (a.natAbs : Int) * 2 ^ (d - b) + 2 ^ (d - b) := by
        by_cases ha : 0 < a
        · rw [show (a.natAbs : Int) = a by omega]
          have : 0 ≤ (a - 1) * 2 ^ (d - b) := Int.mul_nonneg (by omega) (Int.le_of_lt hK)
          rw [Int.sub_mul, Int.one_mul] at this
          omega
        · rw [show (a.natAbs : Int) = -a by omega, Int.neg_mul]
          have : 0 ≤ (-a - 1) * 2 ^ (d - b) := Int.mul_nonneg (by omega) (Int.le_of_lt hK)
          rw [Int.sub_mul, Int.one_mul, Int.neg_mul] at this
          omega
      have en : c.natAbs / 2 ^ d = n := div_is (by omega) (by omega)
      rw [ageF_pos hb0, ageF_pos (by omega), en, ← hn]
      omega
    · left
      rw [V_split hbd hb] at q1 q2
      have q1 := mul_lt_of (pow2_pos _) (show (a - 1) * 2 ^ (40 - b) < c * 2 ^ (b - d) * 2 ^ (40 - b) from q1)
      have q2 := mul_lt_of (pow2_pos _) (show c * 2 ^ (b - d) * 2 ^ (40 - b) < (a + 1) * 2 ^ (40 - b) from q2)
      rcases Nat.lt_or_eq_of_le hbd with z | z
      · exfalso
        rw [show b - d = (b - d - 1) + 1 by omega, Int.pow_succ, ← Int.mul_assoc] at q1 q2
        omega
      · subst z
        rw [Nat.sub_self, Int.pow_zero, Int.mul_one] at q1 q2
        exact ⟨by omega, rfl⟩
theorem Simp.uniq {lo hi : Option Int} {a c : Int} {b d : Nat} (s : Simp lo hi a b) (r : Simp lo hi c d) : a = c ∧ b = d := by
  rcases s.young r.hb r.pl r.lo_ r.hi_ with h | h
  · exact ⟨h.1.symm, h.2.symm⟩
  · rcases r.young s.hb s.pl s.lo_ s.hi_ with h2 | h2
    · exact h2
    · omega
theorem V_neg (a : Int) (b : Nat) : V40 (-a) b = -V40 a b := Int.neg_mul _ _
theorem Simp.neg {lo hi : Option Int} {a : Int} {b : Nat} (s : Simp lo hi a b) : Simp (hi.map fun x => -x) (lo.map fun x => -x) (-a) b := by
  have mp : ∀ {o : Option Int} {x : Int}, (o.map fun x => -x) = some x → ∃ y, o = some y ∧ x = -y := fun {o x} e => by
    cases o with
    | none => cases e
    | some y => exact ⟨y, rfl, (Option.some.inj e).symm⟩
  refine ⟨s.hb, by have := s.pl; omega, fun l e => ?_, fun h e => ?_, fun hb => ?_, fun hb => ?_⟩
  · obtain ⟨y, ey, rfl⟩ := mp e
    have := s.hi_ y ey
    rw [V_neg]; omega
  · obtain ⟨y, ey, rfl⟩ := mp e
    have := s.lo_ y ey
    rw [V_neg]; omega
  · obtain ⟨⟨l, el, hl⟩, h, eh, hh⟩ := s.nb hb
    refine ⟨⟨-h, by rw [eh]; rfl, ?_⟩, -l, by rw [el]; rfl, ?_⟩
    · rw [show -a - 1 = -(a + 1) by omega, V_neg]; omega
    · rw [show -a + 1 = -(a - 1) by omega, V_neg]; omega
  · rcases s.n0 hb with rfl | ⟨ha, l, el, hl⟩ | ⟨ha, h, eh, hh⟩
    · exact .inl rfl
    · refine .inr (.inr ⟨by omega, -l, by rw [el]; rfl, ?_⟩)
      rw [show -a + 1 = -(a - 1) by omega, V_neg]; omega
    · refine .inr (.inl ⟨by omega, -h, by rw [eh]; rfl, ?_⟩)
      rw [show -a - 1 = -(a + 1) by omega, V_neg]; omega
/-- the number next above l with this power -/
def nextUp (l : Int) (k : Nat) : Int := l / 2 ^ (40 - k) + 1
def okUp (l : Int) (hi : Option Int) (k : Nat) : Prop := ∀ h, hi = some h → V40 (nextUp l k) k < h
theorem next_above (l : Int) (k : Nat) : l < V40 (nextUp l k) k ∧ V40 (nextUp l k - 1) k ≤ l := by
  unfold V40 nextUp
  have h := pow2_pos (40 - k)
  have e := Int.mul_ediv_add_emod l (2 ^ (40 - k))
  have h1 := Int.emod_nonneg l (Int.ne_of_gt h)
  have h2 := Int.emod_lt_of_pos l h
  rw [Int.mul_comm] at e
  rw [Int.add_mul, Int.one_mul, show l / 2 ^ (40 - k) + 1 - 1 = l / 2 ^ (40 - k) by omega]
  omega
theorem next_half {l : Int} {k : Nat} (hk : k < 40) : l / 2 ^ (40 - k) = l / 2 ^ (40 - (k + 1)) / 2 := by
  rw [pow_half hk, Int.mul_comm, Int.ediv_ediv_of_nonneg (Int.le_of_lt (pow2_pos _))]
theorem Simp.above {l : Int} {hi : Option Int} {k : Nat} (h0 : 0 ≤ l) (hk : k ≤ 40) (ok : okUp l hi k) (least : ∀ j < k, ¬ okUp l hi j) : Simp (some l) hi (nextUp l k) k := by
  obtain ⟨n1, n2⟩ := next_above l k
  have step : 0 < k → l / 2 ^ (40 - (k - 1)) = l / 2 ^ (40 - k) / 2 := fun z => by
    have := next_half (l := l) (k := k - 1) (by omega)
    rw [show k - 1 + 1 = k by omega] at this
    exact this
  have half : 0 < k → (2 : Int) ^ (40 - (k - 1)) = 2 * 2 ^ (40 - k) := fun z => by
    have := pow_half (j := k - 1) (by omega)
    rw [show k - 1 + 1 = k by omega] at this
    exact this
  have odd : 0 < k → nextUp l k % 2 ≠ 0 := fun z e => least (k - 1) (by omega) fun h eh => by
    have := ok h eh
    unfold V40 nextUp at this ⊢
    unfold nextUp at e
    rw [step z, half z]
    have e2 : (l / 2 ^ (40 - k) / 2 + 1) * (2 * 2 ^ (40 - k)) = (l / 2 ^ (40 - k) + 1) * 2 ^ (40 - k) := by
      rw [← Int.mul_assoc]; congr 1; omega
    rw [e2]; exact this
  refine ⟨hk, ?_, fun x e => by cases e; exact n1, ok, fun z => ⟨⟨l, rfl, n2⟩, ?_⟩, fun z => .inr (.inl ⟨?_, l, rfl, ?_⟩)⟩
  · rcases Nat.eq_zero_or_pos k with z | z
    · exact .inl z
    · exact .inr (odd z)
  · have := least (k - 1) (by omega)
    unfold okUp at this
    simp only [Classical.not_forall] at this
    obtain ⟨h, eh, hn⟩ := this
    refine ⟨h, eh, ?_⟩
    have o := odd z
    unfold V40 nextUp at hn ⊢
    unfold nextUp at o
    rw [step z, half z] at hn
    have e2 : (l / 2 ^ (40 - k) / 2 + 1) * (2 * 2 ^ (40 - k)) = (l / 2 ^ (40 - k) + 1 + 1) * 2 ^ (40 - k) := by
      rw [← Int.mul_assoc]; congr 1; omega
    rw [e2] at hn
    omega
  · subst z
    unfold nextUp
    have := Int.ediv_nonneg h0 (Int.le_of_lt (pow2_pos (40 - 0)))
    omega
  · subst z; exact n2
theorem ok_last {l : Int} {hi : Option Int} (h : ∀ x, hi = some x → l + 1 < x) : okUp l hi 40 := fun x e => by
  unfold V40 nextUp
  have := h x e
  simp
  omega
/-! ### bounds as data -/
/-- a bound: none, or a number with its denominator's power -/
abbrev Bd := Option (Int × Nat)
def bdD : Bd → DV
  | none => .non
  | some (t, p) => .tup [.int t, .int (p : Nat)]
def bdN (G : Gx) : Bd → DV
  | none => .non
  | some (t, p) => dy G (red p t).1 (red p t).2
def bdV (b : Bd) : Option Int := b.map fun x => V40 x.1 x.2
def bdIn (b : Bd) : Prop := ∀ t p, b = some (t, p) → -10 ^ 11 ≤ t ∧ t ≤ 10 ^ 11 ∧ p ≤ 39
theorem red_V {t : Int} {p : Nat} (h : p ≤ 40) : V40 (red p t).1 (red p t).2 = V40 t p := redV2 h
theorem V_even {t : Int} {p : Nat} (h : p ≤ 39) : V40 t p % 2 = 0 := by
  unfold V40
  rw [show 40 - p = (39 - p) + 1 by omega, Int.pow_succ, ← Int.mul_assoc]
  omega
theorem V_mono {a c : Int} {b : Nat} : V40 a b ≤ V40 c b ↔ a ≤ c := by
  unfold V40
  exact ⟨fun h => Int.le_of_mul_le_mul_right h (pow2_pos _), fun h => Int.mul_le_mul_of_nonneg_right h (Int.le_of_lt (pow2_pos _))⟩
theorem V_lt {a c : Int} {b : Nat} : V40 a b < V40 c b ↔ a < c := by
  unfold V40
  exact ⟨fun h => mul_lt_of (pow2_pos _) h, fun h => Int.mul_lt_mul_of_pos_right h (pow2_pos _)⟩
/-- the search's finds stay small -/
theorem next_small {l : Int} {hi : Option Int} {k : Nat} {t : Int} {p : Nat} {b2 : Bd} (hl : l = V40 t p) (h0 : 0 ≤ l) (ht : t ≤ 10 ^ 11) (hp : p ≤ 39) (hh : hi = bdV b2) (hb : bdIn b2) (ok : okUp l hi k) (hk : k ≤ 40) (least : ∀ j < k, ¬ okUp l hi j) (lt : ∀ x, hi = some x → l < x) :
    0 < nextUp l k ∧ nextUp l k ≤ 10 ^ 12 := by
  have hpos : 0 < nextUp l k := by
    unfold nextUp
    have := Int.ediv_nonneg h0 (Int.le_of_lt (pow2_pos (40 - k)))
    omega
  refine ⟨hpos, ?_⟩
  have ht0 : 0 ≤ t := by
    rw [hl] at h0
    unfold V40 at h0
    exact Int.le_of_mul_le_mul_right (by rw [Int.zero_mul]; exact h0) (pow2_pos (40 - p))
  obtain ⟨n1, n2⟩ := next_above l k
  by_cases hkp : k ≤ p + 1
  · -- low's own denominator: at most twice the top
    have e : V40 t p = t * 2 ^ (40 - p) := rfl
    have a1 : V40 (nextUp l k - 1) k ≤ V40 (2 * t) k := by
      refine Int.le_trans n2 ?_
      rw [hl]
      unfold V40
      by_cases z : k ≤ p
      · rw [pow_split z (by omega), ← Int.mul_assoc]
        refine Int.mul_le_mul_of_nonneg_right ?_ (Int.le_of_lt (pow2_pos _))
        have : (1 : Int) ≤ 2 ^ (p - k) := pow2_pos _
        have : 2 * t * 1 ≤ 2 * t * 2 ^ (p - k) := Int.mul_le_mul_of_nonneg_left this (by omega)
        omega
      · have : k = p + 1 := by omega
        subst this
        rw [pow_half (j := p) (by omega), ← Int.mul_assoc, Int.mul_comm t 2]
        exact Int.le_refl _
    have := V_mono.mp a1
    omega
  · cases b2 with
    | none =>
      exfalso
      exact least 0 (by omega) fun x e => by rw [hh] at e; cases e
    | some b =>
      obtain ⟨t2, p2⟩ := b
      obtain ⟨b1, b2, b3⟩ := hb t2 p2 rfl
      have ex : hi = some (V40 t2 p2) := hh
      have o := ok _ ex
      have hl2 := lt _ ex
      have hk2 : k ≤ p2 + 1 := by
        rcases Nat.lt_or_ge (max p p2 + 1) k with z | z
        · exfalso
          refine least (max p p2 + 1) z fun x e => ?_
          rw [ex] at e; cases e
          have w : ∀ (s : Int) (q : Nat), q ≤ max p p2 → V40 s q = s * 2 ^ (max p p2 - q) * 2 * 2 ^ (40 - (max p p2 + 1)) := fun s q hq => by
            unfold V40
            rw [pow_split (j := q) (p := max p p2 + 1) (by omega) (by omega), show max p p2 + 1 - q = (max p p2 - q) + 1 by omega, Int.pow_succ]
            ac_rfl
          have w1 := w t p (by omega)
          have w2 := w t2 p2 (by omega)
          rw [hl] at hl2 ⊢
          rw [w1, w2] at hl2
          have q := mul_lt_of (pow2_pos _) hl2
          unfold nextUp
          rw [w1, w2, Int.mul_ediv_cancel _ (Int.ne_of_gt (pow2_pos _))]
          unfold V40
          refine Int.mul_lt_mul_of_pos_right ?_ (pow2_pos _)
          omega
        · omega
      have a1 : V40 (nextUp l k) k < V40 (2 * t2) k := by
        refine Int.lt_of_lt_of_le o ?_
        have t20 : 0 ≤ t2 := by
          have : 0 < V40 t2 p2 := Int.lt_of_le_of_lt h0 hl2
          unfold V40 at this
          have := mul_lt_of (pow2_pos (40 - p2)) (show 0 * 2 ^ (40 - p2) < t2 * 2 ^ (40 - p2) by rw [Int.zero_mul]; exact this)
          omega
        unfold V40
        by_cases z : k ≤ p2
        · rw [pow_split z (by omega), ← Int.mul_assoc]
          refine Int.mul_le_mul_of_nonneg_right ?_ (Int.le_of_lt (pow2_pos _))
          have : (1 : Int) ≤ 2 ^ (p2 - k) := pow2_pos _
          have : 2 * t2 * 1 ≤ 2 * t2 * 2 ^ (p2 - k) := Int.mul_le_mul_of_nonneg_left this (by omega)
          omega
        · have : k = p2 + 1 := by omega
          subst this
          rw [pow_half (j := p2) (by omega), ← Int.mul_assoc, Int.mul_comm t2 2]
          exact Int.le_refl _
      have := V_lt.mp a1
      omega
theorem least_ex {P : Nat → Prop} : ∀ n : Nat, P n → ∃ k, k ≤ n ∧ P k ∧ ∀ j < k, ¬ P j
  | n, h => by
    induction n using Nat.strongRecOn with
    | _ n ih =>
      by_cases e : ∃ j, j < n ∧ P j
      · obtain ⟨j, hj, pj⟩ := e
        obtain ⟨k, h1, h2, h3⟩ := ih j hj pj
        exact ⟨k, by omega, h2, h3⟩
      · exact ⟨n, Nat.le_refl _, h, fun j hj pj => e ⟨j, hj, pj⟩⟩
theorem next_mono {l : Int} (h0 : 0 ≤ l) {k m : Nat} (h : k ≤ m) (hm : m ≤ 40) : nextUp l k ≤ nextUp l m := by
  unfold nextUp
  have e : (2 : Int) ^ (40 - k) = 2 ^ (40 - m) * 2 ^ (m - k) := by rw [← Int.pow_add]; congr 1; omega
  rw [e, ← Int.ediv_ediv_of_nonneg (Int.le_of_lt (pow2_pos _))]
  have q := Int.ediv_nonneg h0 (Int.le_of_lt (pow2_pos (40 - m)))
  have := Int.ediv_le_self (2 ^ (m - k)) q
  omega
/-- the program's way to it -/
theorem next_is {a : Int} {b k : Nat} (hb : b ≤ 40) (hk : k ≤ 40) : a * 2 ^ k / 2 ^ b + 1 = nextUp (V40 a b) k := by
  unfold nextUp V40
  congr 1
  by_cases z : k ≤ b
  · have e1 : (2 : Int) ^ b = 2 ^ (b - k) * 2 ^ k := by rw [← Int.pow_add]; congr 1; omega
    rw [e1, Int.mul_ediv_mul_of_pos_left _ _ (pow2_pos k), pow_split z hb, Int.mul_ediv_mul_of_pos_left _ _ (pow2_pos _)]
  · have e1 : (2 : Int) ^ k = 2 ^ (k - b) * 2 ^ b := by rw [← Int.pow_add]; congr 1; omega
    have e2 : (2 : Int) ^ (40 - b) = 2 ^ (k - b) * 2 ^ (40 - k) := by rw [← Int.pow_add]; congr 1; omega
    rw [e1, e2, ← Int.mul_assoc, ← Int.mul_assoc, Int.mul_ediv_cancel _ (Int.ne_of_gt (pow2_pos _)), Int.mul_ediv_cancel _ (Int.ne_of_gt (pow2_pos _))]
theorem bd_dyIn {t : Int} {p : Nat} {b : Bd} (h : bdIn b) (e : b = some (t, p)) : dyIn (red p t).1 (red p t).2 := by
  obtain ⟨h1, h2, h3⟩ := h t p e
  exact .of ⟨by omega, by omega, by omega⟩
def bdNeg (b : Bd) : Bd := b.map fun x => (-x.1, x.2)
theorem bdNeg_in {b : Bd} (h : bdIn b) : bdIn (bdNeg b) := fun t p e => by
  cases b with
  | none => cases e
  | some x =>
    obtain ⟨h1, h2, h3⟩ := h x.1 x.2 rfl
    cases e
    exact ⟨by omega, by omega, h3⟩
theorem bdNeg_V (b : Bd) : bdV (bdNeg b) = (bdV b).map fun x => -x := by
  cases b with
  | none => rfl
  | some x => exact congrArg some (V_neg x.1 x.2)
theorem bdV_even {b : Bd} (h : bdIn b) {x : Int} (e : bdV b = some x) : x % 2 = 0 := by
  cases b with
  | none => cases e
  | some y =>
    have := h y.1 y.2 rfl
    cases e
    exact V_even this.2.2
/-- what less tells of two bounds -/
theorem less_bd {t t2 : Int} {p p2 : Nat} (h : p ≤ 40) (h2 : p2 ≤ 40) : decide ((red p t).1 * 2 ^ (((red p2 t2).2 : Nat) : Int).toNat < (red p2 t2).1 * 2 ^ (((red p t).2 : Nat) : Int).toNat) = decide (V40 t p < V40 t2 p2) := by
  rw [Int.toNat_natCast, Int.toNat_natCast]
  apply decide_eq_decide.mpr
  rw [red_lt, less_V h h2]
theorem V_zero0 : V40 0 0 = 0 := by unfold V40; simp
theorem less_z1 {t : Int} {p : Nat} (h : p ≤ 40) : decide ((red p t).1 * 2 ^ (0 : Int).toNat < 0 * 2 ^ (((red p t).2 : Nat) : Int).toNat) = decide (V40 t p < 0) := by
  have := less_bd (t := t) (p := p) (t2 := 0) (p2 := 0) h (by decide)
  rw [V_zero0] at this
  exact this
theorem less_z2 {t : Int} {p : Nat} (h : p ≤ 40) : decide (0 * 2 ^ (((red p t).2 : Nat) : Int).toNat < (red p t).1 * 2 ^ (0 : Int).toNat) = decide (0 < V40 t p) := by
  have := less_bd (t := 0) (p := 0) (t2 := t) (p2 := p) (by decide) h
  rw [V_zero0] at this
  exact this
theorem simp_zero {lo hi : Option Int} (h1 : ∀ l, lo = some l → l < 0) (h2 : ∀ h, hi = some h → 0 < h) : Simp lo hi 0 0 :=
  ⟨by decide, .inl rfl, fun l e => by rw [V_zero0]; exact h1 l e, fun l e => by rw [V_zero0]; exact h2 l e, fun z => absurd z (by decide), fun _ => .inl rfl⟩
/-! numbers over 2 ^ 40, broken lines -/
/-- the number n / 2 ^ 40 as data -/
def dq (G : Gx) (n : Int) : DV := dy G (red 40 n).1 (red 40 n).2
/-- its top is within the bounds -/
def okq (n : Int) : Prop := -10 ^ 12 ≤ (red 40 n).1 ∧ (red 40 n).1 ≤ 10 ^ 12
theorem rq_pow (n : Int) : (red 40 n).2 ≤ 40 := (red_val 40 n).1
theorem rq_val (n : Int) : (red 40 n).1 * 2 ^ (40 - (red 40 n).2) = n := (red_val 40 n).2
theorem okq.inn {n : Int} (h : okq n) : dyIn (red 40 n).1 (red 40 n).2 := by
  have q1 := rq_pow n
  have q3 := red_plain 40 n
  exact ⟨⟨h.1, h.2, by omega, by omega⟩, by rw [Int.toNat_natCast]; exact q3⟩
theorem okq.neg {n : Int} (h : okq n) : okq (-n) := by
  unfold okq at h ⊢
  rw [red_neg]
  omega
theorem okq_neg {n : Int} : okq (-n) ↔ okq n := ⟨fun h => by have := h.neg; rwa [Int.neg_neg] at this, okq.neg⟩
theorem red_zero : ∀ p : Nat, red p 0 = (0, 0)
  | 0 => rfl
  | p + 1 => by
    show (if (0 : Int) % 2 = 0 then red p (0 / 2) else (0, p + 1)) = _
    rw [if_pos (by decide)]; exact red_zero p
theorem okq_0 : okq 0 := by unfold okq; rw [red_zero]; decide
theorem rq_zero {n : Int} : (red 40 n).1 = 0 ↔ n = 0 := by
  constructor
  · intro h
    have := rq_val n
    rw [h, Int.zero_mul] at this
    exact this.symm
  · rintro rfl; rw [red_zero]
theorem rq_inj {a b : Int} : ((red 40 a).1 = (red 40 b).1 ∧ (red 40 a).2 = (red 40 b).2) ↔ a = b := by
  constructor
  · rintro ⟨h1, h2⟩
    have e1 := rq_val a
    have e2 := rq_val b
    rw [h1, h2, e2] at e1
    exact e1.symm
  · rintro rfl; exact ⟨rfl, rfl⟩
theorem rq_sum (a b : Int) : sumT (red 40 a).1 (red 40 a).2 (red 40 b).1 (red 40 b).2 = red 40 (a + b) := by
  rw [sumV (rq_pow a) (rq_pow b), rq_val, rq_val]
theorem rq_less {a b : Int} : (red 40 a).1 * 2 ^ (red 40 b).2 < (red 40 b).1 * 2 ^ (red 40 a).2 ↔ a < b := by
  rw [less_V (rq_pow a) (rq_pow b)]
  unfold V40
  rw [rq_val, rq_val]
/-- parts of 2 ^ p -/
theorem red_q {p : Nat} {t : Int} (h : p ≤ 40) : red p t = red 40 (t * 2 ^ (40 - p)) := (redV h).symm
theorem okq_of {p : Nat} {t : Int} (h : p ≤ 40) (ht : t.natAbs ≤ 10 ^ 12) : okq (t * 2 ^ (40 - p)) := by
  unfold okq
  rw [← red_q h]
  have := red_abs p t
  omega
theorem dq_of {G : Gx} {p : Nat} {t : Int} (h : p ≤ 40) : dy G (red p t).1 (red p t).2 = dq G (t * 2 ^ (40 - p)) := by
  unfold dq; rw [red_q h]
theorem dq_neg {G : Gx} (n : Int) : dy G (-(red 40 n).1) (red 40 n).2 = dq G (-n) := by
  unfold dq; rw [red_neg]
theorem dq_0 {G : Gx} : dq G 0 = dy G 0 0 := by unfold dq; rw [red_zero]
theorem isi_dq {G : Gx} {n : Int} {L : Led} {P : PD} : bIsi G.k.K [dq G n, .ref G.Dyadic] L P = P (.bl true) L := isi_ins kit_me
/-- -1, 0 or 1 times -/
def isSl (s : Int) : Prop := s = -1 ∨ s = 0 ∨ s = 1
instance (s : Int) : Decidable (isSl s) := inferInstanceAs (Decidable (_ ∨ _ ∨ _))
abbrev Pt := Int × Int
def ptD (G : Gx) (p : Pt) : DV := .tup [dq G p.1, dq G p.2]
/-- the slope of a piece -/
def stepQ (a b : Pt) : Option Int := if b.2 - a.2 = -(b.1 - a.1) then some (-1) else if b.2 - a.2 = 0 then some 0 else if b.2 - a.2 = b.1 - a.1 then some 1 else none
theorem stepQ_some {a b : Pt} {s : Int} (h : stepQ a b = some s) : isSl s ∧ b.2 - a.2 = s * (b.1 - a.1) := by
  unfold stepQ at h
  split at h
  · cases h; exact ⟨.inl rfl, by omega⟩
  split at h
  · cases h; exact ⟨.inr (.inl rfl), by omega⟩
  split at h
  · cases h; exact ⟨.inr (.inr rfl), by omega⟩
  · cases h
theorem stepQ_of {a b : Pt} {s : Int} (hs : isSl s) (ha : a.1 < b.1) (h : b.2 - a.2 = s * (b.1 - a.1)) : stepQ a b = some s := by
  unfold stepQ
  rcases hs with rfl | rfl | rfl
  · rw [if_pos (by omega)]
  · rw [if_neg (by omega), if_pos (by omega)]
  · rw [if_neg (by omega), if_neg (by omega), if_pos (by omega)]
theorem stepQ_none {a b : Pt} (ha : a.1 < b.1) (h : ∀ s, isSl s → b.2 - a.2 ≠ s * (b.1 - a.1)) : stepQ a b = none := by
  cases e : stepQ a b with
  | none => rfl
  | some s => exact absurd (stepQ_some e).2 (h s (stepQ_some e).1)
/-- the slopes between ascending points -/
def slopesQ : List Pt → Option (List Int)
  | a :: b :: r => if a.1 < b.1 then match stepQ a b, slopesQ (b :: r) with
    | some s, some ss => some (s :: ss)
    | _, _ => none
    else none
  | _ => some []
/-- the points where the slope is another one than before -/
def keepQ : Int → List (Pt × Int) → List (Pt × Int)
  | _, [] => []
  | s0, (p, s) :: r => if s ≠ s0 then (p, s) :: keepQ s r else keepQ s r
def thinQ : List (Pt × Int) → List (Pt × Int)
  | [] => []
  | (p, s) :: r => (p, s) :: keepQ s r
/-- the wall of points and a last slope -/
def wallQ (ps : List Pt) (s : Int) : Option (List (Pt × Int)) := match ps with
  | [] => none
  | a :: _ => if a.1 = 0 ∧ isSl s then match slopesQ ps with
    | some ss => some (thinQ (ps.zip (ss ++ [s])))
    | none => none
    else none
abbrev ksW : List Str := ["_points", "_slopes"]
def wallD (G : Gx) (w : List (Pt × Int)) : DV := .ins G.Wall ksW [.lst (w.map fun p => ptD G p.1), .lst (w.map fun p => .int p.2)]
theorem slopesQ_iff : ∀ {ps : List Pt} {ss : List Int}, slopesQ ps = some ss ↔ ss.length = ps.length - 1 ∧ ∀ (j : Nat) (a b : Pt), ps[j]? = some a → ps[j + 1]? = some b → a.1 < b.1 ∧ ∃ s, ss[j]? = some s ∧ stepQ a b = some s
  | [], ss => by
    show some [] = some ss ↔ _
    constructor
    · intro h; cases h; exact ⟨rfl, fun j a b z => by cases z⟩
    · rintro ⟨h, _⟩; rw [List.length_eq_zero_iff.mp h]
  | [p], ss => by
    show some [] = some ss ↔ _
    constructor
    · intro h; cases h; exact ⟨rfl, fun j a b _ z => by cases z⟩
    · rintro ⟨h, _⟩; rw [List.length_eq_zero_iff.mp h]
  | p :: q :: r, ss => by
    have ih := @slopesQ_iff (q :: r)
    show (if p.1 < q.1 then match stepQ p q, slopesQ (q :: r) with
      | some s, some ss => some (s :: ss)
      | _, _ => none
      else none) = some ss ↔ _
    constructor
    · intro h
      split at h
      · rename_i lt
        split at h
        · rename_i s ss' e1 e2
          cases h
          obtain ⟨l, w⟩ := ih.mp e2
          refine ⟨by simp at l ⊢; omega, fun j a b h1 h2 => ?_⟩
          cases j with
          | zero => cases h1; cases h2; exact ⟨lt, s, rfl, e1⟩
          | succ j => exact w j a b h1 h2
        · cases h
      · cases h
    · rintro ⟨l, w⟩
      obtain ⟨lt, s, e, st⟩ := w 0 p q rfl rfl
      rw [if_pos lt]
      cases ss with
      | nil => cases e
      | cons s' ss =>
        cases e
        have e2 := ih.mpr ⟨by simp at l ⊢; omega, fun j a b h1 h2 => w (j + 1) a b h1 h2⟩
        rw [st, e2]
theorem slopesQ_no {ps : List Pt} {j : Nat} {a b : Pt} (h1 : ps[j]? = some a) (h2 : ps[j + 1]? = some b) (h : ¬ (a.1 < b.1 ∧ ∃ s, stepQ a b = some s)) : slopesQ ps = none := by
  cases e : slopesQ ps with
  | none => rfl
  | some ss =>
    obtain ⟨lt, s, _, st⟩ := (slopesQ_iff.mp e).2 j a b h1 h2
    exact absurd ⟨lt, s, st⟩ h
theorem keepQ_snoc : ∀ (xs : List (Pt × Int)) (s0 : Int) (x : Pt × Int), keepQ s0 (xs ++ [x]) = keepQ s0 xs ++ if x.2 ≠ ((xs.getLast?).map (·.2)).getD s0 then [x] else []
  | [], s0, x => by
    obtain ⟨p, s⟩ := x
    show (if s ≠ s0 then (p, s) :: keepQ s [] else keepQ s []) = _
    by_cases h : s ≠ s0
    · rw [if_pos h]; simp [keepQ, h]
    · rw [if_neg h]; simp [keepQ, h]
  | (p, s) :: r, s0, x => by
    have ih := keepQ_snoc r s x
    have e : (((p, s) :: r).getLast?.map (·.2)).getD s0 = (r.getLast?.map (·.2)).getD s := by
      cases r with
      | nil => rfl
      | cons y r => rw [List.getLast?_cons_cons]; simp [List.getLast?_cons]
    rw [e]
    show (if s ≠ s0 then (p, s) :: keepQ s (r ++ [x]) else keepQ s (r ++ [x])) = (if s ≠ s0 then (p, s) :: keepQ s r else keepQ s r) ++ _
    rw [ih]
    split <;> rfl
theorem thinQ_snoc {xs : List (Pt × Int)} {y x : Pt × Int} (h : xs.getLast? = some y) : thinQ (xs ++ [x]) = thinQ xs ++ if x.2 ≠ y.2 then [x] else [] := by
  cases xs with
  | nil => cases h
  | cons z r =>
    obtain ⟨p, s⟩ := z
    show (p, s) :: keepQ s (r ++ [x]) = ((p, s) :: keepQ s r) ++ _
    rw [keepQ_snoc, List.cons_append]
    have e : (r.getLast?.map (·.2)).getD s = y.2 := by
      cases r with
      | nil => cases h; rfl
      | cons w r => rw [List.getLast?_cons_cons] at h; rw [h]; rfl
    rw [e]
theorem thinQ_len : ∀ (xs : List (Pt × Int)), (thinQ xs).length ≤ xs.length := by
  have k : ∀ (xs : List (Pt × Int)) (s : Int), (keepQ s xs).length ≤ xs.length := by
    intro xs
    induction xs with
    | nil => intro s; exact Nat.le_refl _
    | cons x r ih =>
      intro s
      obtain ⟨p, s'⟩ := x
      show (if s' ≠ s then (p, s') :: keepQ s' r else keepQ s' r).length ≤ _
      have := ih s'
      split <;> simp <;> omega
  intro xs
  cases xs with
  | nil => exact Nat.le_refl _
  | cons x r =>
    obtain ⟨p, s⟩ := x
    have := k r s
    show (keepQ s r).length + 1 ≤ r.length + 1
    omega
theorem rangeD_1 (m : Nat) : rangeD 1 m = (List.range m).map fun i => DV.int ((i + 1 : Nat) : Int) := by
  unfold rangeD
  refine List.map_congr_left fun i _ => ?_
  congr 1; omega
/-- the differences between neighbours are numbers, too -/
def nearQ (ps : List Pt) : Prop := (∀ p ∈ ps, okq p.1 ∧ okq p.2) ∧ ∀ (i : Nat) (a b : Pt), ps[i]? = some a → ps[i + 1]? = some b → okq (b.1 - a.1) ∧ okq (b.2 - a.2)
theorem fldA_at {f : Str} {j : Nat} {C a dx : Addr} {ks : List Str} {ds : List DV} {d : DV} {L : Led} {P : PD} {lk : Lk P} (h : L a = some (.ins C dx ks ds)) (hk : ks[j]? = some f) (hd : ds[j]? = some d) : fldA f j (.ref a) L P lk = P d L := by
  rw [fldA_of h]
  refine propext ⟨fun ⟨_, d', e, p⟩ => ?_, fun p => ⟨hk, d, hd, p⟩⟩
  rw [hd] at e; cases e; exact p
/-- lists of an instance are frozen with it -/
theorem FrzD.ins2 {k : Kx} {x a b C dx : Addr} {k1 k2 : Str} {as bs : List DV} {L : Led} (h : L x = some (.ins C dx [k1, k2] [.ref a, .ref b])) (ha : L a = some (.lst as)) (hb : L b = some (.lst bs)) (ne : a ≠ b) : FrzD k (.ref x) L (.ins C [k1, k2] [.lst as, .lst bs]) (delL (delL (delL L a) b) x) := fun I F H v A r => by
  have xa : x ≠ a := ne_led2 h ha (by intro z; cases z)
  have xb : x ≠ b := ne_led2 h hb (by intro z; cases z)
  cases r
  obtain ⟨I1, e1, A1, r1⟩ := A.freeze ha
  have hb1 : delL L a b = some (.lst bs) := by unfold delL; rw [if_neg (Ne.symm ne)]; exact hb
  obtain ⟨I2, e2, A2, r2⟩ := A1.freeze hb1
  have hx2 : delL (delL L a) b x = some (.ins C dx [k1, k2] [.ref a, .ref b]) := by unfold delL; rw [if_neg xb, if_neg xa]; exact h
  obtain ⟨h1, h2, o, h3, h4⟩ := A2.led x _ hx2
  cases h4 with
  | @ins _ _ _ _ fs e c r =>
    refine ⟨_, (e1.trans e2).trans (Ex.new h1), A2.hold h1 h2 h3, .ins upd_same e c ?_⟩
    have ex := Ex.new (o := HO.ins C dx fs) h1
    have q : ∀ (vs : List V), Rps k.K I2 [.ref a, .ref b] vs → Rps k.K (upd I2 x (.ins C dx fs)) [.lst as, .lst bs] vs := by
      intro vs r
      cases r with
      | cons r0 r => cases r with
        | cons r1' r => cases r; cases r0; cases r1'; exact .cons ((r1.mono e2).mono ex) (.cons (r2.mono ex) .nil)
    exact q _ r
/-- a law's point, in parts of 1024 -/
def ptI (p : Pt) : DV := .tup [.int p.1, .int p.2]
def q10 (p : Pt) : Pt := (p.1 * 2 ^ 30, p.2 * 2 ^ 30)
def bigP (p : Pt) : Prop := p.1.natAbs ≤ 10 ^ 12 ∧ p.2.natAbs ≤ 10 ^ 12
/-- the places where the slope is another one than before -/
def kepP (l : List (Pt × Int)) (k : Nat) : Bool := decide (k = 0 ∨ (l[k]?).map (·.2) ≠ (l[k - 1]?).map (·.2))
theorem thin_kept (l : List (Pt × Int)) : ∀ n, n ≤ l.length → (thinQ (l.take n)).map some = ((List.range n).filter (kepP l)).map fun k => l[k]?
  | 0, _ => rfl
  | 1, h => by
    obtain ⟨x, r, rfl⟩ : ∃ x r, l = x :: r := by
      cases l with
      | nil => simp at h
      | cons x r => exact ⟨x, r, rfl⟩
    obtain ⟨p, s⟩ := x
    rfl
  | n + 2, h => by
    have ih := thin_kept l (n + 1) (by omega)
    obtain ⟨y, hy⟩ : ∃ y, l[n]? = some y := ⟨_, List.getElem?_eq_getElem (by omega)⟩
    obtain ⟨z, hz⟩ : ∃ z, l[n + 1]? = some z := ⟨_, List.getElem?_eq_getElem (by omega)⟩
    have gl : (l.take (n + 1)).getLast? = some y := by
      rw [List.getLast?_eq_getElem?, List.length_take, show min (n + 1) l.length - 1 = n by omega, List.getElem?_take_of_lt (by omega)]
      exact hy
    have tk : l.take (n + 1 + 1) = l.take (n + 1) ++ [z] := by rw [List.take_succ, hz]; rfl
    have tn := thinQ_snoc (x := z) gl
    rw [tk, tn, List.map_append, ih, List.range_succ (n := n + 1), List.filter_append, List.map_append]
    congr 1
    have e : kepP l (n + 1) = decide (z.2 ≠ y.2) := by
      unfold kepP
      rw [decide_eq_decide, hz, show n + 1 - 1 = n by omega, hy]
      simp
    by_cases q : z.2 ≠ y.2
    · rw [if_pos q]
      simp [List.filter_cons, e, q, hz]
    · rw [if_neg q]
      simp [List.filter_cons, e, q]
theorem thin_at {l : List (Pt × Int)} {i k : Nat} (h : ((List.range l.length).filter (kepP l))[i]? = some k) : (thinQ l)[i]? = l[k]? := by
  have e := thin_kept l l.length (Nat.le_refl _)
  rw [List.take_length] at e
  have := congrArg (fun x => x[i]?) e
  simp only [List.getElem?_map, h, Option.map_some] at this
  cases q : (thinQ l)[i]? with
  | none => rw [q] at this; cases this
  | some y => rw [q] at this; exact Option.some.inj this
theorem thin_len (l : List (Pt × Int)) : ((List.range l.length).filter (kepP l)).length = (thinQ l).length := by
  have e := thin_kept l l.length (Nat.le_refl _)
  rw [List.take_length] at e
  have := congrArg List.length e
  simpa using this.symm
theorem thin_last {l : List (Pt × Int)} {y : Pt × Int} (h : l.getLast? = some y) : ∃ z, (thinQ l).getLast? = some z ∧ z.2 = y.2 := by
  have key : ∀ n, n < l.length → ∃ z y, (thinQ (l.take (n + 1))).getLast? = some z ∧ l[n]? = some y ∧ z.2 = y.2 := by
    intro n
    induction n with
    | zero =>
      intro hn
      cases l with
      | nil => cases h
      | cons x r => obtain ⟨p, s⟩ := x; exact ⟨(p, s), (p, s), rfl, rfl, rfl⟩
    | succ n ih =>
      intro hn
      obtain ⟨z0, y0, e1, e2, e3⟩ := ih (by omega)
      obtain ⟨x, hx⟩ : ∃ x, l[n + 1]? = some x := ⟨_, List.getElem?_eq_getElem (by omega)⟩
      have gl : (l.take (n + 1)).getLast? = some y0 := by
        rw [List.getLast?_eq_getElem?, List.length_take, show min (n + 1) l.length - 1 = n by omega, List.getElem?_take_of_lt (by omega)]
        exact e2
      have tk : l.take (n + 1 + 1) = l.take (n + 1) ++ [x] := by rw [List.take_succ, hx]; rfl
      have tn := thinQ_snoc (x := x) gl
      rw [← tk] at tn
      by_cases q : x.2 ≠ y0.2
      · rw [if_pos q] at tn
        exact ⟨x, x, by rw [tn]; simp, hx, rfl⟩
      · rw [if_neg q, List.append_nil] at tn
        exact ⟨z0, x, by rw [tn]; exact e1, hx, by rw [e3]; exact (Decidable.not_not.mp q).symm⟩
  cases l with
  | nil => cases h
  | cons x r =>
    obtain ⟨z, y', e1, e2, e3⟩ := key r.length (by simp)
    rw [List.take_of_length_le (by simp)] at e1
    rw [List.getLast?_eq_getElem?, List.length_cons, Nat.add_sub_cancel, e2] at h
    exact ⟨z, e1, by rw [e3, Option.some.inj h]⟩
theorem isi_wall {G : Gx} {w : List (Pt × Int)} {L : Led} {P : PD} : bIsi G.k.K [wallD G w, .ref G.Wall] L P = P (.bl true) L := isi_ins kit_me
theorem isC_wall {G : Gx} {w : List (Pt × Int)} {L : Led} {q : Prop} (h : q) : isC L (wallD G w) G.Wall q := ⟨rfl, h⟩
theorem stepQ_q10 (a b : Pt) : stepQ (q10 a) (q10 b) = stepQ a b := by
  have e1 : (b.2 * 2 ^ 30 - a.2 * 2 ^ 30 = -(b.1 * 2 ^ 30 - a.1 * 2 ^ 30)) = (b.2 - a.2 = -(b.1 - a.1)) := propext (by omega)
  have e2 : (b.2 * 2 ^ 30 - a.2 * 2 ^ 30 = 0) = (b.2 - a.2 = 0) := propext (by omega)
  have e3 : (b.2 * 2 ^ 30 - a.2 * 2 ^ 30 = b.1 * 2 ^ 30 - a.1 * 2 ^ 30) = (b.2 - a.2 = b.1 - a.1) := propext (by omega)
  unfold stepQ q10
  simp only [e1, e2, e3]
theorem slopesQ_q10 : ∀ ps : List Pt, slopesQ (ps.map q10) = slopesQ ps
  | [] => rfl
  | [_] => rfl
  | a :: b :: r => by
    have ih := slopesQ_q10 (b :: r)
    have e : ((q10 a).1 < (q10 b).1) = (a.1 < b.1) := propext (by unfold q10; omega)
    show (if (q10 a).1 < (q10 b).1 then match stepQ (q10 a) (q10 b), slopesQ ((b :: r).map q10) with
      | some s, some ss => some (s :: ss)
      | _, _ => none
      else none) = if a.1 < b.1 then match stepQ a b, slopesQ (b :: r) with
      | some s, some ss => some (s :: ss)
      | _, _ => none
      else none
    simp only [e, stepQ_q10, ih]
theorem near_small {ps : List Pt} (h : ∀ p ∈ ps, p.1.natAbs ≤ 10 ^ 11 ∧ p.2.natAbs ≤ 10 ^ 11) : nearQ (ps.map q10) := by
  have k : ∀ n : Int, n.natAbs ≤ 10 ^ 12 → okq (n * 2 ^ 30) := fun n hn => okq_of (p := 10) (by decide) hn
  refine ⟨fun p hp => ?_, fun i a b ha hb => ?_⟩
  · obtain ⟨q, hq, rfl⟩ := List.mem_map.mp hp
    have := h q hq
    exact ⟨k _ (by omega), k _ (by omega)⟩
  · rw [List.getElem?_map] at ha hb
    obtain ⟨x, hx, rfl⟩ := Option.map_eq_some_iff.mp ha
    obtain ⟨y, hy, rfl⟩ := Option.map_eq_some_iff.mp hb
    have h1 := h x (List.mem_of_getElem? hx)
    have h2 := h y (List.mem_of_getElem? hy)
    refine ⟨?_, ?_⟩
    · show okq (y.1 * 2 ^ 30 - x.1 * 2 ^ 30)
      rw [← Int.sub_mul]
      exact k _ (by omega)
    · show okq (y.2 * 2 ^ 30 - x.2 * 2 ^ 30)
      rw [← Int.sub_mul]
      exact k _ (by omega)
/-- a law's line: it begins at 0 and goes on by pieces -/
structure LineOk (ps : List Pt) (ss : List Int) : Prop where
  len : ps.length = ss.length
  ne : ss ≠ []
  few : ss.length ≤ 13
  sl : ∀ s ∈ ss, isSl s
  first : ∀ p, ps[0]? = some p → p.1 = 0 ∧ p.2.natAbs ≤ 10 ^ 9
  step : ∀ (j : Nat) (a b : Pt) (s : Int), ps[j]? = some a → ps[j + 1]? = some b → ss[j]? = some s → 1 ≤ b.1 - a.1 ∧ b.1 - a.1 ≤ 122880 ∧ b.2 = a.2 + s * (b.1 - a.1)
def lineD (ps : List Pt) (ss : List Int) : DV := .tup [.lst (ps.map ptI), .lst (ss.map DV.int)]
/-- the wall of a law's line -/
def wallL (ps : List Pt) (ss : List Int) : List (Pt × Int) := thinQ ((ps.map q10).zip ss)
theorem LineOk.bound {ps : List Pt} {ss : List Int} (o : LineOk ps ss) : ∀ (j : Nat) (p : Pt), ps[j]? = some p → 0 ≤ p.1 ∧ p.1 ≤ 122880 * j ∧ p.2.natAbs ≤ 10 ^ 9 + 122880 * j
  | 0, p, h => by
    have := o.first p h
    omega
  | j + 1, b, h => by
    have hl := (List.getElem?_eq_some_iff.mp h).1
    have ol := o.len
    obtain ⟨a, ha⟩ : ∃ a, ps[j]? = some a := ⟨_, List.getElem?_eq_getElem (by omega)⟩
    obtain ⟨s, hs⟩ : ∃ s, ss[j]? = some s := ⟨_, List.getElem?_eq_getElem (by omega)⟩
    have ih := o.bound j a ha
    obtain ⟨h1, h2, h3⟩ := o.step j a b s ha h hs
    rcases o.sl s (List.mem_of_getElem? hs) with rfl | rfl | rfl <;> omega
theorem LineOk.small {ps : List Pt} {ss : List Int} (o : LineOk ps ss) : ∀ p ∈ ps, 0 ≤ p.1 ∧ p.1 ≤ 10 ^ 7 ∧ p.2.natAbs ≤ 10 ^ 9 + 10 ^ 7 := fun p hp => by
  obtain ⟨j, hj⟩ := List.mem_iff_getElem?.mp hp
  have := o.bound j p hj
  have hl := (List.getElem?_eq_some_iff.mp hj).1
  have := o.len
  have := o.few
  omega
theorem LineOk.slopes {ps : List Pt} {ss : List Int} (o : LineOk ps ss) {s : Int} {ss0 : List Int} (e : ss = ss0 ++ [s]) : slopesQ ps = some ss0 := by
  have ol := o.len
  refine slopesQ_iff.mpr ⟨by rw [ol, e]; simp, fun j a b ha hb => ?_⟩
  have hl := (List.getElem?_eq_some_iff.mp hb).1
  rw [ol, e, List.length_append, List.length_singleton] at hl
  have h0 : ss[j]? = ss0[j]? := by rw [e, List.getElem?_append_left (by omega)]
  obtain ⟨t, ht⟩ : ∃ t, ss0[j]? = some t := ⟨_, List.getElem?_eq_getElem (by omega)⟩
  rw [ht] at h0
  obtain ⟨h1, h2, h3⟩ := o.step j a b t ha hb h0
  exact ⟨by omega, t, ht, stepQ_of (o.sl t (List.mem_of_getElem? h0)) (by omega) (by omega)⟩
theorem LineOk.wall {ps : List Pt} {ss : List Int} (o : LineOk ps ss) {s : Int} (e : ss.getLast? = some s) : wallQ (ps.map q10) s = some (wallL ps ss) := by
  obtain ⟨ss0, e0⟩ := List.getLast?_eq_some_iff.mp e
  have sq := o.slopes e0
  have ol := o.len
  cases ps with
  | nil => exact absurd (List.length_eq_zero_iff.mp ol.symm) o.ne
  | cons p ps =>
    have z : (q10 p).1 = 0 ∧ isSl s := ⟨by unfold q10; rw [(o.first p rfl).1, Int.zero_mul], o.sl s (by rw [e0]; simp)⟩
    show (if (q10 p).1 = 0 ∧ isSl s then match slopesQ ((p :: ps).map q10) with
      | some ss => some (thinQ (((p :: ps).map q10).zip (ss ++ [s])))
      | none => none
      else none) = _
    rw [if_pos z, slopesQ_q10, sq]
    unfold wallL
    rw [e0]
theorem wallQ_no {ps : List Pt} {s : Int} (h : ∀ p, ps[0]? = some p → p.1 = 0 → isSl s → slopesQ ps = none) : wallQ (ps.map q10) s = none := by
  cases ps with
  | nil => rfl
  | cons p ps =>
    show (if (q10 p).1 = 0 ∧ isSl s then match slopesQ ((p :: ps).map q10) with
      | some ss => some (thinQ (((p :: ps).map q10).zip (ss ++ [s])))
      | none => none
      else none) = none
    by_cases z : (q10 p).1 = 0 ∧ isSl s
    · have z1 : p.1 * 2 ^ 30 = 0 := z.1
      rw [if_pos z, slopesQ_q10, h p rfl (by omega) z.2]
    · rw [if_neg z]
/-- the points from a place on, moved -/
def movP (ps : List Pt) (k : Nat) (h v : Int) : List Pt := ps.take k ++ (ps.drop k).map fun p => (p.1 + h, p.2 + v)
theorem movP_lo {ps : List Pt} {k i : Nat} {h v : Int} (hi : i < k) (hk : k ≤ ps.length) : (movP ps k h v)[i]? = ps[i]? := by
  unfold movP
  rw [List.getElem?_append_left (by rw [List.length_take]; omega), List.getElem?_take_of_lt hi]
theorem movP_at {ps : List Pt} {k : Nat} {h v : Int} {p : Pt} (hp : ps[k]? = some p) : (movP ps k h v)[k]? = some (p.1 + h, p.2 + v) := by
  have hl := (List.getElem?_eq_some_iff.mp hp).1
  unfold movP
  rw [List.getElem?_append_right (by rw [List.length_take]; omega), List.getElem?_map, List.getElem?_drop, List.length_take, show k + (k - min k ps.length) = k by omega, hp]
  rfl
theorem movP_mem {ps : List Pt} {k : Nat} {h v : Int} {q : Pt} (hq : q ∈ movP ps k h v) : ∃ p ∈ ps, q = p ∨ q = (p.1 + h, p.2 + v) := by
  rcases List.mem_append.mp hq with hq | hq
  · exact ⟨q, List.mem_of_mem_take hq, .inl rfl⟩
  · obtain ⟨p, hp, rfl⟩ := List.mem_map.mp hq
    exact ⟨p, List.mem_of_mem_drop hp, .inr rfl⟩
/-- two lists in a tuple are frozen with it -/
theorem FrzD.tup2 {k : Kx} {a b : Addr} {as bs : List DV} {L : Led} (ha : L a = some (.lst as)) (hb : L b = some (.lst bs)) (ne : a ≠ b) : FrzD k (.tup [.ref a, .ref b]) L (.tup [.lst as, .lst bs]) (delL (delL L a) b) := fun I F H v A r => by
  cases r with
  | tup hq r =>
    obtain ⟨I1, e1, A1, r1⟩ := A.freeze ha
    have hb1 : delL L a b = some (.lst bs) := by unfold delL; rw [if_neg (Ne.symm ne)]; exact hb
    obtain ⟨I2, e2, A2, r2⟩ := A1.freeze hb1
    refine ⟨I2, e1.trans e2, A2, .tup ((e1.trans e2).t hq) ?_⟩
    have q : ∀ (vs : List V), Rps k.K I [.ref a, .ref b] vs → Rps k.K I2 [.lst as, .lst bs] vs := by
      intro vs r
      cases r with
      | cons r0 r => cases r with
        | cons r1' r => cases r; cases r0; cases r1'; exact .cons (r1.mono e2) (.cons r2 .nil)
    exact q _ r
theorem LineOk.one {v s : Int} (hv : v.natAbs ≤ 10 ^ 9) (hs : isSl s) : LineOk [(0, v)] [s] where
  len := rfl
  ne := by simp
  few := by simp
  sl := fun t ht => by rw [List.mem_singleton.mp ht]; exact hs
  first := fun p h => by cases h; exact ⟨rfl, hv⟩
  step := fun j a b t _ h2 _ => by cases h2
theorem LineOk.more {ps : List Pt} {ss : List Int} {p : Pt} {s t run : Int} (o : LineOk ps ss) (hp : ps.getLast? = some p) (hs : ss.getLast? = some s) (h1 : 1 ≤ run) (h2 : run ≤ 122880) (ht : isSl t) (few : ss.length < 13) : LineOk (ps ++ [(p.1 + run, p.2 + s * run)]) (ss ++ [t]) := by
  have ol := o.len
  have ne : 0 < ss.length := List.length_pos_iff.mpr o.ne
  refine ⟨by simp [ol], by simp, by simp; omega, fun x hx => ?_, fun q hq => ?_, fun j a b x ha hb hx => ?_⟩
  · rcases List.mem_append.mp hx with hx | hx
    · exact o.sl x hx
    · rw [List.mem_singleton.mp hx]; exact ht
  · rw [List.getElem?_append_left (by omega)] at hq
    exact o.first q hq
  · have hl := (List.getElem?_eq_some_iff.mp hb).1
    rw [List.length_append, List.length_singleton] at hl
    rw [List.getElem?_append_left (by omega)] at ha hx
    by_cases q : j + 1 < ps.length
    · rw [List.getElem?_append_left q] at hb
      exact o.step j a b x ha hb hx
    · have ej : j + 1 = ps.length := by omega
      rw [List.getElem?_append_right (by omega), ej, Nat.sub_self] at hb
      rw [List.getLast?_eq_getElem?, show ps.length - 1 = j by omega, ha] at hp
      rw [List.getLast?_eq_getElem?, show ss.length - 1 = j by omega, hx] at hs
      cases hp; cases hs; cases hb
      refine ⟨?_, ?_, ?_⟩
      · show 1 ≤ p.1 + run - p.1; omega
      · show p.1 + run - p.1 ≤ _; omega
      · show p.2 + s * run = p.2 + s * (p.1 + run - p.1)
        rw [show p.1 + run - p.1 = run by omega]
theorem slope_sl (d : Nat) : isSl ((d : Int) % 3 - 1) := by unfold isSl; omega
theorem line_0 {ps : List Pt} {ss : List Int} {L : Led} {P : PD} : oIx (lineD ps ss) (.int 0) L P = P (.lst (ps.map ptI)) L := by
  unfold lineD
  rw [oIx_tup]
  exact ixA_int (by decide) rfl
theorem line_1 {ps : List Pt} {ss : List Int} {L : Led} {P : PD} : oIx (lineD ps ss) (.int 1) L P = P (.lst (ss.map DV.int)) L := by
  unfold lineD
  rw [oIx_tup]
  exact ixA_int (by decide) rfl
theorem wallL_more {ps : List Pt} {ss : List Int} {s : Int} {q : Pt} (hl : ps.length = ss.length) (hs : ss.getLast? = some s) : wallL (ps ++ [q]) (ss ++ [s]) = wallL ps ss := by
  obtain ⟨ss0, rfl⟩ := List.getLast?_eq_some_iff.mp hs
  have ne : ps ≠ [] := fun z => by rw [z] at hl; simp at hl
  obtain ⟨p, hp⟩ : ∃ p, ps.getLast? = some p := ⟨_, List.getLast?_eq_some_getLast ne⟩
  obtain ⟨ps0, rfl⟩ := List.getLast?_eq_some_iff.mp hp
  have h0 : ps0.length = ss0.length := by simpa using hl
  unfold wallL
  rw [List.map_append, List.zip_append (by simpa using hl)]
  have e : (List.map q10 (ps0 ++ [p])).zip (ss0 ++ [s]) = (List.map q10 ps0).zip ss0 ++ [(q10 p, s)] := by
    rw [List.map_append, List.zip_append (by simpa using h0)]; rfl
  have gl : ((List.map q10 (ps0 ++ [p])).zip (ss0 ++ [s])).getLast? = some (q10 p, s) := by rw [e]; simp
  have := thinQ_snoc (x := (q10 q, s)) gl
  rw [if_neg (by simp), List.append_nil] at this
  exact this
theorem fldW_0 {G : Gx} {w : List (Pt × Int)} {L : Led} {P : PD} {lk : Lk P} : fldA "_points" 0 (wallD G w) L P lk = P (.lst (w.map fun p => ptD G p.1)) L := by
  unfold wallD
  simp! []
theorem fldW_1 {G : Gx} {w : List (Pt × Int)} {L : Led} {P : PD} {lk : Lk P} : fldA "_slopes" 1 (wallD G w) L P lk = P (.lst (w.map fun p => .int p.2)) L := by
  unfold wallD
  simp! []
theorem ixLastD {ds : List DV} {d : DV} {L : Led} {P : PD} {lk : Lk P} (h : ds.getLast? = some d) : ixA ds (-1) L P lk = P d L := by
  obtain ⟨ys, rfl⟩ := List.getLast?_eq_some_iff.mp h
  refine ixA_of ?_
  unfold atI _root_.L2.ixN
  have el : (ys ++ [d]).length = ys.length + 1 := by simp
  rw [el, if_neg (by decide), if_pos (by omega), show (-1 + ((ys.length + 1 : Nat) : Int)).toNat = ys.length by omega]
  show (ys ++ [d])[ys.length]? = _
  rw [List.getElem?_append_right (Nat.le_refl _)]
  simp
/-! walls at a temperature, cut, tilted -/
abbrev Wp := Pt × Int
/-- c is the last one that begins at h or ahead of it -/
def IsAt (l : List Wp) (h : Int) (c : Wp) : Prop := ∃ k, l[k]? = some c ∧ c.1.1 ≤ h ∧ ∀ (j : Nat) (x : Wp), l[j]? = some x → x.1.1 ≤ h → j ≤ k
/-- the place on the piece of c -/
def valQ (c : Wp) (h : Int) : Int := c.1.2 + c.2 * (h - c.1.1)
/-- ascending, each one on the piece of the one before -/
def Con (l : List Wp) : Prop := ∀ (j : Nat) (a b : Wp), l[j]? = some a → l[j + 1]? = some b → a.1.1 < b.1.1 ∧ b.1.2 = valQ a b.1.1
theorem IsAt.uniq {l : List Wp} {h : Int} {c d : Wp} (a : IsAt l h c) (b : IsAt l h d) : c = d := by
  obtain ⟨k, e1, e2, e3⟩ := a
  obtain ⟨m, f1, f2, f3⟩ := b
  have h1 := e3 m d f1 f2
  have h2 := f3 k c e1 e2
  have : k = m := by omega
  subst this
  rw [e1] at f1
  exact Option.some.inj f1
theorem Con.asc {l : List Wp} (c : Con l) : ∀ (n j : Nat) (a b : Wp), l[j]? = some a → l[j + n + 1]? = some b → a.1.1 < b.1.1
  | 0, j, a, b, ha, hb => (c j a b ha hb).1
  | n + 1, j, a, b, ha, hb => by
    have hl := (List.getElem?_eq_some_iff.mp hb).1
    obtain ⟨m, hm⟩ : ∃ m, l[j + n + 1]? = some m := ⟨_, List.getElem?_eq_getElem (by omega)⟩
    have h1 := c.asc n j a m ha hm
    have h2 := (c (j + n + 1) m b hm hb).1
    omega
theorem Con.lt {l : List Wp} (c : Con l) {i j : Nat} {a b : Wp} (h : i < j) (ha : l[i]? = some a) (hb : l[j]? = some b) : a.1.1 < b.1.1 :=
  c.asc (j - i - 1) i a b ha (by rw [show i + (j - i - 1) + 1 = j by omega]; exact hb)
theorem Con.le {l : List Wp} (c : Con l) {i j : Nat} {a b : Wp} (h : i ≤ j) (ha : l[i]? = some a) (hb : l[j]? = some b) : a.1.1 ≤ b.1.1 := by
  rcases Nat.lt_or_ge i j with q | q
  · exact Int.le_of_lt (c.lt q ha hb)
  · have : i = j := by omega
    subst this
    rw [ha] at hb; cases hb; exact Int.le_refl _
theorem Con.take {l : List Wp} (c : Con l) (n : Nat) : Con (l.take n) := fun j a b ha hb => by
  have hl := (List.getElem?_eq_some_iff.mp hb).1
  rw [List.length_take] at hl
  rw [List.getElem?_take_of_lt (by omega)] at ha hb
  exact c j a b ha hb
theorem Con.snoc {xs : List Wp} {x : Wp} (c : Con (xs ++ [x])) : Con xs := by
  have := c.take xs.length
  rwa [List.take_left] at this
theorem Con.last {xs : List Wp} {x y : Wp} (c : Con (xs ++ [x])) (hy : xs.getLast? = some y) : y.1.1 < x.1.1 ∧ x.1.2 = valQ y x.1.1 := by
  have ne : xs ≠ [] := fun z => by rw [z] at hy; cases hy
  have hp := List.length_pos_iff.mpr ne
  rw [List.getLast?_eq_getElem?] at hy
  refine c (xs.length - 1) y x (by rw [List.getElem?_append_left (by omega)]; exact hy) ?_
  rw [show xs.length - 1 + 1 = xs.length by omega, List.getElem?_append_right (Nat.le_refl _)]; simp
theorem Con.add {xs : List Wp} {x : Wp} (c : Con xs) (h : ∀ y, xs.getLast? = some y → y.1.1 < x.1.1 ∧ x.1.2 = valQ y x.1.1) : Con (xs ++ [x]) := fun j a b ha hb => by
  have hl := (List.getElem?_eq_some_iff.mp hb).1
  rw [List.length_append, List.length_singleton] at hl
  rw [List.getElem?_append_left (by omega)] at ha
  by_cases q : j + 1 < xs.length
  · rw [List.getElem?_append_left q] at hb
    exact c j a b ha hb
  · have e : j + 1 = xs.length := by omega
    rw [e, List.getElem?_append_right (Nat.le_refl _), Nat.sub_self] at hb
    cases hb
    exact h a (by rw [List.getLast?_eq_getElem?, show xs.length - 1 = j by omega]; exact ha)
theorem IsAt.app {xs : List Wp} {x c : Wp} {h : Int} (hx : h < x.1.1) : IsAt (xs ++ [x]) h c ↔ IsAt xs h c := by
  constructor
  · rintro ⟨k, e1, e2, e3⟩
    have hl := (List.getElem?_eq_some_iff.mp e1).1
    rw [List.length_append, List.length_singleton] at hl
    by_cases q : k < xs.length
    · rw [List.getElem?_append_left q] at e1
      refine ⟨k, e1, e2, fun j y hy hj => e3 j y ?_ hj⟩
      rw [List.getElem?_append_left (List.getElem?_eq_some_iff.mp hy).1]; exact hy
    · rw [List.getElem?_append_right (by omega), show k - xs.length = 0 by omega] at e1
      cases e1; omega
  · rintro ⟨k, e1, e2, e3⟩
    have hl := (List.getElem?_eq_some_iff.mp e1).1
    refine ⟨k, by rw [List.getElem?_append_left hl]; exact e1, e2, fun j y hy hj => ?_⟩
    by_cases q : j < xs.length
    · rw [List.getElem?_append_left q] at hy
      exact e3 j y hy hj
    · have hl2 := (List.getElem?_eq_some_iff.mp hy).1
      rw [List.length_append, List.length_singleton] at hl2
      rw [List.getElem?_append_right (by omega), show j - xs.length = 0 by omega] at hy
      cases hy; omega
theorem IsAt.end_ {xs : List Wp} {x : Wp} {h : Int} (hx : x.1.1 ≤ h) : IsAt (xs ++ [x]) h x :=
  ⟨xs.length, by rw [List.getElem?_append_right (Nat.le_refl _)]; simp, hx, fun j y hy _ => by
    have := (List.getElem?_eq_some_iff.mp hy).1
    rw [List.length_append, List.length_singleton] at this; omega⟩
theorem snoc_of {l : List Wp} (h : l ≠ []) : ∃ xs x, l = xs ++ [x] := ⟨l.dropLast, l.getLast h, (List.dropLast_concat_getLast h).symm⟩
theorem rev_ind {P : List Wp → Prop} (h0 : P []) (h1 : ∀ xs x, P xs → P (xs ++ [x])) (l : List Wp) : P l := by
  have : ∀ n (l : List Wp), l.length = n → P l := by
    intro n
    induction n with
    | zero => intro l hl; rw [List.length_eq_zero_iff.mp hl]; exact h0
    | succ n ih =>
      intro l hl
      obtain ⟨xs, x, rfl⟩ := snoc_of (l := l) (fun z => by rw [z] at hl; cases hl)
      exact h1 xs x (ih xs (by simpa using hl))
  exact this _ l rfl
theorem last_of {xs : List Wp} (h : xs ≠ []) : ∃ y, xs.getLast? = some y := ⟨_, List.getLast?_eq_some_getLast h⟩
/-- what is left out changes no place -/
theorem thin_isAt {h : Int} (l : List Wp) : Con l → ∀ c, IsAt l h c → ∃ c', IsAt (thinQ l) h c' ∧ valQ c' h = valQ c h ∧ c'.2 = c.2 := by
  refine rev_ind (P := fun l => Con l → ∀ c, IsAt l h c → ∃ c', IsAt (thinQ l) h c' ∧ valQ c' h = valQ c h ∧ c'.2 = c.2) ?_ ?_ l
  · rintro _ c ⟨k, e, _⟩; cases e
  · intro xs x ih con c hc
    by_cases ne : xs = []
    · subst ne
      obtain ⟨p, s⟩ := x
      exact ⟨c, hc, rfl, rfl⟩
    obtain ⟨y, hy⟩ := last_of ne
    obtain ⟨g1, g2⟩ := con.last hy
    rw [thinQ_snoc hy]
    by_cases hx : x.1.1 ≤ h
    · have ec := hc.uniq (IsAt.end_ hx)
      subst ec
      by_cases q : c.2 ≠ y.2
      · rw [if_pos q]
        exact ⟨c, IsAt.end_ hx, rfl, rfl⟩
      · rw [if_neg q, List.append_nil]
        have q : c.2 = y.2 := Decidable.not_not.mp q
        obtain ⟨zs, rfl⟩ := List.getLast?_eq_some_iff.mp hy
        obtain ⟨c', h1, h2, h3⟩ := ih con.snoc y (IsAt.end_ (by omega))
        refine ⟨c', h1, ?_, by rw [h3, q]⟩
        rw [h2]
        unfold valQ at g2 ⊢
        rw [g2, q, Int.add_assoc, ← Int.mul_add]
        congr 2; omega
    · have hx : h < x.1.1 := by omega
      obtain ⟨c', h1, h2, h3⟩ := ih con.snoc c ((IsAt.app hx).mp hc)
      refine ⟨c', ?_, h2, h3⟩
      split
      · exact (IsAt.app hx).mpr h1
      · rw [List.append_nil]; exact h1
theorem thin_ne {l : List Wp} (h : l ≠ []) : thinQ l ≠ [] := by
  cases l with
  | nil => exact absurd rfl h
  | cons x r => obtain ⟨p, s⟩ := x; exact List.cons_ne_nil _ _
theorem thin_con (l : List Wp) : Con l → Con (thinQ l) ∧ ∀ y z, l.getLast? = some y → (thinQ l).getLast? = some z → z.2 = y.2 ∧ z.1.1 ≤ y.1.1 ∧ ∀ h, valQ z h = valQ y h := by
  refine rev_ind (P := fun l => Con l → Con (thinQ l) ∧ ∀ y z, l.getLast? = some y → (thinQ l).getLast? = some z → z.2 = y.2 ∧ z.1.1 ≤ y.1.1 ∧ ∀ h, valQ z h = valQ y h) ?_ ?_ l
  · intro c; exact ⟨c, fun y z e => by cases e⟩
  · intro xs x ih con
    by_cases ne : xs = []
    · subst ne
      obtain ⟨p, s⟩ := x
      refine ⟨con, fun y z e1 e2 => ?_⟩
      cases e1; cases e2; exact ⟨rfl, Int.le_refl _, fun _ => rfl⟩
    obtain ⟨y, hy⟩ := last_of ne
    obtain ⟨z, hz⟩ := last_of (thin_ne ne)
    obtain ⟨g1, g2⟩ := con.last hy
    obtain ⟨i1, i2⟩ := ih con.snoc
    obtain ⟨j1, j2, j3⟩ := i2 y z hy hz
    rw [thinQ_snoc hy]
    by_cases q : x.2 ≠ y.2
    · rw [if_pos q]
      refine ⟨i1.add fun w hw => ?_, fun a b e1 e2 => ?_⟩
      · rw [hz] at hw; cases hw
        exact ⟨by omega, by rw [j3]; exact g2⟩
      · simp at e1 e2
        subst e1; subst e2; exact ⟨rfl, Int.le_refl _, fun _ => rfl⟩
    · rw [if_neg q, List.append_nil]
      have q : x.2 = y.2 := Decidable.not_not.mp q
      refine ⟨i1, fun a b e1 e2 => ?_⟩
      simp at e1
      subst e1
      rw [hz] at e2; cases e2
      refine ⟨by rw [j1, q], by omega, fun h => ?_⟩
      rw [j3]
      unfold valQ at g2 ⊢
      rw [g2, q, Int.add_assoc, ← Int.mul_add]
      congr 2; omega
theorem thin_thin (l : List Wp) : thinQ (thinQ l) = thinQ l := by
  refine rev_ind (P := fun l => thinQ (thinQ l) = thinQ l) rfl ?_ l
  intro xs x ih
  by_cases ne : xs = []
  · subst ne; obtain ⟨p, s⟩ := x; rfl
  obtain ⟨y, hy⟩ := last_of ne
  obtain ⟨z, hz, ez⟩ := thin_last hy
  rw [thinQ_snoc hy]
  by_cases q : x.2 ≠ y.2
  · rw [if_pos q, thinQ_snoc hz, ih, if_pos (by rw [ez]; exact q)]
  · rw [if_neg q, List.append_nil, ih]
theorem thin_thin_snoc {xs : List Wp} {x : Wp} : thinQ (thinQ xs ++ [x]) = thinQ (xs ++ [x]) := by
  by_cases ne : xs = []
  · subst ne; rfl
  obtain ⟨y, hy⟩ := last_of ne
  obtain ⟨z, hz, ez⟩ := thin_last hy
  rw [thinQ_snoc hy, thinQ_snoc hz, thin_thin, ez]
/-- the part ahead of a temperature -/
theorem thin_filter {h : Int} (l : List Wp) : Con l → (thinQ l).filter (fun x => decide (x.1.1 < h)) = thinQ (l.filter fun x => decide (x.1.1 < h)) := by
  refine rev_ind (P := fun l => Con l → (thinQ l).filter (fun x => decide (x.1.1 < h)) = thinQ (l.filter fun x => decide (x.1.1 < h))) (fun _ => rfl) ?_ l
  intro xs x ih con
  by_cases ne : xs = []
  · subst ne
    obtain ⟨p, s⟩ := x
    by_cases q : p.1 < h <;> simp [thinQ, keepQ, q]
  obtain ⟨y, hy⟩ := last_of ne
  have ih := ih con.snoc
  by_cases q : x.1.1 < h
  · have all : ∀ z ∈ xs, z.1.1 < h := fun z hz => by
      obtain ⟨j, hj⟩ := List.mem_iff_getElem?.mp hz
      have hl := (List.getElem?_eq_some_iff.mp hj).1
      have := con.lt (i := j) (j := xs.length) hl (a := z) (b := x) (by rw [List.getElem?_append_left hl]; exact hj) (by rw [List.getElem?_append_right (Nat.le_refl _)]; simp)
      omega
    have e1 : (xs ++ [x]).filter (fun x => decide (x.1.1 < h)) = xs ++ [x] := List.filter_eq_self.mpr fun z hz => by
      rcases List.mem_append.mp hz with hz | hz
      · exact decide_eq_true (all z hz)
      · rw [List.mem_singleton.mp hz]; exact decide_eq_true q
    have e2 : xs.filter (fun x => decide (x.1.1 < h)) = xs := List.filter_eq_self.mpr fun z hz => decide_eq_true (all z hz)
    rw [e2] at ih
    rw [e1, thinQ_snoc hy, List.filter_append, ih]
    congr 1
    split
    · simp [q]
    · rfl
  · have e1 : (xs ++ [x]).filter (fun x => decide (x.1.1 < h)) = xs.filter fun x => decide (x.1.1 < h) := by
      rw [List.filter_append]; simp [q]
    rw [e1, thinQ_snoc hy, List.filter_append, ih]
    have : List.filter (fun x : Wp => decide (x.1.1 < h)) (if x.2 ≠ y.2 then [x] else []) = [] := by
      split
      · simp [q]
      · rfl
    rw [this, List.append_nil]
theorem keep_map {f : Wp → Wp} {g : Int → Int} (hf : ∀ x, (f x).2 = g x.2) (hg : ∀ a b, g a = g b → a = b) : ∀ (l : List Wp) (s : Int), keepQ (g s) (l.map f) = (keepQ s l).map f
  | [], _ => rfl
  | x :: r, s => by
    have ih := keep_map hf hg r x.2
    obtain ⟨p, t⟩ := x
    have e : f (p, t) = ((f (p, t)).1, g t) := Prod.ext rfl (hf (p, t))
    rw [List.map_cons, e]
    show (if g t ≠ g s then ((f (p, t)).1, g t) :: keepQ (g t) (r.map f) else keepQ (g t) (r.map f)) = (if t ≠ s then (p, t) :: keepQ t r else keepQ t r).map f
    rw [ih]
    by_cases q : t = s
    · rw [if_neg (by rw [q]; simp), if_neg (by simp [q])]
    · rw [if_pos (fun z => q (hg _ _ z)), if_pos q, List.map_cons, ← e]
theorem thin_map {f : Wp → Wp} {g : Int → Int} (hf : ∀ x, (f x).2 = g x.2) (hg : ∀ a b, g a = g b → a = b) (l : List Wp) : thinQ (l.map f) = (thinQ l).map f := by
  cases l with
  | nil => rfl
  | cons x r =>
    obtain ⟨p, t⟩ := x
    have e : f (p, t) = ((f (p, t)).1, g t) := Prod.ext rfl (hf (p, t))
    rw [List.map_cons, e]
    show ((f (p, t)).1, g t) :: keepQ (g t) (r.map f) = ((p, t) :: keepQ t r).map f
    rw [keep_map hf hg, List.map_cons, ← e]
/-- every slope stays -/
theorem thin_sl {l : List Wp} {x : Wp} (h : x ∈ l) : ∃ y ∈ thinQ l, y.2 = x.2 := by
  revert h
  refine rev_ind (P := fun l => x ∈ l → ∃ y ∈ thinQ l, y.2 = x.2) (fun z => by cases z) ?_ l
  intro xs z ih hx
  by_cases ne : xs = []
  · subst ne
    obtain ⟨p, s⟩ := z
    exact ⟨x, hx, rfl⟩
  obtain ⟨y, hy⟩ := last_of ne
  obtain ⟨w, hw, ew⟩ := thin_last hy
  rw [thinQ_snoc hy]
  rcases List.mem_append.mp hx with hx | hx
  · obtain ⟨u, hu, eu⟩ := ih hx
    exact ⟨u, List.mem_append_left _ hu, eu⟩
  · rw [List.mem_singleton.mp hx]
    by_cases q : z.2 ≠ y.2
    · rw [if_pos q]
      exact ⟨z, by simp, rfl⟩
    · have q : z.2 = y.2 := Decidable.not_not.mp q
      exact ⟨w, List.mem_append_left _ (List.mem_of_getLast? hw), by rw [ew, q]⟩
theorem thin_mem {l : List Wp} {x : Wp} (h : x ∈ thinQ l) : x ∈ l := by
  revert h
  refine rev_ind (P := fun l => x ∈ thinQ l → x ∈ l) (fun z => z) ?_ l
  intro xs z ih hx
  by_cases ne : xs = []
  · subst ne
    obtain ⟨p, s⟩ := z
    exact hx
  obtain ⟨y, hy⟩ := last_of ne
  rw [thinQ_snoc hy] at hx
  rcases List.mem_append.mp hx with hx | hx
  · exact List.mem_append_left _ (ih hx)
  · split at hx
    · exact List.mem_append_right _ hx
    · cases hx
theorem thin_head {l : List Wp} : (thinQ l)[0]? = l[0]? := by
  cases l with
  | nil => rfl
  | cons x r => obtain ⟨p, s⟩ := x; rfl
/-- the wall of points with their slopes -/
theorem wall_con {l : List Wp} {x : Wp} (c : Con l) (h0 : ∀ x, l[0]? = some x → x.1.1 = 0) (hs : ∀ x ∈ l, isSl x.2) (hx : l.getLast? = some x) : wallQ (l.map Prod.fst) x.2 = some (thinQ l) := by
  obtain ⟨xs, rfl⟩ := List.getLast?_eq_some_iff.mp hx
  have sq : slopesQ ((xs ++ [x]).map Prod.fst) = some (xs.map Prod.snd) := by
    refine slopesQ_iff.mpr ⟨by simp, fun j a b ha hb => ?_⟩
    rw [List.getElem?_map] at ha hb
    obtain ⟨a', ha', rfl⟩ := Option.map_eq_some_iff.mp ha
    obtain ⟨b', hb', rfl⟩ := Option.map_eq_some_iff.mp hb
    obtain ⟨g1, g2⟩ := c j a' b' ha' hb'
    have hl := (List.getElem?_eq_some_iff.mp hb').1
    rw [List.length_append, List.length_singleton] at hl
    have ms := hs a' (List.mem_of_getElem? ha')
    rw [List.getElem?_append_left (by omega)] at ha'
    refine ⟨g1, a'.2, by rw [List.getElem?_map, ha']; rfl, stepQ_of ms g1 ?_⟩
    unfold valQ at g2
    omega
  obtain ⟨p, r, e⟩ : ∃ p r, xs ++ [x] = p :: r := by
    cases xs with
    | nil => exact ⟨x, [], rfl⟩
    | cons p r => exact ⟨p, r ++ [x], rfl⟩
  have z : p.1.1 = 0 ∧ isSl x.2 := ⟨h0 p (by rw [e]; rfl), hs x (by simp)⟩
  have ez : ((xs ++ [x]).map Prod.fst).zip (xs.map Prod.snd ++ [x.2]) = xs ++ [x] := by
    have : xs.map Prod.snd ++ [x.2] = (xs ++ [x]).map Prod.snd := by simp
    rw [this, List.zip_map']
    simp
  show (match (xs ++ [x]).map Prod.fst with
    | [] => none
    | a :: _ => if a.1 = 0 ∧ isSl x.2 then match slopesQ ((xs ++ [x]).map Prod.fst) with
      | some ss => some (thinQ (((xs ++ [x]).map Prod.fst).zip (ss ++ [x.2])))
      | none => none
      else none) = _
  rw [sq]
  have e2 : (xs ++ [x]).map Prod.fst = p.1 :: r.map Prod.fst := by rw [e]; rfl
  rw [show (match (xs ++ [x]).map Prod.fst with
    | [] => none
    | a :: _ => if a.1 = 0 ∧ isSl x.2 then match some (xs.map Prod.snd) with
      | some ss => some (thinQ (((xs ++ [x]).map Prod.fst).zip (ss ++ [x.2])))
      | none => none
      else none) = if p.1.1 = 0 ∧ isSl x.2 then some (thinQ (((xs ++ [x]).map Prod.fst).zip (xs.map Prod.snd ++ [x.2]))) else none from by rw [e2], if_pos z, ez]
/-- no wall with a steep piece -/
theorem wall_steep {l : List Wp} {x : Wp} (c : Con l) (hx : l.getLast? = some x) {y : Wp} (hy : y ∈ l) (ny : ¬ isSl y.2) : wallQ (l.map Prod.fst) x.2 = none := by
  obtain ⟨p, r, rfl⟩ : ∃ p r, l = p :: r := by
    cases l with
    | nil => cases hy
    | cons p r => exact ⟨p, r, rfl⟩
  show (if p.1.1 = 0 ∧ isSl x.2 then match slopesQ ((p :: r).map Prod.fst) with
    | some ss => some (thinQ (((p :: r).map Prod.fst).zip (ss ++ [x.2])))
    | none => none
    else none) = none
  by_cases z : p.1.1 = 0 ∧ isSl x.2
  · rw [if_pos z]
    obtain ⟨j, hj⟩ := List.mem_iff_getElem?.mp hy
    have hl := (List.getElem?_eq_some_iff.mp hj).1
    have nl : j + 1 ≠ (p :: r).length := fun e => by
      rw [List.getLast?_eq_getElem?, ← e, Nat.add_sub_cancel, hj] at hx
      cases hx; exact ny z.2
    obtain ⟨b, hb⟩ : ∃ b, (p :: r)[j + 1]? = some b := ⟨_, List.getElem?_eq_getElem (by omega)⟩
    obtain ⟨g1, g2⟩ := c j y b hj hb
    rw [slopesQ_no (j := j) (a := y.1) (b := b.1) (by rw [List.getElem?_map, hj]; rfl) (by rw [List.getElem?_map, hb]; rfl)]
    rintro ⟨_, s, hs⟩
    obtain ⟨q1, q2⟩ := stepQ_some hs
    unfold valQ at g2
    have e : s * (b.1.1 - y.1.1) = y.2 * (b.1.1 - y.1.1) := by omega
    have := Int.eq_of_mul_eq_mul_right (by omega) e
    rw [this] at q1
    exact ny q1
  · rw [if_neg z]
theorem Con.map {l : List Wp} (c : Con l) {f : Wp → Wp} (h1 : ∀ x, (f x).1.1 = x.1.1) (h2 : ∀ x y, y.1.2 = valQ x y.1.1 → (f y).1.2 = valQ (f x) y.1.1) : Con (l.map f) := fun j a b ha hb => by
  rw [List.getElem?_map] at ha hb
  obtain ⟨a', ha', rfl⟩ := Option.map_eq_some_iff.mp ha
  obtain ⟨b', hb', rfl⟩ := Option.map_eq_some_iff.mp hb
  obtain ⟨g1, g2⟩ := c j a' b' ha' hb'
  rw [h1, h1]
  exact ⟨g1, h2 _ _ g2⟩
theorem rq_neg {n : Int} : (red 40 n).1 < 0 ↔ n < 0 := by
  have e := rq_val n
  have p : (0 : Int) < 2 ^ (40 - (red 40 n).2) := Int.pow_pos (by decide)
  constructor
  · intro h
    rw [← e]
    exact Int.mul_neg_of_neg_of_pos h p
  · intro h
    rw [← e] at h
    rcases Int.lt_or_le (red 40 n).1 0 with q | q
    · exact q
    · have := Int.mul_nonneg q (Int.le_of_lt p)
      omega
/-- a wall's points may be asked -/
structure WallOk (w : List Wp) : Prop where
  ok : ∀ x ∈ w, okq x.1.1 ∧ okq x.1.2 ∧ isSl x.2
  few : w.length ≤ 2 ^ 19
/-- the wall of c's piece may be asked at h -/
structure AtOk (w : List Wp) (h : Int) (c : Wp) : Prop where
  at_ : IsAt w h c
  o1 : okq (h - c.1.1)
  o2 : okq (valQ c h)
theorem isSl_neg {s : Int} (h : isSl s) : isSl (-s) := by unfold isSl at *; omega
theorem okq_sl {n s : Int} (h : okq n) (hs : isSl s) : okq (s * n) := by
  rcases hs with rfl | rfl | rfl
  · rw [show -1 * n = -n by omega]; exact h.neg
  · rw [Int.zero_mul]; exact okq_0
  · rw [Int.one_mul]; exact h
def tiltP (w : List Wp) (t : Int) : List Pt := w.map fun x => (x.1.1, x.1.2 + t * x.1.1)
def turnP (w : List Wp) : List Pt := w.map fun x => (x.1.1, -x.1.2)
/-- the points ahead of h, and the one there -/
def cutP (w : List Wp) (h : Int) (c : Wp) : List Pt := (w.filter fun x => decide (x.1.1 < h)).map (fun x => x.1) ++ [(h, valQ c h)]
/-- a law's line up to h -/
def cutL (ps : List Pt) (h v : Int) : List Pt := ps.filter (fun p => decide (p.1 < h)) ++ [(h, v)]
def cutS (ps : List Pt) (ss : List Int) (h : Int) : List Int := ss.take (ps.filter fun p => decide (p.1 < h)).length ++ [0]
/-! raw lines -/
def scW (x : Wp) : Wp := (q10 x.1, x.2)
theorem zip_sc : ∀ (ps : List Pt) (ss : List Int), (ps.map q10).zip ss = (ps.zip ss).map scW
  | [], _ => by simp
  | _ :: _, [] => by simp
  | p :: ps, s :: ss => by rw [List.map_cons, List.zip_cons_cons, List.zip_cons_cons, List.map_cons, zip_sc ps ss]; rfl
theorem isAt_sc {l : List Wp} {h : Int} {c : Wp} (a : IsAt l h c) : IsAt (l.map scW) (h * 2 ^ 30) (scW c) := by
  obtain ⟨k, e1, e2, e3⟩ := a
  refine ⟨k, by rw [List.getElem?_map, e1]; rfl, ?_, fun j x hx hj => ?_⟩
  · show c.1.1 * 2 ^ 30 ≤ h * 2 ^ 30; omega
  · rw [List.getElem?_map] at hx
    obtain ⟨y, hy, rfl⟩ := Option.map_eq_some_iff.mp hx
    have hj : y.1.1 * 2 ^ 30 ≤ h * 2 ^ 30 := hj
    exact e3 j y hy (by omega)
theorem valQ_sc (c : Wp) (h : Int) : valQ (scW c) (h * 2 ^ 30) = valQ c h * 2 ^ 30 := by
  show c.1.2 * 2 ^ 30 + c.2 * (h * 2 ^ 30 - c.1.1 * 2 ^ 30) = (c.1.2 + c.2 * (h - c.1.1)) * 2 ^ 30
  rw [Int.add_mul, Int.mul_assoc, Int.sub_mul]
theorem isAt_ex {l : List Wp} {h : Int} (h0 : ∀ x, l[0]? = some x → x.1.1 ≤ h) (ne : l ≠ []) : ∃ c, IsAt l h c := by
  have key : ∀ n, n ≤ l.length → 0 < n → ∃ k c, k < n ∧ l[k]? = some c ∧ c.1.1 ≤ h ∧ ∀ (j : Nat) (x : Wp), j < n → l[j]? = some x → x.1.1 ≤ h → j ≤ k := by
    intro n
    induction n with
    | zero => intro _ z; omega
    | succ n ih =>
      intro hn _
      obtain ⟨x, hx⟩ : ∃ x, l[n]? = some x := ⟨_, List.getElem?_eq_getElem (by omega)⟩
      by_cases q : x.1.1 ≤ h
      · exact ⟨n, x, by omega, hx, q, fun j y hj _ _ => by omega⟩
      · have n0 : 0 < n := by
          rcases Nat.eq_zero_or_pos n with z | z
          · subst z; exact absurd (h0 x hx) q
          · exact z
        obtain ⟨k, c, h1, h2, h3, h4⟩ := ih (by omega) n0
        refine ⟨k, c, by omega, h2, h3, fun j y hj hy hl => ?_⟩
        by_cases e : j = n
        · subst e; rw [hx] at hy; cases hy; exact absurd hl q
        · exact h4 j y (by omega) hy hl
  obtain ⟨k, c, h1, h2, h3, h4⟩ := key l.length (Nat.le_refl _) (List.length_pos_iff.mpr ne)
  exact ⟨c, k, h2, h3, fun j x hx hj => h4 j x (List.getElem?_eq_some_iff.mp hx).1 hx hj⟩
/-- the raw pieces of a line -/
theorem LineOk.ne' {ps : List Pt} {ss : List Int} (o : LineOk ps ss) : ps.zip ss ≠ [] := fun z => by
  have h1 := congrArg List.length z
  rw [List.length_zip, o.len, List.length_nil] at h1
  have h2 := List.length_pos_iff.mpr o.ne
  omega
theorem LineOk.con {ps : List Pt} {ss : List Int} (o : LineOk ps ss) : Con (ps.zip ss) := fun j a b ha hb => by
  obtain ⟨a1, a2⟩ := List.getElem?_zip_eq_some.mp ha
  obtain ⟨b1, b2⟩ := List.getElem?_zip_eq_some.mp hb
  obtain ⟨h1, h2, h3⟩ := o.step j a.1 b.1 a.2 a1 b1 a2
  exact ⟨by omega, h3⟩
theorem LineOk.mem {ps : List Pt} {ss : List Int} (o : LineOk ps ss) {x : Wp} (h : x ∈ ps.zip ss) : isSl x.2 ∧ 0 ≤ x.1.1 ∧ x.1.1 ≤ 10 ^ 7 ∧ x.1.2.natAbs ≤ 10 ^ 9 + 10 ^ 7 := by
  obtain ⟨j, hj⟩ := List.mem_iff_getElem?.mp h
  obtain ⟨a1, a2⟩ := List.getElem?_zip_eq_some.mp hj
  have := o.small x.1 (List.mem_of_getElem? a1)
  exact ⟨o.sl _ (List.mem_of_getElem? a2), this⟩
theorem LineOk.head {ps : List Pt} {ss : List Int} (o : LineOk ps ss) : ∀ x, (ps.zip ss)[0]? = some x → x.1.1 = 0 := fun x hx => by
  obtain ⟨a1, a2⟩ := List.getElem?_zip_eq_some.mp hx
  exact (o.first _ a1).1
theorem Con.sc {l : List Wp} (c : Con l) : Con (l.map scW) := fun j a b ha hb => by
  rw [List.getElem?_map] at ha hb
  obtain ⟨x, hx, rfl⟩ := Option.map_eq_some_iff.mp ha
  obtain ⟨y, hy, rfl⟩ := Option.map_eq_some_iff.mp hb
  obtain ⟨g1, g2⟩ := c j x y hx hy
  refine ⟨?_, ?_⟩
  · show x.1.1 * 2 ^ 30 < y.1.1 * 2 ^ 30; omega
  · show y.1.2 * 2 ^ 30 = valQ (scW x) (y.1.1 * 2 ^ 30)
    rw [valQ_sc, g2]
theorem okq30 {n : Int} (h : n.natAbs ≤ 10 ^ 12) : okq (n * 2 ^ 30) := okq_of (p := 10) (by decide) h
/-! raw lines and their walls -/
theorem cutW_len {l : List Wp} {h v : Int} : (l.filter (fun x => decide (x.1.1 < h)) ++ [((h, v), (0 : Int))]).length ≤ l.length + 1 := by
  have := List.length_filter_le (fun x : Wp => decide (x.1.1 < h)) l
  rw [List.length_append, List.length_singleton]; omega
structure RawOk (H V : Nat) (l : List Wp) : Prop where
  con : Con l
  ne : l ≠ []
  head : ∀ x, l[0]? = some x → x.1.1 = 0
  mem : ∀ x ∈ l, isSl x.2 ∧ 0 ≤ x.1.1 ∧ x.1.1 ≤ H ∧ x.1.2.natAbs ≤ V
  few : l.length ≤ 900
def wallR (l : List Wp) : List Wp := thinQ (l.map scW)
theorem wallL_R (ps : List Pt) (ss : List Int) : wallL ps ss = wallR (ps.zip ss) := by unfold wallL wallR; rw [zip_sc]
theorem wallR_map (l : List Wp) : wallR l = (thinQ l).map scW := thin_map (f := scW) (g := fun s => s) (fun _ => rfl) (fun _ _ h => h) l
theorem LineOk.raw {ps : List Pt} {ss : List Int} (o : LineOk ps ss) : RawOk (10 ^ 7) (10 ^ 9 + 10 ^ 7) (ps.zip ss) :=
  ⟨o.con, o.ne', o.head, fun x hx => by have := o.mem hx; exact ⟨this.1, by omega, by omega, by omega⟩, by rw [List.length_zip]; have := o.few; omega⟩
/-- the law's cut line is the cut of its pieces -/
theorem filter_take {l : List Wp} (con : Con l) (h : Int) : l.filter (fun x => decide (x.1.1 < h)) = l.take (l.filter fun x => decide (x.1.1 < h)).length := by
  revert con
  refine rev_ind (P := fun l => Con l → l.filter (fun x => decide (x.1.1 < h)) = l.take (l.filter fun x => decide (x.1.1 < h)).length) (fun _ => rfl) ?_ l
  intro xs x ih con
  have ih := ih con.snoc
  have fl := List.length_filter_le (fun x : Wp => decide (x.1.1 < h)) xs
  by_cases q : x.1.1 < h
  · have e : (xs ++ [x]).filter (fun x => decide (x.1.1 < h)) = xs ++ [x] := List.filter_eq_self.mpr fun z hz => by
      rcases List.mem_append.mp hz with hz | hz
      · obtain ⟨j, hj⟩ := List.mem_iff_getElem?.mp hz
        have hl := (List.getElem?_eq_some_iff.mp hj).1
        have := con.lt (i := j) (j := xs.length) hl (a := z) (b := x) (by rw [List.getElem?_append_left hl]; exact hj) (by rw [List.getElem?_append_right (Nat.le_refl _)]; simp)
        exact decide_eq_true (by omega)
      · rw [List.mem_singleton.mp hz]; exact decide_eq_true q
    rw [e, List.take_length]
  · have e : (xs ++ [x]).filter (fun x => decide (x.1.1 < h)) = xs.filter fun x => decide (x.1.1 < h) := by
      rw [List.filter_append]; simp [q]
    rw [e, List.take_append_of_le_length fl]
    exact ih
theorem zip_filter {ps : List Pt} {ss : List Int} (hl : ps.length = ss.length) (h : Int) : ps.filter (fun p => decide (p.1 < h)) = ((ps.zip ss).filter fun x => decide (x.1.1 < h)).map Prod.fst := by
  have e : ps = (ps.zip ss).map Prod.fst := (List.map_fst_zip (by omega)).symm
  conv => lhs; rw [e]
  rw [List.filter_map]
  rfl
theorem cut_zip {ps : List Pt} {ss : List Int} (hl : ps.length = ss.length) (con : Con (ps.zip ss)) (h v : Int) : (cutL ps h v).zip (cutS ps ss h) = (ps.zip ss).filter (fun x => decide (x.1.1 < h)) ++ [((h, v), 0)] ∧ (cutL ps h v).length = (cutS ps ss h).length := by
  have e1 := zip_filter hl h
  have e2 := filter_take con h
  have fl : ((ps.zip ss).filter fun x => decide (x.1.1 < h)).length ≤ (ps.zip ss).length := List.length_filter_le _ _
  rw [List.length_zip] at fl
  have el : (ps.filter fun p => decide (p.1 < h)).length = ((ps.zip ss).filter fun x => decide (x.1.1 < h)).length := by rw [e1, List.length_map]
  have et : ps.filter (fun p => decide (p.1 < h)) = ps.take ((ps.zip ss).filter fun x => decide (x.1.1 < h)).length := by
    rw [e1]
    conv => lhs; rw [e2, List.map_take, List.map_fst_zip (by omega)]
  unfold cutL cutS
  rw [el]
  have len : (ps.filter fun p => decide (p.1 < h)).length = (ss.take ((ps.zip ss).filter fun x => decide (x.1.1 < h)).length).length := by
    rw [el, List.length_take, Nat.min_eq_left (by omega)]
  refine ⟨?_, by rw [List.length_append, List.length_append, len]; rfl⟩
  rw [List.zip_append len, et]
  congr 1
  conv => rhs; rw [e2]
  simp only [List.zip, List.take_zipWith]
section
variable {H V : Nat} {l : List Wp} {h : Int} {c : Wp}
theorem RawOk.wall (o : RawOk H V l) (hb : H + V ≤ 10 ^ 11) : WallOk (wallR l) := by
  refine ⟨fun x hx => ?_, ?_⟩
  · rw [wallR_map] at hx
    obtain ⟨y, hy, rfl⟩ := List.mem_map.mp hx
    have m := o.mem y (thin_mem hy)
    exact ⟨okq30 (n := y.1.1) (by omega), okq30 (n := y.1.2) (by omega), m.1⟩
  · have := o.few
    unfold wallR
    have e := thinQ_len (l.map scW)
    rw [List.length_map] at e
    omega
theorem RawOk.isAt (o : RawOk H V l) (h0 : 0 ≤ h) : ∃ c, IsAt l h c ∧ c ∈ l := by
  obtain ⟨c, hc⟩ := isAt_ex (l := l) (h := h) (fun x hx => by rw [o.head x hx]; exact h0) o.ne
  obtain ⟨k, e, _⟩ := id hc
  exact ⟨c, hc, List.mem_of_getElem? e⟩
theorem val_bound {c : Wp} {h : Int} {H V : Nat} (hs : isSl c.2) (h1 : 0 ≤ c.1.1) (h2 : c.1.1 ≤ h) (h3 : h ≤ H) (h4 : c.1.2.natAbs ≤ V) : (valQ c h).natAbs ≤ V + H := by
  unfold valQ
  rcases hs with e | e | e <;> rw [e] <;> omega
theorem RawOk.at_ (o : RawOk H V l) (hb : H + V ≤ 10 ^ 11) (hc : IsAt l h c) (hm : c ∈ l) (hh : h ≤ 10 ^ 11) : ∃ c', AtOk (wallR l) (h * 2 ^ 30) c' ∧ valQ c' (h * 2 ^ 30) = valQ c h * 2 ^ 30 ∧ c'.2 = c.2 := by
  obtain ⟨c', h1, h2, h3⟩ := thin_isAt (l.map scW) o.con.sc (scW c) (isAt_sc hc)
  have m := o.mem c hm
  have e2 : valQ c' (h * 2 ^ 30) = valQ c h * 2 ^ 30 := by rw [h2, valQ_sc]
  have le : c.1.1 ≤ h := by obtain ⟨_, _, q, _⟩ := hc; exact q
  have vb := val_bound (H := 10 ^ 11) m.1 m.2.1 le hh m.2.2.2
  refine ⟨c', ⟨h1, ?_, ?_⟩, e2, h3⟩
  · obtain ⟨k, e, q, _⟩ := h1
    have hx := List.mem_of_getElem? e
    rw [← wallR, wallR_map] at hx
    obtain ⟨y, hy, rfl⟩ := List.mem_map.mp hx
    have my := o.mem y (thin_mem hy)
    have q : y.1.1 * 2 ^ 30 ≤ h * 2 ^ 30 := q
    show okq (h * 2 ^ 30 - y.1.1 * 2 ^ 30)
    rw [← Int.sub_mul]
    exact okq30 (by omega)
  · rw [e2]
    exact okq30 (by omega)
/-- the line cut at h -/
def cutW (l : List Wp) (h v : Int) : List Wp := l.filter (fun x => decide (x.1.1 < h)) ++ [((h, v), 0)]
theorem filter_all {xs : List Wp} {h : Int} (all : ∀ z ∈ xs, z.1.1 < h) : xs.filter (fun x => decide (x.1.1 < h)) = xs := List.filter_eq_self.mpr fun z hz => decide_eq_true (all z hz)
theorem Con.ahead {xs : List Wp} {x : Wp} (c : Con (xs ++ [x])) : ∀ z ∈ xs, z.1.1 < x.1.1 := fun z hz => by
  obtain ⟨j, hj⟩ := List.mem_iff_getElem?.mp hz
  have hl := (List.getElem?_eq_some_iff.mp hj).1
  exact c.lt (i := j) (j := xs.length) hl (by rw [List.getElem?_append_left hl]; exact hj) (by rw [List.getElem?_append_right (Nat.le_refl _)]; simp)
theorem cut_con (l : List Wp) : Con l → ∀ c, IsAt l h c → Con (cutW l h (valQ c h)) := by
  refine rev_ind (P := fun l => Con l → ∀ c, IsAt l h c → Con (cutW l h (valQ c h))) ?_ ?_ l
  · rintro _ c ⟨k, e, _⟩; cases e
  · intro xs x ih con c hc
    have ah := con.ahead
    by_cases q : x.1.1 ≤ h
    · have ec := hc.uniq (IsAt.end_ q)
      subst ec
      unfold cutW
      by_cases q2 : c.1.1 < h
      · rw [filter_all (xs := xs ++ [c]) (fun z hz => by
          rcases List.mem_append.mp hz with hz | hz
          · have := ah z hz; omega
          · rw [List.mem_singleton.mp hz]; exact q2)]
        refine con.add fun y hy => ?_
        simp at hy
        subst hy
        exact ⟨q2, rfl⟩
      · have eh : c.1.1 = h := by omega
        have e1 : (xs ++ [c]).filter (fun x => decide (x.1.1 < h)) = xs := by
          rw [List.filter_append, filter_all (fun z hz => by have := ah z hz; omega)]
          simp [q2]
        rw [e1]
        refine con.snoc.add fun y hy => ?_
        obtain ⟨g1, g2⟩ := con.last hy
        refine ⟨by rw [← eh]; exact g1, ?_⟩
        show valQ c h = valQ y h
        rw [← eh, ← g2]
        unfold valQ
        rw [Int.sub_self, Int.mul_zero, Int.add_zero]
    · have q : h < x.1.1 := by omega
      have := ih con.snoc c ((IsAt.app q).mp hc)
      unfold cutW at this ⊢
      rw [List.filter_append]
      have e : List.filter (fun x : Wp => decide (x.1.1 < h)) [x] = [] := by simp; omega
      rw [e, List.append_nil]
      exact this
theorem cut_head {l : List Wp} {v : Int} (con : Con l) (hd : ∀ x, l[0]? = some x → x.1.1 = 0) (ne : l ≠ []) (h0 : 0 ≤ h) : ∀ x, (cutW l h v)[0]? = some x → x.1.1 = 0 := fun x hx => by
  cases l with
  | nil => exact absurd rfl ne
  | cons a r =>
    have ha := hd a rfl
    unfold cutW at hx
    by_cases q : a.1.1 < h
    · have e : (a :: r).filter (fun x => decide (x.1.1 < h)) = a :: r.filter (fun x => decide (x.1.1 < h)) := List.filter_cons_of_pos (by exact decide_eq_true q)
      rw [e] at hx
      cases hx; exact ha
    · have e : (a :: r).filter (fun x => decide (x.1.1 < h)) = [] := List.filter_eq_nil_iff.mpr fun z hz => by
        obtain ⟨j, hj⟩ := List.mem_iff_getElem?.mp hz
        have := con.le (i := 0) (j := j) (Nat.zero_le _) rfl hj
        simp
        omega
      rw [e] at hx
      cases hx
      show h = 0
      omega
theorem cutW_sc {l : List Wp} {v : Int} : (cutW l h v).map scW = cutW (l.map scW) (h * 2 ^ 30) (v * 2 ^ 30) := by
  unfold cutW
  rw [List.map_append, List.filter_map]
  congr 2
  refine List.filter_congr fun x _ => ?_
  show decide (x.1.1 < h) = decide (x.1.1 * 2 ^ 30 < h * 2 ^ 30)
  exact decide_eq_decide.mpr (by omega)
theorem cut_thin {l : List Wp} {v : Int} (con : Con l) : thinQ (cutW (thinQ l) h v) = thinQ (cutW l h v) := by
  unfold cutW
  rw [thin_filter l con, thin_thin_snoc]
theorem cutP_W {w : List Wp} {c : Wp} : cutP w h c = (cutW w h (valQ c h)).map Prod.fst := by
  unfold cutP cutW
  rw [List.map_append]; rfl
theorem RawOk.cut (o : RawOk H V l) (fw : l.length < 900) (h0 : 0 ≤ h) (hc : IsAt l h c) (hm : c ∈ l) {H' : Nat} (h1 : h ≤ H') (h2 : H ≤ H') : RawOk H' (V + H') (cutW l h (valQ c h)) := by
  have m := o.mem c hm
  have le : c.1.1 ≤ h := by obtain ⟨_, _, q, _⟩ := hc; exact q
  have vb := val_bound m.1 m.2.1 le h1 m.2.2.2
  refine ⟨cut_con l o.con c hc, by unfold cutW; simp, cut_head o.con o.head o.ne h0, fun x hx => ?_, ?_⟩
  · rcases List.mem_append.mp hx with hx | hx
    · have := o.mem x (List.mem_filter.mp hx).1
      exact ⟨this.1, this.2.1, by omega, by omega⟩
    · rw [List.mem_singleton.mp hx]
      exact ⟨.inr (.inl rfl), h0, h1, vb⟩
  · have e := cutW_len (l := l) (h := h) (v := valQ c h)
    unfold cutW
    omega
theorem RawOk.near (o : RawOk H V l) (hb : H ≤ 10 ^ 11 ∧ V ≤ 10 ^ 11) : nearQ ((l.map scW).map Prod.fst) := by
  have e : (l.map scW).map Prod.fst = (l.map Prod.fst).map q10 := by rw [List.map_map, List.map_map]; rfl
  rw [e]
  refine near_small fun p hp => ?_
  obtain ⟨x, hx, rfl⟩ := List.mem_map.mp hp
  have := o.mem x hx
  omega
theorem RawOk.thin (o : RawOk H V l) : RawOk H V (thinQ l) := by
  refine ⟨(thin_con l o.con).1, thin_ne o.ne, fun x hx => o.head x (by rw [← thin_head]; exact hx), fun x hx => o.mem x (thin_mem hx), ?_⟩
  have := thinQ_len l
  have := o.few
  omega
theorem RawOk.thin_of (o : RawOk H V l) {x : Wp} (hx : l.getLast? = some x) : wallQ ((l.map scW).map Prod.fst) x.2 = some (wallR l) := by
  have := wall_con (l := l.map scW) (x := scW x) o.con.sc (fun y hy => by
    rw [List.getElem?_map] at hy
    obtain ⟨z, hz, rfl⟩ := Option.map_eq_some_iff.mp hy
    show z.1.1 * 2 ^ 30 = 0
    rw [o.head z hz, Int.zero_mul]) (fun y hy => by
    obtain ⟨z, hz, rfl⟩ := List.mem_map.mp hy
    exact (o.mem z hz).1) (by rw [List.getLast?_map, hx]; rfl)
  exact this
theorem RawOk.cutted (o : RawOk H V l) (fw : l.length < 900) (h0 : 0 ≤ h) (hc : IsAt l h c) {H' : Nat} (h1 : h ≤ H') (h2 : H ≤ H') (hb : V + H' ≤ 10 ^ 11) {c' : Wp} (ev : valQ c' (h * 2 ^ 30) = valQ c h * 2 ^ 30) : nearQ (cutP (wallR l) (h * 2 ^ 30) c') ∧ wallQ (cutP (wallR l) (h * 2 ^ 30) c') 0 = some (wallR (cutW l h (valQ c h))) := by
  obtain ⟨d, d1, d2, d3⟩ := thin_isAt l o.con c hc
  have dm : d ∈ thinQ l := by obtain ⟨k, e, _⟩ := d1; exact List.mem_of_getElem? e
  have tl := thinQ_len l
  have oc := o.thin.cut (by omega) h0 d1 dm h1 h2
  rw [d2] at oc
  have e : cutP (wallR l) (h * 2 ^ 30) c' = ((cutW (thinQ l) h (valQ c h)).map scW).map Prod.fst := by
    rw [cutP_W, ev, wallR_map, cutW_sc]
  rw [e]
  refine ⟨oc.near ⟨by omega, hb⟩, ?_⟩
  have := oc.thin_of (x := ((h, valQ c h), 0)) (by unfold cutW; simp)
  rw [this, wallR_map, wallR_map, cut_thin o.con]
/-- changed piece by piece: f raw, F over 2 ^ 40, g the slopes -/
structure Chg (f F : Wp → Wp) (g : Int → Int) : Prop where
  sc : ∀ x, F (scW x) = scW (f x)
  h : ∀ x, (f x).1.1 = x.1.1
  s : ∀ x, (F x).2 = g x.2
  inj : ∀ a b, g a = g b → a = b
  on : ∀ x y : Wp, y.1.2 = valQ x y.1.1 → (f y).1.2 = valQ (f x) y.1.1
theorem wallR_chg {f F : Wp → Wp} {g : Int → Int} (k : Chg f F g) (l : List Wp) : (wallR l).map F = wallR (l.map f) := by
  unfold wallR
  rw [← thin_map k.s k.inj, List.map_map, List.map_map]
  congr 1
  refine List.map_congr_left fun x _ => k.sc x
theorem RawOk.chg {f F : Wp → Wp} {g : Int → Int} (k : Chg f F g) (o : RawOk H V l) {V' : Nat} (hs : ∀ x ∈ l, isSl (f x).2 ∧ (f x).1.2.natAbs ≤ V') : RawOk H V' (l.map f) := by
  refine ⟨o.con.map k.h k.on, by simpa using o.ne, fun x hx => ?_, fun x hx => ?_, by rw [List.length_map]; exact o.few⟩
  · rw [List.getElem?_map] at hx
    obtain ⟨y, hy, rfl⟩ := Option.map_eq_some_iff.mp hx
    rw [k.h]; exact o.head y hy
  · obtain ⟨y, hy, rfl⟩ := List.mem_map.mp hx
    have m := o.mem y hy
    have q := hs y hy
    rw [k.h]
    exact ⟨q.1, m.2.1, m.2.2.1, q.2⟩
/-- the changed wall, made of the changed points -/
theorem RawOk.remade {f F : Wp → Wp} {g : Int → Int} (k : Chg f F g) (o : RawOk H V l) {V' : Nat} (hs : ∀ x ∈ l, isSl (f x).2 ∧ (f x).1.2.natAbs ≤ V') (hb : H ≤ 10 ^ 11 ∧ V' ≤ 10 ^ 11) {z : Wp} (hz : (wallR l).getLast? = some z) : nearQ (((wallR l).map F).map Prod.fst) ∧ wallQ (((wallR l).map F).map Prod.fst) (F z).2 = some (wallR (l.map f)) := by
  have ot := o.thin.chg k (V' := V') fun x hx => hs x (thin_mem hx)
  have e : (wallR l).map F = ((thinQ l).map f).map scW := by
    rw [wallR_map, List.map_map, List.map_map]
    exact List.map_congr_left fun x _ => k.sc x
  rw [e]
  refine ⟨ot.near hb, ?_⟩
  rw [wallR_map, List.getLast?_map] at hz
  obtain ⟨y, hy, rfl⟩ := Option.map_eq_some_iff.mp hz
  have := ot.thin_of (x := f y) (by rw [List.getLast?_map, hy]; rfl)
  rw [k.sc]
  show wallQ _ (f y).2 = _
  rw [this]
  congr 1
  show thinQ (((thinQ l).map f).map scW) = wallR (l.map f)
  rw [← e, ← wallR_chg k]
  have e2 := thin_map k.s k.inj (wallR l)
  rw [e2]
  congr 1
  exact thin_thin _
end
/-- tilted by t -/
def tilF (t : Int) (x : Wp) : Wp := ((x.1.1, x.1.2 + t * x.1.1), x.2 + t)
theorem til_chg (t : Int) : Chg (tilF t) (tilF t) (fun s => s + t) where
  sc := fun x => by
    show ((x.1.1 * 2 ^ 30, x.1.2 * 2 ^ 30 + t * (x.1.1 * 2 ^ 30)), x.2 + t) = ((x.1.1 * 2 ^ 30, (x.1.2 + t * x.1.1) * 2 ^ 30), x.2 + t)
    rw [Int.add_mul, Int.mul_assoc]
  h := fun _ => rfl
  s := fun _ => rfl
  inj := fun a b h => by have h : a + t = b + t := h; omega
  on := fun x y h => by
    show y.1.2 + t * y.1.1 = x.1.2 + t * x.1.1 + (x.2 + t) * (y.1.1 - x.1.1)
    rw [h, Int.add_mul, Int.mul_sub t]
    unfold valQ
    omega
def negF (x : Wp) : Wp := ((x.1.1, -x.1.2), -x.2)
theorem neg_chg : Chg negF negF (fun s => -s) where
  sc := fun x => by
    show ((x.1.1 * 2 ^ 30, -(x.1.2 * 2 ^ 30)), -x.2) = ((x.1.1 * 2 ^ 30, -x.1.2 * 2 ^ 30), -x.2)
    rw [Int.neg_mul]
  h := fun _ => rfl
  s := fun _ => rfl
  inj := fun a b h => by have h : -a = -b := h; omega
  on := fun x y h => by
    show -y.1.2 = -x.1.2 + -x.2 * (y.1.1 - x.1.1)
    rw [h, Int.neg_mul]
    unfold valQ
    omega
theorem tiltP_W (w : List Wp) (t : Int) : tiltP w t = (w.map (tilF t)).map Prod.fst := by unfold tiltP; rw [List.map_map]; rfl
theorem turnP_W (w : List Wp) : turnP w = (w.map negF).map Prod.fst := by unfold turnP; rw [List.map_map]; rfl
theorem near_raw {l : List Wp} (h : ∀ x ∈ l, x.1.1.natAbs ≤ 10 ^ 11 ∧ x.1.2.natAbs ≤ 10 ^ 11) : nearQ ((l.map scW).map Prod.fst) := by
  have e : (l.map scW).map Prod.fst = (l.map Prod.fst).map q10 := by rw [List.map_map, List.map_map]; rfl
  rw [e]
  refine near_small fun p hp => ?_
  obtain ⟨x, hx, rfl⟩ := List.mem_map.mp hp
  exact h x hx
theorem zip_map2 {f : Wp → Wp} {f1 : Pt → Pt} {f2 : Int → Int} (h : ∀ x, f x = (f1 x.1, f2 x.2)) : ∀ (ps : List Pt) (ss : List Int), (ps.zip ss).map f = (ps.map f1).zip (ss.map f2)
  | [], _ => by simp
  | _ :: _, [] => by simp
  | p :: ps, s :: ss => by rw [List.zip_cons_cons, List.map_cons, List.map_cons, List.map_cons, List.zip_cons_cons, zip_map2 h ps ss, h]
/-! a caught exception handed on to a def of the script's own -/
structure RoomX (k : Nat) (A : Around) : Prop where
  dp : A.depth + k + 17 < recursionLimit
  un : A.units + 4 * k + 300 < cLine
section
variable {j k : Nat} {A : Around}
theorem RoomX.mono (r : RoomX k A) (h : j ≤ k) : RoomX j A := ⟨by have := r.dp; omega, by have := r.un; omega⟩
theorem RoomX.deeper (r : RoomX (k + 1) A) (env : Env) : RoomX k (A.deeper env) := by
  refine ⟨?_, ?_⟩
  · have := r.dp
    show A.depth + 1 + k + 17 < _
    omega
  · have := r.un
    show A.units + 3 + 4 * k + 300 < _
    omega
theorem RoomX.units (r : RoomX k A) : A.units + 64 < cLine := by have := r.un; omega
theorem Room.x (r : Room k A) {v : Option Value} : RoomX k (A.mark v) := ⟨r.dp, r.un⟩
theorem RoomX.depth (r : RoomX k A) : A.depth < recursionLimit := by
  have := r.dp
  omega
end
/-- the exception D, held: its object p, out of the reach of what is tracked -/
structure ExcAt (K : PySem.W.Frag) (D : Addr) (p : Addr × Obj) : Prop where
  c : ExcC K D
  z : L2N.Zn (.ref D) none p.2
  f : ∃ vs, p.2.data = .fields vs
structure FnX (P : Program) (w : World) (K : PySem.W.Frag) (mg : Str → Option Value) (base : Heap) (k : Nat) (f : Addr) (fd : FuncData) (ps : List Str) (asp : Addr → Addr → ASp) : Prop where
  len : ∀ D a ds L P R, asp D a ds L P R → ds.length = ps.length
  run : ∀ (A : Around) (outer : List Env) (s : Shared) (H : Hp) (args : Args) (us : List Value) (vs : List V) (Q : VK) (E : XK) (p : Addr × Obj) (D : Addr), RoomX k A → ExcAt K D p → A.handled = some (.ref p.1) → L2H.PinOk outer H s p →
    Env0 P w K mg base A outer s H → BindsTo s fd args (ps.zip us) → Vals vs us → liftSp ⟨P, w, K⟩ (asp D p.1) vs H Q E →
      codeAny (model P w) A (.call (.ref f) args) (CR (L2N.CX P w) outer P w H s Q E) s
section
variable {P : Program} {w : World} {K : PySem.W.Frag} {mg : Str → Option Value} {base : Heap} {k : Nat} {f : Addr} {fd : FuncData} {N ps : List Str} {x qual : Str} {st : Stmt} {asp : Addr → Addr → ASp} {tb : Addr → Addr → AS}
theorem fun_okX (F : Fun K x qual st f fd) (S : FnScope N ps (defScope st))
    (len : ∀ D a ds L P R, asp D a ds L P R → ds.length = ps.length)
    (der : ∀ (cdv : Value) (A : Around) (outer : List Env) (s : Shared) (H : Hp) (E : XK) (p : Addr × Obj) (D : Addr), RoomX k (A.deeper (envOfC qual (defScope st) s.heap.objs.size f cdv)) → ExcAt K D p → A.handled = some (.ref p.1) →
      PSs (L2H.cxH (L2N.CX P w) P w K mg base N qual (defScope st) f cdv A outer s H E p) (defBody st) (cS ⟨P, w, K⟩ (fun cls d _ H => E cls d H) (tb D p.1)))
    (read : ∀ D a ds L P R, asp D a ds L P R → tb D a ⟨fun _ L => P .non L, P, fun _ _ => False, fun _ _ => False, fun c _ L => R c L⟩ (startA N.length ds) L) : FnX P w K mg base (k + 1) f fd ps asp := by
  obtain ⟨_, _, _, _, _, _, cdv, _, _, rfl, lk, hcd⟩ := F.ex
  refine ⟨len, fun A outer s H args us vs Q E p D hr hx hh hpin e0 hb r hsp => ?_⟩
  obtain ⟨ds, I, L, F0, P0, R, Ab0, rd, h, q, qx⟩ := hsp
  have hl : vs.length = ps.length := by rw [← rd.length]; exact len _ _ _ _ _ _ h
  have KX : K.In s.heap := e0.mod.kin.keeps fun b o e => (e0.bs b o e).1
  have lim : s.heap.NoLimit := e0.mod.nolimit.keeps fun b o e => (e0.bs b o e).1
  have hkind : ∀ y ∈ ps.zip us, (defScope st).names.lookup y.1 = some .local ∨ ((defScope st).names.lookup y.1 = some .cell ∧ ((cellsFrom (s.heap.objs.size + 1) (defScope st).names []).lookup y.1).isSome = true) := fun ⟨n, v⟩ hy => by
    rcases S.par n (List.of_mem_zip hy).1 with q | q
    · exact .inl q
    · exact .inr ⟨q, PySem.W.cellsFrom_some _ _ _ (.inl q)⟩
  refine codeAny_call_function hr.depth (KX _ _ lk) rfl S.co S.gen rfl (PySem.W.codeRec_of KX hcd) (hb _ _ _ _ ?_)
  refine wpAny_newFunctionEnv_cells S.kind hkind fun env he s1 y => ?_
  subst he
  refine ⟨lim.keeps y.toInCall.keep, codeAny_func ?_⟩
  have J : Inv (L2H.cxH (L2N.CX P w) P w K mg base N qual (defScope st) f cdv A outer s H E p) [] (L2.start N vs) H s1 := L2H.inv_startH S hpin e0 hl r y
  refine wpAny_mono ((der cdv A outer s H E p D (hr.deeper _) hx hh).run [] s1 (L2.start N vs) H { nx := fun _ H' => Q .non H', rt := Q } J ⟨I, L, F0, _, _, ⟨Ab0, startA_rp rd, fun c ρ' σ' L' I' H' h' A' e' _ => qx c L' I' H' h' A' e'⟩, read D p.1 ds L P0 R h, ⟨fun ρ' L' σ' I' H' h' A' e' _ => q _ _ _ _ _ h' A' e' .non, q, fun _ _ _ _ _ z => z.elim, fun _ _ _ _ _ z => z.elim⟩⟩) (fun fl s' hs => ?_) fun e s' hs => hs
  cases fl with
  | ret u => exact let ⟨v, _, H', J, rel, q⟩ := hs; ⟨v, H', J.os, J.bare, J.base, J.hok, rel, q⟩
  | next => exact let ⟨_, H', J, q⟩ := hs; ⟨V.non, H', J.os, J.bare, J.base, J.hok, rfl, q⟩
  | brk => exact let ⟨_, _, _, q⟩ := hs; q.elim
  | cont => exact let ⟨_, _, _, q⟩ := hs; q.elim
end
section
variable {X : Cx} {W : WX} {D : Addr} {pp : Addr × Obj} {k : Nat} {f : Addr} {fd : FuncData} {ps : List Str} {asp : Addr → Addr → ASp} {x : Str} {p pos : Pos} {e e2 : Expr} {es : List Expr} {t : AA}
theorem call_isEP (C : ExcAt X.K D pp) (hp : pp ∈ X.pn) : CallR X (.builtin "isinstance") (rIsE X.K D pp.1) := by
  intro pins s σ H xs us Q I r h
  obtain ⟨c, cv, b, rfl, hcv, e, q⟩ := h
  cases r with
  | cons rx rr =>
    cases rr with
    | cons rt rr =>
      cases rr
      cases rx
      have ec := hcv _ rt
      subst ec
      obtain ⟨hget, _⟩ := I.pin pp (List.mem_append.mpr (.inl hp))
      obtain ⟨vs, hv⟩ := C.f
      have J : PySem.W.InstAt s.heap pp.1 pp.2 D none := by
        obtain ⟨a, oe⟩ := pp
        obtain ⟨oc, od, oda, osl⟩ := oe
        obtain ⟨h1, h2, _⟩ := C.z
        dsimp only at h1 h2 hv
        subst h1 h2 hv
        exact ⟨hget, rfl, rfl, trivial⟩
      exact PySem.W.kia_one (PySem.W.handS_kitx_exc C.c.hg C.c.hk C.c.hs C.c.hd C.c.ha C.c.hn C.c.ht C.c.hm) I.kIn J e (fun z => nomatch z) fun tk => ⟨.bl b, H, I.kept (t' := tk) fun _ _ z => z, rfl, q⟩
theorem a_isEP (C : ExcAt X.K D pp) (hp : pp ∈ X.pn) (hg : Gl X "isinstance") (hm : X.mg "isinstance" = none) (ha : PA X [e, e2] (cA X.kx W t))
    (he : starEach [e, e2] X.env = (false, eval e X.env) :: starEach [e2] X.env := by rfl) (hpl : (backTo pos (starEach [e2] X.env)).any (·.1) = false := by rfl) : PE X (.Call (.Name "isinstance" p) [e, e2] [] pos) (cE X.kx W (aCB (bIsE X.K D pp.1) t)) :=
  a_callB (call_isEP C hp) bIsE_ok hg hm (by decide +kernel) ha (he := he) (hpl := hpl)
theorem a_callX (C : ExcAt X.K D pp) (hp : pp ∈ X.pn) (F : FnX X.prog X.w X.K X.mg X.base k f fd ps asp) (hr : RoomX k X.A) (hg : Gl X x) (hm : X.mg x = some (.ref f)) (hk : PySem.W.keepIn X.K (.ref f) = true) (hb : Binds X.K fd ps []) (tk : L2N.Takes X W) (ga : GoArgs X es (cA X.kx W t))
    (hdb : (x == ("__debug__" : Str)) = false := by decide) (hh : X.A.handled = some (.ref pp.1) := by rfl) : PE X (.Call (.Name x p) es [] pos) (cE X.kx W (aCall (asp D pp.1) [] t)) := by
  refine ⟨fun pins s σ H Q I h => ?_⟩
  obtain ⟨I0, L, F0, ρ, P, px, S, h, q⟩ := h
  refine wpAny_Call_Name_kw (ld_glob I hg hm ?_ hdb)
  refine ga pos f [] pins s σ H _ hk I ⟨I0, L, F0, ρ, _, px, S, h, fun ds L1 vs I1 H1 h1 A1 e1 r1 s1 us J r => ?_⟩
  rw [List.append_nil] at h1
  have hl : vs.length = ps.length := by rw [← r1.length]; exact F.len _ _ _ _ _ _ h1
  have P1 := J.pin pp (List.mem_append_left _ hp)
  have hpin : L2H.PinOk X.stack H1 s1 pp := ⟨P1.1, P1.2.1, fun hm => (List.mem_cons.mp (J.stkSub pp.1 hm)).elim P1.2.2.1 P1.2.2.2.1, P1.2.2.2.2⟩
  have b := hb s1 us J.kIn (by rw [List.append_nil, ← r.length]; exact hl)
  rw [List.append_nil] at b
  refine wpAny_call (codeAny_mono (F.run X.A X.stack s1 H1 ⟨us, []⟩ us vs Q (fun cls d H' => W cls d σ H') pp D hr C hh hpin J.env0 b r (lift_at (S.go A1 e1) r1 h1 (q.mono e1))) fun r s' hq => ?_)
  cases r with
  | error e => exact L2N.passAt tk σ pins H1 s1 e s' J hq
  | ok fl =>
    cases fl with
    | ret u => exact J.after hq
    | next => exact hq.elim
    | brk => exact hq.elim
    | cont => exact hq.elim
end
theorem ExcAt.hot {K : PySem.W.Frag} {D : Addr} {p : Addr × Obj} {A : Around} (C : ExcAt K D p) (hh : A.handled = some (.ref p.1)) : L2H.Hot1 A p := by
  obtain ⟨vs, hv⟩ := C.f
  exact ⟨hh, vs, hv, C.z.2.2 vs hv⟩
/-- the block of a comprehension that runs while p is handled -/
abbrev blkH (X : Cx) (p : Addr × Obj) (s : Shared) (H : Hp) (scope : Scope) (cenv : Env) (fp : List Addr) : Cx := (X.blk s H scope cenv fp).tr ([] ++ [p]) (fun _ _ => False)
section
variable {X : Cx} {p : Addr × Obj}
theorem lcH_core {pins : List (Addr × Obj)} {s : Shared} {σ : L2.St} {H : Hp} {Q : VK} {elt tg iter : Expr} {ifs : List Expr} {scope : Scope} {own : List (Str × Nat)} {pos pos' : Pos} {wi : TI} {g : TG} {tt : TT} {te : TE} {Qf : Value → Shared → Prop}
    (hot : L2H.Hot1 X.A p) (hpp : p ∈ X.pn) (hN : X.N.Nodup) (I : Inv X pins σ H s) (hi : L2H.PIH X tg iter wi) (ok : BlkOk X.N X.env.scope scope own)
    (hg : ∀ (s : Shared) (H : Hp) (C : Addr) (cl : List (Str × Addr)) (fp : List Addr), PG (blkH X p s H scope (compEnvC scope cl C X.env) fp) tg g)
    (ht : ∀ (s : Shared) (H : Hp) (C : Addr) (cl : List (Str × Addr)) (fp : List Addr), PTs (blkH X p s H scope (compEnvC scope cl C X.env) fp) ifs tt)
    (he : ∀ (s : Shared) (H : Hp) (C : Addr) (cl : List (Str × Addr)) (fp : List Addr), PE (blkH X p s H scope (compEnvC scope cl C X.env) fp) elt te) (hs : ∀ x, foldedSetIterable iter X.env x = pure x)
    (h : tLc wi g tt te (own.map (·.2)) σ H Q)
    (fin : ∀ D C s' m H', Inv X pins σ H' s' → Q (.ref D) H' → s'.heap.Ns C m → FpOk X pins H' C → compPost (model X.prog X.w) X.A X.xe none Qf (.ref D) C (.ok .next) s') :
    wpAny (model X.prog X.w) X.A (comprehension (.ListComp elt [⟨tg, iter, ifs, 0⟩] scope pos) scope X.env pos' (newList []) false (eval iter X.env) none) Qf X.xe s := by
  have seen : ∀ z ∈ scope.names, z.2 = .free → ∃ c, X.env.cells.lookup z.1 = some c := fun z hz e => (ok.free z hz e).elim (fun k => I.ok.has _ (.inl k)) fun k => I.ok.has _ (.inr k)
  refine wpAny_comprehension_free (use := none) rfl hs (closure_ok seen) ok.kind (fun z hz e => by rw [ok.uniq z hz, e]) (thn (hi.run pins s σ H _ I h) fun xv sa hx => thn hx fun itv sb hb => ?_)
  obtain ⟨it, fp, tn, J, Ha, rfl, Ia, T, sta, fpa, q⟩ := hb
  refine wpAny_newObj_type (newEnv_comp ?_) (Nat.zero_le _)
  generalize hD : sb.heap.objs.size = D
  have hDn : Ha D = none := Ia.hok.fresh (Nat.le_of_eq hD)
  obtain ⟨W, ⟨m0, w0⟩, turn⟩ := q D hDn
  have kpush : ∀ b o, sb.heap.get? b = some o → (sb.heap.push { cls := .type "list", data := .seq ([] : List Value).toArray }).get? b = some o := fun b o e => Heap.get?_push_of_some _ e
  obtain ⟨sc, hsc⟩ : ∃ sc : Shared, sc = { sb with heap := sb.heap.push { cls := .type "list", data := .seq ([] : List Value).toArray } } := ⟨_, rfl⟩
  have hsch : sc.heap = sb.heap.push { cls := .type "list", data := .seq ([] : List Value).toArray } := by rw [hsc]
  have Ic : Inv X pins σ (upd Ha D (.lst [])) sc := by
    rw [hsc]
    refine Ia.laid (t' := sb.toks) kpush (Nat.le_of_eq hD) ⟨Nat.zero_le _, [], 0, .nil, ?_⟩
    rw [← hD]
    exact Heap.get?_push_size _ rfl
  have fpc : ∀ b ∈ fp, FpOk X pins (upd Ha D (.lst [])) b ∧ b < sc.heap.objs.size := fun b hb => by
    obtain ⟨ob, eb, _⟩ := T.obj _ _ sta b hb
    have hlt := Heap.lt_size eb
    exact ⟨⟨by rw [upd_ne (by rw [← hD]; exact Nat.ne_of_lt hlt)]; exact (fpa b hb).1, (fpa b hb).2⟩, by rw [hsch, Heap.size_push]; exact Nat.lt_succ_of_lt hlt⟩
  have stc : tn 0 sc.heap := T.keep _ _ _ sta fun b _ o e => by rw [hsch]; exact kpush b o e
  have Id := block_start Ic ok hN fpc
  have pg := hg sc (upd Ha D (.lst [])) sc.heap.objs.size (cellsFrom (sc.heap.objs.size + 1) scope.names (cloFrom X.env.cells scope.names [])) fp
  have pt := ht sc (upd Ha D (.lst [])) sc.heap.objs.size (cellsFrom (sc.heap.objs.size + 1) scope.names (cloFrom X.env.cells scope.names [])) fp
  have pe := he sc (upd Ha D (.lst [])) sc.heap.objs.size (cellsFrom (sc.heap.objs.size + 1) scope.names (cloFrom X.env.cells scope.names [])) fp
  suffices z : codeAny (model X.prog X.w) X.A (.compStart (.ListComp elt [⟨tg, iter, ifs, 0⟩] scope pos) 0 (.ref it) (.ref D) (compEnvC scope (cellsFrom (sc.heap.objs.size + 1) scope.names (cloFrom X.env.cells scope.names [])) sc.heap.objs.size X.env)) (compPost (model X.prog X.w) X.A X.xe none Qf (.ref D) sc.heap.objs.size) { sc with heap := pushCells (sc.heap.push { cls := .type "dict", data := .dict #[] }) scope.names } by
    rw [hsc] at z
    exact z
  have nfp : ∀ b ∈ fp, (upd Ha D (.lst [])) b = none := fun b hb => (fpc b hb).1.1
  have kcells : ∀ b o, sc.heap.get? b = some o → (pushCells (sc.heap.push { cls := .type "dict", data := .dict #[] }) scope.names).get? b = some o := fun b o e => pushCells_keeps _ _ _ _ (Heap.get?_push_of_some _ e)
  generalize hce : compEnvC scope (cellsFrom (sc.heap.objs.size + 1) scope.names (cloFrom X.env.cells scope.names [])) sc.heap.objs.size X.env = ce at Id pg pt pe ⊢
  have cL : ce.locals = sc.heap.objs.size := by rw [← hce]; rfl
  generalize hHc : upd Ha D (.lst []) = Hc at Ic Id pg pt pe w0 nfp fpc
  generalize hsd : ({ sc with heap := pushCells (sc.heap.push { cls := .type "dict", data := .dict #[] }) scope.names } : Shared) = sd at Id ⊢
  have hsdh : sd.heap = pushCells (sc.heap.push { cls := .type "dict", data := .dict #[] }) scope.names := by rw [← hsd]
  have pinC := Ic.pin p (List.mem_append_left _ hpp)
  -- the handled exception is pinned in the block too
  have Ie : Inv (blkH X p sc Hc scope ce fp) [] (wipe σ (own.map (·.2))) Hc sd := by
    refine Inv.toTry (X := X.blk sc Hc scope ce fp) (pins := [p]) (Id.pins_of fun r hr => ?_) _
    have er : r = p := by simpa using hr
    subst er
    refine ⟨by rw [hsdh]; exact kcells _ _ pinC.1, pinC.2.1, fun z => ?_, fun hm => ?_, pinC.2.2.2.2⟩
    · have z : r.1 = ce.locals := z
      have hl := Heap.lt_size pinC.1
      rw [z, cL] at hl
      exact Nat.lt_irrefl _ hl
    · exact (List.mem_cons.mp (Ic.stkSub r.1 hm)).elim pinC.2.2.1 pinC.2.2.2.1
  have hotb : L2H.HotC (blkH X p sc Hc scope ce fp) := ⟨p, hot, by simp⟩
  have std : tn 0 sd.heap := T.keep _ _ _ stc fun b _ o e => by rw [hsdh]; exact kcells b o e
  have neP : ∀ b ∈ fp, p.1 ≠ b := fun b hb z => (fpc b hb).1.2.2.2.2.2 p (List.mem_append_left _ hpp) z
  have stat : ∀ {σ' : L2.St} {H' : Hp} {s' : Shared}, Inv (blkH X p sc Hc scope ce fp) [] σ' H' s' → (∀ b ∈ fp, H' b = none) → ∀ b ∈ fp, FpOk (blkH X p sc Hc scope ce fp) [] H' b := fun {σ' H' s'} K hn b hb =>
    ⟨hn b hb, (K.ok.exf b hb).1, K.ok.exfs b hb, .inl hb, fun x c e => (K.ok.exf b hb).2 x c e, fun r hr => by
      have er : r = p := by simpa using hr
      subst er
      exact neP b hb⟩
  have loop : codeAny (model X.prog X.w) X.A (.compLoop (.ListComp elt [⟨tg, iter, ifs, 0⟩] scope pos) 0 (.ref it) (.ref D) ce) (compPost (model X.prog X.w) X.A X.xe none Qf (.ref D) sc.heap.objs.size) sd := by
    refine compLoop_any (fun n s' => ∃ i H', Inv (blkH X p sc Hc scope ce fp) [] (wipe σ (own.map (·.2))) H' s' ∧ tn i s'.heap ∧ (∀ b ∈ fp, H' b = none) ∧ W i n H') ?_ m0 ⟨0, Hc, Ie, std, nfp, w0⟩
    rintro n se ⟨i, He, Iee, ste, ne, we⟩
    rcases turn i n He we with ⟨stop, qq⟩ | ⟨go, Nx, hNx, step⟩
    · refine thnF (T.done (blkH X p sc Hc scope ce fp) rfl rfl rfl hotb i [] se _ He (fun _ _ => False) Iee (stat Iee ne) ste stop) fun r sf ⟨hr, If⟩ => ?_
      subst hr
      have Ig : Inv X pins σ He sf := Ic.call' (ch := fp) If.os If.base If.hok If.bare fun b hb => ⟨(fpc b hb).1.2.2.2.1, (fpc b hb).1.2.1, (fpc b hb).1.2.2.2.2.1, (fpc b hb).1.2.2.2.2.2⟩
      have nC : He sc.heap.objs.size = none := by rw [← cL]; exact If.free
      obtain ⟨m, hn, _⟩ := If.loc
      have hn : sf.heap.Ns ce.locals m := hn
      rw [cL] at hn
      exact fin D sc.heap.objs.size sf m He Ig qq hn (Ic.fpOk (Nat.le_refl _) nC)
    · refine thnF (T.item (blkH X p sc Hc scope ce fp) rfl rfl rfl hotb i [] se _ He (fun _ _ => False) Iee (stat Iee ne) ste go) fun r sf ⟨u, hr, hf⟩ => ?_
      subst hr
      refine thnF hf fun _ sg ⟨x, Hg, Ig, rg, yg, stg, ng⟩ => ?_
      have Igp := Ig.pinned (stat Ig ng) (T.obj _ _ stg)
      refine thnF (pg.run _ sg _ Hg x u _ Igp rg (step x Hg yg)) fun _ sh ⟨σh, Hh, Ih, wh, qh⟩ => ?_
      refine thnF (pt.run _ sh σh Hh _ Ih qh) fun b si ⟨Hi, Ii, qi⟩ => ?_
      have next : ∀ {s' : Shared} {H' : Hp}, Inv (blkH X p sc Hc scope ce fp) ([] ++ pinsAt fp sg.heap) σh H' s' → Nx H' → ∃ m, m < n ∧ ∃ i H', Inv (blkH X p sc Hc scope ce fp) [] (wipe σ (own.map (·.2))) H' s' ∧ tn i s'.heap ∧ (∀ b ∈ fp, H' b = none) ∧ W i m H' := fun {s' H'} K nx => by
        obtain ⟨m', hm, w'⟩ := hNx H' nx
        have still : ∀ b ∈ fp, ∀ o, sg.heap.get? b = some o → s'.heap.get? b = some o ∧ H' b = none := fun b hb o e => by
          have z := K.pin (b, o) (List.mem_append_right _ (List.mem_append_right _ (mem_pinsAt hb e)))
          exact ⟨z.1, z.2.1⟩
        have hl : (wipe σ (own.map (·.2))).length = σh.length := by rw [← wh, wipe_length]
        refine ⟨m', hm, i + 1, H', (K.unpinned (pins := [])).weak hl (fun j v e => ?_), T.keep _ _ _ stg fun b hb o e => (still b hb o e).1, fun b hb => ?_, w'⟩
        · rw [← wh] at e
          exact (wipe_some e).1
        · obtain ⟨o, e, _⟩ := T.obj _ _ stg b hb
          exact (still b hb o e).2
      cases b with
      | false => exact next Ii (by simpa using qi)
      | true =>
        simp only [if_true] at qi ⊢
        refine thnF (pe.run _ si σh Hi _ Ii qi) fun z sj ⟨yv, Hj, Ij, rj, acc, hDj, hzj, nx⟩ => ?_
        exact app_ok (X := blkH X p sc Hc scope ce fp) Ij hDj hzj rj fun sk Ik => next Ik nx
  exact codeAny_compStart_list loop (T.self X.A 0 _ _ _ std loop)
theorem pe_lcH {elt tg iter : Expr} {ifs : List Expr} {scope : Scope} {own : List (Str × Nat)} {pos : Pos} {wi : TI} {g : TG} {tt : TT} {te : TE} (hot : L2H.Hot1 X.A p) (hpp : p ∈ X.pn) (hN : X.N.Nodup) (hi : L2H.PIH X tg iter wi) (ok : BlkOk X.N X.env.scope scope own)
    (hg : ∀ (s : Shared) (H : Hp) (C : Addr) (cl : List (Str × Addr)) (fp : List Addr), PG (blkH X p s H scope (compEnvC scope cl C X.env) fp) tg g)
    (ht : ∀ (s : Shared) (H : Hp) (C : Addr) (cl : List (Str × Addr)) (fp : List Addr), PTs (blkH X p s H scope (compEnvC scope cl C X.env) fp) ifs tt)
    (he : ∀ (s : Shared) (H : Hp) (C : Addr) (cl : List (Str × Addr)) (fp : List Addr), PE (blkH X p s H scope (compEnvC scope cl C X.env) fp) elt te) (hs : ∀ x, foldedSetIterable iter X.env x = pure x := by intro _; rfl) :
    PE X (.ListComp elt [⟨tg, iter, ifs, 0⟩] scope pos) (tLc wi g tt te (own.map (·.2))) := by
  refine ⟨fun pins s σ H Q I h => ?_⟩
  rw [eval_ListComp]
  refine lcH_core hot hpp hN I hi ok hg ht he hs h fun D C s' m H' K q hn f => ⟨m, hn, fun h'' sb => ?_⟩
  obtain ⟨f0, f1, f2, f3, f4, f5⟩ := f
  exact ⟨.ref D, H', K.turned (t' := s'.toks) (fun b o hb e => (sb.2 b hb).trans e) f0 f1 f3 f4 f5, rfl, q⟩
theorem i_rng1H {W : WX} {a tg : Expr} {ta : AA} {q pos : Pos} (hg : Gl X "range") (hm : X.mg "range" = none) (ha : PA X [a] (cA X.kx W ta)) (hs : starEach [a] X.env = [(false, eval a X.env)] := by rfl) : L2H.PIH X tg (.Call (.Name "range" q) [a] [] pos) (cI X.kx W (iRng rng1 ta)) := by
  have z := L2H.pi_range1H (tg := tg) (p := q) (pos := pos) hg hm ha hs
  refine ⟨fun pins s σ H R I0 ⟨I, L, F, ρ, P, px, S, h, q⟩ => z.run pins s σ H R I0 ⟨I, L, F, ρ, _, px, S, h, fun ds L1 vs I1 H1 h1 A1 e1 r1 => ?_⟩⟩
  unfold rng1 at h1
  split at h1
  · obtain ⟨v, rfl, r2⟩ := one_rp (k := X.kx) r1; cases r2
    exact ⟨_, rfl, h1.1.1, h1.1.2, q _ _ _ _ _ _ h1.2 A1 e1 it_range⟩
  · exact h1.elim
theorem a_lcNH {W : WX} {gc : TG} {ga : AG} {js : List Nat} {ti : AI} {elt tg iter : Expr} {ifs : List Expr} {scope : Scope} {own : List (Str × Nat)} {pos : Pos} {tt : AT} {te : AE} {nw : List DV → Led → PD → Prop} (hot : L2H.Hot1 X.A p) (hpp : p ∈ X.pn) (hn : ∀ ds L P, nw ds L P → newL ds L P) (hN : X.N.Nodup) (hi : L2H.PIH X tg iter (cI X.kx W ti)) (ok : BlkOk X.N X.env.scope scope own) (gk : GOk X gc ga js) (hj : ∀ j ∈ js, j ∈ own.map (·.2))
    (hg : ∀ (s : Shared) (H : Hp) (C : Addr) (cl : List (Str × Addr)) (fp : List Addr), PG (blkH X p s H scope (compEnvC scope cl C X.env) fp) tg gc)
    (ht : ∀ (s : Shared) (H : Hp) (C : Addr) (cl : List (Str × Addr)) (fp : List Addr), PTs (blkH X p s H scope (compEnvC scope cl C X.env) fp) ifs (cT X.kx W0 tt))
    (he : ∀ (s : Shared) (H : Hp) (C : Addr) (cl : List (Str × Addr)) (fp : List Addr), PE (blkH X p s H scope (compEnvC scope cl C X.env) fp) elt (cE X.kx W0 te)) (hs : ∀ x, foldedSetIterable iter X.env x = pure x := by intro _; rfl) :
    PE X (.ListComp elt [⟨tg, iter, ifs, 0⟩] scope pos) (cE X.kx W (aLcN nw ti ga tt te (own.map (·.2)))) := (pe_lcH hot hpp hN hi ok hg ht he hs).imp fun σ H Q h => lc_go (K := X.K) rfl gk hj hn h
end
abbrev ReadsX (n : Nat) (asp : Addr → Addr → ASp) (tb : Addr → Addr → AS) : Prop := ∀ D a ds L P R, asp D a ds L P R → tb D a ⟨fun _ L => P .non L, P, fun _ _ => False, fun _ _ => False, fun c _ L => R c L⟩ (startA n ds) L
def sp_law_digits_6b3a3527 (G : Gx) : ASp := fun ds L P _ => ∃ (c : Int) (n : Nat), ds = [.int c, .int (n : Nat)] ∧ n ≤ 1000 ∧ ∀ xs, figs n xs → newL (xs.map fun x => .int ((x : Nat) : Int)) L P
theorem dig_ok4 {G : Gx} {c m : Int} (n : Nat) {L : Led} {P : PD} {R : Addr → Led → Prop} {l1 l2} (hn : n ≤ 1000) (e : m = (n : Int)) (h : ∀ xs, figs n xs → P (.lst (xs.map fun x => .int ((x : Nat) : Int))) L) : callA (sp_law_digits_6b3a3527 G) [.int c, .int m] L P R l1 l2 := by
  subst e
  exact ⟨c, n, rfl, hn, fun xs f => .inr (h xs f)⟩
def sp_law_drawn_c20d4a75 (G : Gx) : ASp := fun ds L P _ => ∃ (c b : Int), ds = [.int c, .int b] ∧ ∀ (ps : List Pt) (ss : List Int), LineOk ps ss → ss.length ≤ 12 → P (lineD ps ss) L
def sp_law_cell_49a05b28 (G : Gx) : ASp := fun ds L P _ => ∃ (ns : List Int) (k : Int), ds = [.wl (ns.map DV.int), .int k] ∧ 0 ≤ k ∧ k < 1000 ∧ ∀ v : Int, P (.int v) L
theorem cell_ok4 {G : Gx} {ns : List Int} {k : Int} {L : Led} {P : PD} {R : Addr → Led → Prop} {l1 l2} (h0 : 0 ≤ k) (h1 : k < 1000) (h : ∀ v : Int, P (.int v) L) : callA (sp_law_cell_49a05b28 G) [.wl (ns.map DV.int), .int k] L P R l1 l2 := ⟨ns, k, rfl, h0, h1, h⟩
def sp_Dyadic_top (G : Gx) : ASp := fun ds L P _ => match ds with
  | [.ins C ks [t, p]] => C = G.Dyadic ∧ ks = ksDy ∧ P t L
  | _ => False
def sp_Dyadic_power (G : Gx) : ASp := fun ds L P _ => match ds with
  | [.ins C ks [t, p]] => C = G.Dyadic ∧ ks = ksDy ∧ P p L
  | _ => False
def sp_Dyadic_less (G : Gx) : ASp := fun ds L P _ => match ds with
  | [.ins C ks [.int t, .int p], .ins C2 ks2 [.int t2, .int p2]] => (C = G.Dyadic ∧ ks = ksDy ∧ C2 = G.Dyadic ∧ ks2 = ksDy) ∧ (0 ≤ p ∧ p ≤ 1000 ∧ 0 ≤ p2 ∧ p2 ≤ 1000 ∧ t.natAbs < 2 ^ 64 ∧ t2.natAbs < 2 ^ 64) ∧ P (.bl (decide (t * 2 ^ p2.toNat < t2 * 2 ^ p.toNat))) L
  | _ => False
def sp_reduced (G : Gx) : ASp := fun ds L P _ => match ds with
  | [.int t, .int p] => 0 ≤ p ∧ P (.tup [.int (red p.toNat t).1, .int (red p.toNat t).2]) L
  | _ => False
def sp_is_integer (G : Gx) : ASp := fun ds L P _ => match ds with
  | [d] => told d L (P (.bl (isIntD d)) L)
  | _ => False
/-- the plain form of what is handed in, if it is within the bounds -/
def dyOf (t p : DV) : Option (Int × Nat) := match t, p with
  | .int i, .int j => if -10 ^ 12 ≤ i ∧ i ≤ 10 ^ 12 ∧ 0 ≤ j ∧ j ≤ 40 then some (red j.toNat i) else none
  | _, _ => none
def sp_Dyadic_init (G : Gx) : ASp := fun ds L P R => match ds with
  | [.ref x, t, p] => told t L (told p L (∃ dx, L x = some (.ins G.Dyadic dx [] []) ∧ match dyOf t p with
    | some (a, b) => P .non (updL L x (.ins G.Dyadic dx ksDy [.int a, .int b]))
    | none => RS R G.BadValue L))
  | _ => False
@[irreducible] def mk2_Dyadic_init (G : Gx) : ASp := fun ds L P R => match ds with
  | [t, p] => told t L (told p L (match dyOf t p with
    | some (a, b) => P (dy G a b) L
    | none => R G.BadValue L))
  | _ => False
@[irreducible] def mk1_Dyadic_init (G : Gx) : ASp := fun ds L P R => match ds with
  | [t] => told t L (match dyOf t (.int 0) with
    | some (a, b) => P (dy G a b) L
    | none => R G.BadValue L)
  | _ => False
theorem mkok2_Dyadic_init (G : Gx) : MkOk G.k G.Dyadic (sp_Dyadic_init G) (mk2_Dyadic_init G) [] := by
  intro ds L P R h x dx hx
  unfold mk2_Dyadic_init at h
  split at h
  · rename_i t p
    refine h.imp (Sub.new hx) fun h => h.imp (Sub.new hx) fun h => ⟨dx, updL_same, ?_⟩
    cases e : dyOf t p with
    | none => rw [e] at h; exact ⟨L, Sub.new hx, h⟩
    | some ab =>
      rw [e] at h
      refine ⟨rfl, _, _, FrzD.ins updL_same, ?_⟩
      rw [updL_updL, delL_updL hx]
      exact h
  · exact h.elim
theorem mkok1_Dyadic_init (G : Gx) : MkOk G.k G.Dyadic (sp_Dyadic_init G) (mk1_Dyadic_init G) [.int 0] := by
  intro ds L P R h x dx hx
  unfold mk1_Dyadic_init at h
  split at h
  · rename_i t
    refine h.imp (Sub.new hx) fun h => ⟨dx, updL_same, ?_⟩
    cases e : dyOf t (.int 0) with
    | none => rw [e] at h; exact ⟨L, Sub.new hx, h⟩
    | some ab =>
      rw [e] at h
      refine ⟨rfl, _, _, FrzD.ins updL_same, ?_⟩
      rw [updL_updL, delL_updL hx]
      exact h
  · exact h.elim
theorem dflt_Dyadic_init {K : PySem.W.Frag} (I : Hp) : Rps K I [.int 0] [.int 0] := .cons (.int 0) .nil
def sp_Dyadic_add (G : Gx) : ASp := fun ds L P R => match ds with
  | [.ins C ks [.int t, .int p], .ins C2 ks2 [.int t2, .int p2]] => (C = G.Dyadic ∧ ks = ksDy ∧ C2 = G.Dyadic ∧ ks2 = ksDy) ∧ (dyIn t p ∧ dyIn t2 p2) ∧ dyOr G (sumT t p.toNat t2 p2.toNat) L P R
  | _ => False
def sp_Dyadic_neg (G : Gx) : ASp := fun ds L P R => match ds with
  | [.ins C ks [.int t, .int p]] => (C = G.Dyadic ∧ ks = ksDy) ∧ dyIn t p ∧ P (dy G (-t) p.toNat) L
  | _ => False
def sp_Dyadic_sub (G : Gx) : ASp := fun ds L P R => match ds with
  | [.ins C ks [.int t, .int p], .ins C2 ks2 [.int t2, .int p2]] => (C = G.Dyadic ∧ ks = ksDy ∧ C2 = G.Dyadic ∧ ks2 = ksDy) ∧ (dyIn t p ∧ dyIn t2 p2) ∧ dyOr G (sumT t p.toNat (-t2) p2.toNat) L P R
  | _ => False
def sp_Dyadic_same (G : Gx) : ASp := fun ds L P _ => match ds with
  | [.ins C ks [.int t, .int p], .ins C2 ks2 [.int t2, .int p2]] => (C = G.Dyadic ∧ ks = ksDy ∧ C2 = G.Dyadic ∧ ks2 = ksDy) ∧ P (.bl (decide (t = t2 ∧ p = p2))) L
  | _ => False
section
variable {G : Gx} {a b n : Int} {L : Led} {P : PD} {R : Addr → Led → Prop} {l1 : Lk P} {l2 : Lk R}
theorem isC_dq {q : Prop} (h : q) : isC L (dq G n) G.Dyadic q := ⟨rfl, h⟩
theorem c_neg (hn : okq n) (h : P (dq G (-n)) L) : callA (sp_Dyadic_neg G) [dq G n] L P R l1 l2 :=
  ⟨⟨rfl, rfl⟩, hn.inn, by rw [Int.toNat_natCast, dq_neg]; exact h⟩
theorem c_less (ha : okq a) (hb : okq b) (h : P (.bl (decide (a < b))) L) : callA (sp_Dyadic_less G) [dq G a, dq G b] L P R l1 l2 := by
  have p1 := rq_pow a
  have p2 := rq_pow b
  unfold okq at ha hb
  refine ⟨⟨rfl, rfl, rfl, rfl⟩, ⟨by omega, by omega, by omega, by omega, by omega, by omega⟩, ?_⟩
  rw [Int.toNat_natCast, Int.toNat_natCast, decide_eq_decide.mpr rq_less]
  exact h
theorem c_same (h : P (.bl (decide (a = b))) L) : callA (sp_Dyadic_same G) [dq G a, dq G b] L P R l1 l2 := by
  refine ⟨⟨rfl, rfl, rfl, rfl⟩, ?_⟩
  have e : ((red 40 a).1 = (red 40 b).1 ∧ (((red 40 a).2 : Nat) : Int) = ((red 40 b).2 : Nat)) ↔ a = b := by
    rw [← rq_inj (a := a) (b := b)]
    exact ⟨fun z => ⟨z.1, by omega⟩, fun z => ⟨z.1, by omega⟩⟩
  rw [decide_eq_decide.mpr e]
  exact h
theorem c_top (h : P (.int (red 40 n).1) L) : callA (sp_Dyadic_top G) [dq G n] L P R l1 l2 := ⟨rfl, rfl, h⟩
theorem c_pow (h : P (.int ((red 40 n).2 : Nat)) L) : callA (sp_Dyadic_power G) [dq G n] L P R l1 l2 := ⟨rfl, rfl, h⟩
theorem dyOf_w {t p : Int} (h : -10 ^ 12 ≤ t ∧ t ≤ 10 ^ 12 ∧ 0 ≤ p ∧ p ≤ 40) : dyOf (.int t) (.int p) = some (red p.toNat t) := by
  show (if -10 ^ 12 ≤ t ∧ t ≤ 10 ^ 12 ∧ 0 ≤ p ∧ p ≤ 40 then some (red p.toNat t) else none) = _
  rw [if_pos h]
theorem c_mk0 (h : P (dq G 0) L) : callA (mk1_Dyadic_init G) [.int 0] L P R l1 l2 := by
  rw [dq_0] at h
  show mk1_Dyadic_init G [.int 0] L P R
  unfold mk1_Dyadic_init
  simp only [told, dyOf_w (t := 0) (p := 0) (by decide)]
  exact h
theorem c_mk10 {t : Int} (ht : t.natAbs ≤ 10 ^ 12) (h : P (dq G (t * 2 ^ 30)) L) : callA (mk2_Dyadic_init G) [.int t, .int 10] L P R l1 l2 := by
  show mk2_Dyadic_init G [.int t, .int 10] L P R
  unfold mk2_Dyadic_init
  simp only [told, dyOf_w (t := t) (p := 10) ⟨by omega, by omega, by decide, by decide⟩]
  show P (dy G (red 10 t).1 (red 10 t).2) L
  rw [dq_of (by decide)]
  exact h
end
def sp_times (G : Gx) : ASp := fun ds L P _ => ∃ (n s : Int), ds = [dq G n, .int s] ∧ okq n ∧ isSl s ∧ P (dq G (s * n)) L
section
variable {G : Gx} {a b n : Int} {L : Led} {P : PD} {R : Addr → Led → Prop} {l1 : Lk P} {l2 : Lk R}
theorem dyOr_q {n : Int} (hn : okq n) (h : P (dq G n) L) : dyOr G (red 40 n) L P R := by
  refine dyOr.mk ⟨hn.1, hn.2, rq_pow n⟩ ?_
  rw [red_self (red_plain 40 n)]
  exact h
theorem c_add (ha : okq a) (hb : okq b) (hs : okq (a + b)) (h : P (dq G (a + b)) L) : callA (sp_Dyadic_add G) [dq G a, dq G b] L P R l1 l2 := by
  refine ⟨⟨rfl, rfl, rfl, rfl⟩, ⟨ha.inn, hb.inn⟩, ?_⟩
  rw [Int.toNat_natCast, Int.toNat_natCast, rq_sum]
  exact dyOr_q hs h
theorem c_sub (ha : okq a) (hb : okq b) (hs : okq (a - b)) (h : P (dq G (a - b)) L) : callA (sp_Dyadic_sub G) [dq G a, dq G b] L P R l1 l2 := by
  refine ⟨⟨rfl, rfl, rfl, rfl⟩, ⟨ha.inn, hb.inn⟩, ?_⟩
  have e : sumT (red 40 a).1 (red 40 a).2 (-(red 40 b).1) (red 40 b).2 = red 40 (a - b) := by
    have := rq_sum a (-b)
    rw [red_neg] at this
    exact this
  rw [Int.toNat_natCast, Int.toNat_natCast, e]
  exact dyOr_q hs h
end
def sp_slope_between (G : Gx) : ASp := fun ds L P R => ∃ (a b : Pt), ds = [ptD G a, ptD G b] ∧ (okq a.1 ∧ okq a.2 ∧ okq b.1 ∧ okq b.2) ∧ okq (b.1 - a.1) ∧ okq (b.2 - a.2) ∧ (∀ s, stepQ a b = some s → P (.int s) L) ∧ (stepQ a b = none → RS R G.BadValue L)
/-- what is handed in as points -/
def iniW (d : DV) (s : Int) (G : Gx) (L : Led) (good : List (Pt × Int) → Prop) (bad : Prop) : Prop := ∃ (ps : List Pt), LsD d (ps.map (ptD G)) L ∧ ps.length ≤ 2 ^ 20 ∧ nearQ ps ∧ (∀ w, wallQ ps s = some w → good w) ∧ (wallQ ps s = none → bad)
def sp_Wall_init (G : Gx) : ASp := fun ds L P R => ∃ (x dx : Addr) (d : DV) (s : Int), ds = [.ref x, d, .int s] ∧ L x = some (.ins G.Wall dx [] []) ∧ iniW d s G L (fun w => ∀ (L' : Led) (a b : Addr), L a = none → L b = none → a ≠ b → L' a = some (.lst (w.map fun p => ptD G p.1)) → L' b = some (.lst (w.map fun p => .int p.2)) → L' x = some (.ins G.Wall dx ksW [.ref a, .ref b]) → (∀ c, c ≠ x → L c ≠ none → L' c = L c) → P .non L') (RS R G.BadValue L)
def mk2_Wall_init (G : Gx) : ASp := fun ds L P R => ∃ (d : DV) (s : Int), ds = [d, .int s] ∧ iniW d s G L (fun w => P (wallD G w) L) (RS R G.BadValue L)
theorem mkok2_Wall_init (G : Gx) : MkOk G.k G.Wall (sp_Wall_init G) (mk2_Wall_init G) [] := by
  rintro ds L P R ⟨d, s, rfl, ps, hd, hl, hn, hg, hb⟩ x dx hx
  refine ⟨x, dx, d, s, rfl, updL_same, ps, hd.sub (Sub.new hx), hl, hn, fun w hw L' a b ha hb ne ea eb ex keep => ⟨rfl, _, _, (FrzD.ins2 ex ea eb ne).trans (FrzD.sub fun c m e => ?_), hg w hw⟩, fun z => (hb z).up (Sub.new hx)⟩
  have cx : c ≠ x := ne_led e hx
  have e1 : updL L x (.ins G.Wall dx [] []) c = some m := by rw [updL_ne cx]; exact e
  have ca : c ≠ a := ne_led e1 ha
  have cb : c ≠ b := ne_led e1 hb
  unfold delL
  rw [if_neg cx, if_neg cb, if_neg ca, keep c cx (by rw [e1]; nofun)]
  exact e1
theorem mk_wall {G : Gx} {ps : List Pt} {ss : List Int} {s : Int} {d : DV} {L : Led} {P : PD} {R : Addr → Led → Prop} {l1 l2} (o : LineOk ps ss) (hs : ss.getLast? = some s) (hd : LsD d (ps.map fun p => ptD G (q10 p)) L) (h : P (wallD G (wallL ps ss)) L) : callA (mk2_Wall_init G) [d, .int s] L P R l1 l2 := by
  have e := o.wall hs
  have ol := o.len
  have of := o.few
  refine ⟨d, s, rfl, ps.map q10, by rw [List.map_map]; exact hd, by rw [List.length_map]; omega, near_small fun p hp => ?_, fun w hw => ?_, fun z => ?_⟩
  · have := o.small p hp
    omega
  · rw [e] at hw; cases hw; exact h
  · rw [e] at z; cases z
def sp_law_pairs_7c2080d5 (G : Gx) : ASp := fun ds L P _ => ∃ (ps : List Pt) (d : DV), ds = [d] ∧ LsD d (ps.map ptI) L ∧ ps.length ≤ 1000 ∧ (∀ p ∈ ps, bigP p) ∧ newL (ps.map fun p => ptD G (q10 p)) L P
def sp_law_is_integer_fcf59962 (G : Gx) : ASp := fun ds L P _ => match ds with
  | [d] => told d L (P (.bl (isIntD d)) L)
  | _ => False
theorem isint_ok {G : Gx} {i : Int} {L : Led} {P : PD} {R : Addr → Led → Prop} {l1 l2} (h : P (.bl true) L) : callA (sp_law_is_integer_fcf59962 G) [.int i] L P R l1 l2 := h
def sp_law_plain_41305dcc (G : Gx) : ASp := fun ds L P _ => ∃ (t : Int) (p : Nat), ds = [.int t, .int (p : Nat)] ∧ p ≤ 64 ∧ P (.tup [.int (red p t).1, .int ((red p t).2 : Nat)]) L
def sp_law_is_d09be0d2 (G : Gx) : ASp := fun ds L P _ => ∃ n t : Int, ds = [dq G n, .int t] ∧ P (.bl (decide (n = t * 2 ^ 30))) L
theorem is_ok10 {G : Gx} {t : Int} {L : Led} {P : PD} {R : Addr → Led → Prop} {l1 l2} (h : P (.bl true) L) : callA (sp_law_is_d09be0d2 G) [dq G (t * 2 ^ 30), .int t] L P R l1 l2 := ⟨_, t, rfl, by rw [decide_eq_true rfl]; exact h⟩
def sp_law_place_8b093576 (G : Gx) : ASp := fun ds L P _ => ∃ (ps : List Pt) (ss : List Int) (h : Int) (k : Nat) (c : Wp), ds = [lineD ps ss, .int h] ∧ ps.length = ss.length ∧ ss.length ≤ 1000 ∧ (ps.zip ss)[k]? = some c ∧ c.1.1 ≤ h ∧ (∀ (j : Nat) (x : Wp), (ps.zip ss)[j]? = some x → x.1.1 ≤ h → j ≤ k) ∧ P (.int (k : Nat)) L
def sp_law_at_ade38b70 (G : Gx) : ASp := fun ds L P _ => ∃ (ps : List Pt) (ss : List Int) (h : Int) (c : Wp), ds = [lineD ps ss, .int h] ∧ ps.length = ss.length ∧ ss.length ≤ 1000 ∧ IsAt (ps.zip ss) h c ∧ isSl c.2 ∧ P (.int (valQ c h)) L
def sp_Wall_place (G : Gx) : ASp := fun ds L P R => ∃ (w : List Wp) (h : Int), ds = [wallD G w, dq G h] ∧ WallOk w ∧ okq h ∧ (h < 0 → RS R G.BadValue L) ∧ (0 ≤ h → ∃ (k : Nat) (c : Wp), w[k]? = some c ∧ c.1.1 ≤ h ∧ (∀ (j : Nat) (x : Wp), w[j]? = some x → x.1.1 ≤ h → j ≤ k) ∧ P (.int (k : Nat)) L)
def sp_Wall_at (G : Gx) : ASp := fun ds L P R => ∃ (w : List Wp) (h : Int), ds = [wallD G w, dq G h] ∧ WallOk w ∧ okq h ∧ (h < 0 → RS R G.BadValue L) ∧ (0 ≤ h → ∃ c, AtOk w h c ∧ P (dq G (valQ c h)) L)
theorem at_ok {G : Gx} {w : List Wp} {h : Int} {c : Wp} {L : Led} {P : PD} {R : Addr → Led → Prop} {l1 l2} (ow : WallOk w) (oh : okq h) (h0 : 0 ≤ h) (a : AtOk w h c) (hp : P (dq G (valQ c h)) L) : callA (sp_Wall_at G) [wallD G w, dq G h] L P R l1 l2 := ⟨w, h, rfl, ow, oh, fun z => by omega, fun _ => ⟨c, a, hp⟩⟩
def sp_Wall_slope_at (G : Gx) : ASp := fun ds L P R => ∃ (w : List Wp) (h : Int), ds = [wallD G w, dq G h] ∧ WallOk w ∧ okq h ∧ (h < 0 → RS R G.BadValue L) ∧ (0 ≤ h → ∃ c, IsAt w h c ∧ P (.int c.2) L)
theorem slope_at_ok {G : Gx} {w : List Wp} {h : Int} {c : Wp} {L : Led} {P : PD} {R : Addr → Led → Prop} {l1 l2} (ow : WallOk w) (oh : okq h) (h0 : 0 ≤ h) (a : IsAt w h c) (hp : P (.int c.2) L) : callA (sp_Wall_slope_at G) [wallD G w, dq G h] L P R l1 l2 := ⟨w, h, rfl, ow, oh, fun z => by omega, fun _ => ⟨c, a, hp⟩⟩
def sp_law_cut_7d8ca634 (G : Gx) : ASp := fun ds L P _ => ∃ (ps : List Pt) (ss : List Int) (h : Int) (c : Wp), ds = [lineD ps ss, .int h] ∧ ps.length = ss.length ∧ ss.length ≤ 1000 ∧ IsAt (ps.zip ss) h c ∧ isSl c.2 ∧ P (lineD (cutL ps h (valQ c h)) (cutS ps ss h)) L
def sp_Wall_cut (G : Gx) : ASp := fun ds L P R => ∃ (w : List Wp) (h : Int), ds = [wallD G w, dq G h] ∧ WallOk w ∧ okq h ∧ (h < 0 → RS R G.BadValue L) ∧ (0 ≤ h → ∃ c w', AtOk w h c ∧ nearQ (cutP w h c) ∧ wallQ (cutP w h c) 0 = some w' ∧ P (wallD G w') L)
def sp_Wall_slope (G : Gx) : ASp := fun ds L P _ => ∃ (w : List (Pt × Int)) (p : Pt × Int), ds = [wallD G w] ∧ w.getLast? = some p ∧ P (.int p.2) L
def sp_Wall_points (G : Gx) : ASp := fun ds L P _ => ∃ (w : List (Pt × Int)), ds = [wallD G w] ∧ newL (w.map fun p => ptD G p.1) L P
def sp_law_told_74f31f6a (G : Gx) : ASp := fun ds L P _ => ∃ (ps : List Pt) (ss : List Int) (d1 d2 : DV), ds = [wallD G (wallL ps ss), .tup [d1, d2]] ∧ LsD d1 (ps.map ptI) L ∧ LsD d2 (ss.map DV.int) L ∧ ps.length = ss.length ∧ ss ≠ [] ∧ ss.length ≤ 1000 ∧ P (.bl true) L
theorem told_line {G : Gx} {ps : List Pt} {ss : List Int} {w : List (Pt × Int)} {L : Led} {P : PD} {R : Addr → Led → Prop} {l1 l2} (e : w = wallL ps ss) (hl : ps.length = ss.length) (ne : ss ≠ []) (few : ss.length ≤ 1000) (h : P (.bl true) L) : callA (sp_law_told_74f31f6a G) [wallD G w, lineD ps ss] L P R l1 l2 := by
  subst e
  exact ⟨_, _, _, _, rfl, .inl rfl, .inl rfl, hl, ne, few, h⟩
def sp_law_asked_55bd0f0b (G : Gx) : ASp := fun ds L P _ => ∃ (ps : List Pt) (ss : List Int) (h : Int), ds = [wallD G (wallL ps ss), lineD ps ss, .int h] ∧ LineOk ps ss ∧ 0 ≤ h ∧ h ≤ 2 * 10 ^ 9 ∧ P (.bl true) L
def sp_Wall_tilted (G : Gx) : ASp := fun ds L P R => ∃ (w : List Wp) (t : Int) (z : Wp), ds = [wallD G w, .int t] ∧ WallOk w ∧ isSl t ∧ w.getLast? = some z ∧ nearQ (tiltP w t) ∧ (∀ w', wallQ (tiltP w t) (z.2 + t) = some w' → P (wallD G w') L) ∧ (wallQ (tiltP w t) (z.2 + t) = none → RS R G.BadValue L)
def sp_law_is_only_611d9904 (G : Gx) (D a : Addr) : ASp := fun ds L P _ => ds = [.ref a, .int 1] ∧ D = G.BadValue ∧ P (.bl true) L
/-- what a wall refuses -/
def refW (w : List Wp) (k : Nat) (h : Int) : Prop := (k < 3 ∧ h < 0 ∧ h.natAbs ≤ 10 ^ 12) ∨ (k = 3 ∧ isSl h ∧ ∃ z, w.getLast? = some z ∧ nearQ (tiltP w h) ∧ wallQ (tiltP w h) (z.2 + h) = none)
def sp_law_refused_79b82729 (G : Gx) : ASp := fun ds L P _ => ∃ (w : List Wp) (k : Nat) (h : Int), ds = [wallD G w, .int (k : Nat), .int h] ∧ WallOk w ∧ refW w k h ∧ P (.bl true) L
def sp_law_tilted_ff5ba2ea (G : Gx) : ASp := fun ds L P _ => ∃ (ps : List Pt) (ss : List Int) (t : Int), ds = [wallD G (wallL ps ss), lineD ps ss, .int t] ∧ LineOk ps ss ∧ isSl t ∧ P (.bl true) L
def sp_Wall_turned (G : Gx) : ASp := fun ds L P _ => ∃ (w : List Wp) (z : Wp) (w' : List Wp), ds = [wallD G w] ∧ WallOk w ∧ w.getLast? = some z ∧ nearQ (turnP w) ∧ wallQ (turnP w) (-z.2) = some w' ∧ P (wallD G w') L
def sp_law_10e31170 (G : Gx) : ASp := spLawT
def tb_law_digits_6b3a3527 (G : Gx) : AS := (aSeq (aSet 2 (aLstN newR aNil)) (aSeq (aSet 3 (aVar 0)) (aSeq (aSet 4 (aBin oMod (aCB bInt (aCons (aBin (oAddN newD) (aBin (oMulT newD) (aVar 0) (aC (.int 40503))) (aC (.int 19))) aNil)) (aC (.int 2147483647)))) (aSeq (aFor (iRng rng1 (aCons (aVar 1) aNil)) (gN 5) (aIf (aAnd (aTest (aBin oGe (aVar 0) (aBin oPow (aC (.int 10)) (aC (.int 18))))) (aTest (aBin oGt (aVar 3) (aC (.int 0))))) (aSeq (aDrop (aLm mAppend (aVar 2) (aCons (aBin oMod (aCB bInt (aCons (aVar 3) aNil)) (aC (.int 60))) aNil))) (aSet 3 (aBin oDiv (aVar 3) (aC (.int 60))))) (aSeq (aSet 4 (aBin oMod (aCB bInt (aCons (aBin (oAddN newD) (aBin (oAddN newD) (aBin (oMulT newD) (aVar 4) (aC (.int 16807))) (aBin (oMulT newD) (aC (.int 13)) (aVar 5))) (aC (.int 5))) aNil)) (aC (.int 2147483647)))) (aDrop (aLm mAppend (aVar 2) (aCons (aBin oMod (aCB bInt (aCons (aBin oDiv (aBin oMod (aCB bInt (aCons (aBin (oAddN newD) (aBin (oMulT newD) (aVar 4) (aC (.int 48271))) (aC (.int 1))) aNil)) (aC (.int 2147483629))) (aC (.int 101))) aNil)) (aC (.int 60))) aNil)))))) (aRet (aFrz G.k (aVar 2)))))))
theorem rd_law_digits_6b3a3527 (G : Gx) : Reads 6 (sp_law_digits_6b3a3527 G) (tb_law_digits_6b3a3527 G) := by
  rintro ds L P R ⟨c, n, rfl, hn, h⟩
  unfold tb_law_digits_6b3a3527
  simp! []
  intro a ha
  refine ⟨mulR (by decide), ⟨by omega, by omega⟩, for_rng n _ (fun i ρ' L' => ∃ (xs : List Nat) (r s : Int) (v : Option DV), ρ' = [some (.int c), some (.int (n : Nat)), some (.ref a), some (.int r), some (.int s), v] ∧ figs i xs ∧ L' = updL L a (.lst (xs.map fun x => .int ((x : Nat) : Int)))) ⟨[], _, _, _, rfl, ⟨rfl, fun _ z => by cases z⟩, rfl⟩ (fun _ _ _ _ => trivial) ?_ ?_⟩
  · rintro i ρ' L' hi ⟨xs, r, s, v, rfl, f, rfl⟩
    have e1 : updL L a (.lst (xs.map fun x => .int ((x : Nat) : Int))) a = some (.lst (xs.map fun x => .int ((x : Nat) : Int))) := updL_same
    have more : ∀ x : Int, 0 ≤ x → x < 60 → ∃ ys : List Nat, figs (i + 1) ys ∧ updL L a (.lst (xs.map (fun x => .int ((x : Nat) : Int)) ++ [.int x])) = updL L a (.lst (ys.map fun x => .int ((x : Nat) : Int))) := fun x h0 h1 => by
      refine ⟨xs ++ [x.toNat], ⟨by rw [List.length_append, f.1]; rfl, fun y hy => ?_⟩, ?_⟩
      · rcases List.mem_append.mp hy with hy | hy
        · exact f.2 y hy
        · rw [List.mem_singleton.mp hy]; omega
      · rw [List.map_append, List.map_singleton, Int.toNat_of_nonneg h0]
    have few : xs.length < sizeLine := by rw [f.1, sizeLine_eq]; omega
    have small : CMul s 16807 ∧ CMul 13 ((i : Nat) : Int) ∧ CMul ((s * 16807 + 13 * ((i : Nat) : Int) + 5) % 2147483647) 48271 ∧ CDivW (((s * 16807 + 13 * ((i : Nat) : Int) + 5) % 2147483647 * 48271 + 1) % 2147483629) 101 := ⟨mulR (by decide), mulL (by decide), mulR (by decide), ⟨by decide, by decide⟩⟩
    obtain ⟨ys, fy, ey⟩ := more _ (Int.emod_nonneg (((s * 16807 + 13 * ((i : Nat) : Int) + 5) % 2147483647 * 48271 + 1) % 2147483629 / 101) (show (60 : Int) ≠ 0 by decide)) (Int.emod_lt_of_pos _ (by decide))
    obtain ⟨zs, fz, ez⟩ := more _ (Int.emod_nonneg r (show (60 : Int) ≠ 0 by decide)) (Int.emod_lt_of_pos _ (by decide))
    simp! [↓isi_r_list e1, ↓withL_of e1, ↓withSq_of e1, ↓seqI_of e1, ↓lmR_of e1, ↓lmB_of e1, ↓enuA_of e1]
    refine ⟨⟨by decide, by decide, by decide⟩, fun _ => ⟨fun _ => ⟨few, ⟨by decide, by decide⟩, zs, _, _, _, rfl, fz, ez⟩, fun _ => ⟨small.1, small.2.1, small.2.2.1, small.2.2.2, few, ys, _, _, _, rfl, fy, ey⟩⟩, fun _ => ⟨small.1, small.2.1, small.2.2.1, small.2.2.2, few, ys, _, _, _, rfl, fy, ey⟩⟩
  · rintro ρ' L' ⟨xs, r, s, v, rfl, f, rfl⟩
    simp! []
    exact newL_fin (h xs f) ha (Sub.refl L) ha
def tb_law_drawn_c20d4a75_4 (G : Gx) : AS := (aSeq (aSet 4 (aLstN newR (aCons (aTup (aCons (aC (.int 0)) (aCons (aBin oSub (aBin oMod (aCB bInt (aCons (aVar 1) aNil)) (aBin (oAddN newD) (aBin (oMulT newD) (aC (.int 2)) (aBin oPow (aC (.int 10)) (aC (.int 9)))) (aC (.int 1)))) (aBin oPow (aC (.int 10)) (aC (.int 9)))) aNil))) aNil))) (aSeq (aSet 5 (aLstN newR aNil)) (aSeq (aFor (iRng rng1 (aCons (aBin oSub (aVar 3) (aC (.int 1))) aNil)) (gN 6) (aSeq (aSet 7 (aBin oSub (aBin oMod (aCB bInt (aCons (aBin oIx (aVar 2) (aBin (oAddN newD) (aBin (oMulT newD) (aC (.int 3)) (aVar 6)) (aC (.int 2)))) aNil)) (aC (.int 3))) (aC (.int 1)))) (aSeq (aSet 8 (aBin oShl (aBin (oAddN newD) (aC (.int 1)) (aCB bInt (aCons (aBin oIx (aVar 2) (aBin (oAddN newD) (aBin (oMulT newD) (aC (.int 3)) (aVar 6)) (aC (.int 3)))) aNil))) (aBin oMod (aCB bInt (aCons (aBin oIx (aVar 2) (aBin (oAddN newD) (aBin (oMulT newD) (aC (.int 3)) (aVar 6)) (aC (.int 4)))) aNil)) (aC (.int 12))))) (aSeq (aDrop (aLm mAppend (aVar 5) (aCons (aVar 7) aNil))) (aDrop (aLm mAppend (aVar 4) (aCons (aTup (aCons (aBin (oAddN newD) (aBin oIx (aBin oIx (aVar 4) (aNeg (aC (.int 1)))) (aC (.int 0))) (aVar 8)) (aCons (aBin (oAddN newD) (aBin oIx (aBin oIx (aVar 4) (aNeg (aC (.int 1)))) (aC (.int 1))) (aBin (oMulT newD) (aVar 7) (aVar 8))) aNil))) aNil))))))) (aSeq (aDrop (aLm mAppend (aVar 5) (aCons (aBin oSub (aBin oMod (aBin oDiv (aCB bInt (aCons (aBin oIx (aVar 2) (aC (.int 1))) aNil)) (aC (.int 12))) (aC (.int 3))) (aC (.int 1))) aNil))) (aRet (aFrz G.k (aTup (aCons (aVar 4) (aCons (aVar 5) aNil)))))))))
def tb_law_drawn_c20d4a75 (G : Gx) : AS := (aSeq (aSet 2 (aCall (sp_law_digits_6b3a3527 G) [] (aCons (aVar 0) (aCons (aC (.int 40)) aNil)))) (aSeq (aSet 3 (aBin (oAddN newD) (aC (.int 1)) (aBin oMod (aCB bInt (aCons (aBin oIx (aVar 2) (aC (.int 0))) aNil)) (aC (.int 4))))) (aSeq (aIf (aTest (aBin oEq (aBin oMod (aBin oDiv (aCB bInt (aCons (aBin oIx (aVar 2) (aC (.int 0))) aNil)) (aC (.int 4))) (aC (.int 3))) (aC (.int 1)))) (aSet 3 (aBin (oAddN newD) (aC (.int 1)) (aBin oMod (aCB bInt (aCons (aBin oIx (aVar 2) (aC (.int 1))) aNil)) (aC (.int 12))))) aNext) (tb_law_drawn_c20d4a75_4 G))))
theorem t4_drawn {G : Gx} {c b : Int} {n : Nat} {xs : List Nat} {L : Led} {P : PD} {R : Addr → Led → Prop} (f : figs 40 xs) (h0 : 1 ≤ n) (h1 : n ≤ 12) (h : ∀ (ps : List Pt) (ss : List Int), LineOk ps ss → ss.length ≤ 12 → P (lineD ps ss) L) :
    tb_law_drawn_c20d4a75_4 G ⟨fun _ L => P .non L, P, fun _ _ => False, fun _ _ => False, fun c _ L => R c L⟩ [some (.int c), some (.int b), some (.lst (xs.map fun x => .int ((x : Nat) : Int))), some (.int ((n : Nat) : Int)), none, none, none, none, none] L := by
  unfold tb_law_drawn_c20d4a75_4
  simp! []
  refine ⟨⟨by decide, by decide, by decide⟩, mulR (by decide), by decide, ⟨by decide, by decide, by decide⟩, fun a1 ha1 a2 ha2 => ⟨⟨by omega, by omega⟩, ?_⟩⟩
  have ne : a1 ≠ a2 := ne_led updL_same ha2
  have ha20 : L a2 = none := by rw [updL_ne (Ne.symm ne)] at ha2; exact ha2
  have en : (((n : Nat) : Int) - 1).toNat = n - 1 := by omega
  rw [en]
  refine for_rng (n - 1) _ (fun i ρ' L' => ∃ (ps : List Pt) (ss : List Int) (v6 v7 v8 : Option DV), ρ' = [some (.int c), some (.int b), some (.lst (xs.map fun x => .int ((x : Nat) : Int))), some (.int ((n : Nat) : Int)), some (.ref a1), some (.ref a2), v6, v7, v8] ∧ L' = updL (updL L a1 (.lst (ps.map ptI))) a2 (.lst (ss.map DV.int)) ∧ ss.length = i ∧ ∀ s, isSl s → LineOk ps (ss ++ [s])) ⟨[(0, b % (2 * 10 ^ 9 + 1) - 10 ^ 9)], [], _, _, _, rfl, rfl, rfl, fun s hs => LineOk.one (by omega) hs⟩ (fun _ _ _ _ => trivial) ?_ ?_
  · rintro i ρ' L' hi ⟨ps, ss, v6, v7, v8, rfl, rfl, hss, ok⟩
    have e1 : updL (updL L a1 (.lst (ps.map ptI))) a2 (.lst (ss.map DV.int)) a1 = some (.lst (ps.map ptI)) := by rw [updL_ne ne, updL_same]
    have e2 : updL (updL L a1 (.lst (ps.map ptI))) a2 (.lst (ss.map DV.int)) a2 = some (.lst (ss.map DV.int)) := updL_same
    obtain ⟨d2, l2, x2⟩ := f.ix (m := 3 * i + 2) (by omega)
    obtain ⟨d3, l3, x3⟩ := f.ix (m := 3 * i + 3) (by omega)
    obtain ⟨d4, l4, x4⟩ := f.ix (m := 3 * i + 4) (by omega)
    simp! [↓isi_r_list e1, ↓withL_of e1, ↓withSq_of e1, ↓seqI_of e1, ↓lmR_of e1, ↓lmB_of e1, ↓enuA_of e1, ↓isi_r_list e2, ↓withL_of e2, ↓withSq_of e2, ↓seqI_of e2, ↓lmR_of e2, ↓lmB_of e2, ↓enuA_of e2]
    refine ⟨mulL (by decide), ?_⟩
    rw [x2 _ (by omega)]
    simp! []
    refine ⟨mulL (by decide), ?_⟩
    rw [x3 _ (by omega)]
    simp! []
    refine ⟨mulL (by decide), ?_⟩
    rw [x4 _ (by omega)]
    simp! []
    have o := ok _ (slope_sl d2)
    have of := o.few
    rw [List.length_append, List.length_singleton] at of
    have ol := o.len
    rw [List.length_append, List.length_singleton] at ol
    obtain ⟨q, hq⟩ : ∃ q, ps.getLast? = some q := by
      cases ps with
      | nil => simp at ol
      | cons a r => exact ⟨_, List.getLast?_eq_some_getLast (by simp)⟩
    obtain ⟨m, hm, hm12⟩ : ∃ m : Nat, (((d4 : Nat) : Int) % 12).toNat = m ∧ m < 12 := ⟨_, rfl, by omega⟩
    have pw : 1 ≤ 2 ^ m ∧ 2 ^ m ≤ 2048 := ⟨Nat.one_le_two_pow, Nat.pow_le_pow_right (by decide) (show m ≤ 11 by omega)⟩
    have rn : (1 + ((d3 : Nat) : Int)) * 2 ^ m = ((((1 + d3) * 2 ^ m : Nat)) : Int) := by push_cast; rfl
    rw [hm, rn]
    have r1 : 1 ≤ (1 + d3) * 2 ^ m := Nat.mul_pos (by omega) (by omega)
    have r2 : (1 + d3) * 2 ^ m ≤ 60 * 2048 := Nat.mul_le_mul (by omega) pw.2
    generalize (1 + d3) * 2 ^ m = run at r1 r2 ⊢
    have e3 : updL (updL L a1 (.lst (ps.map ptI))) a2 (.lst (ss.map DV.int ++ [.int (((d2 : Nat) : Int) % 3 - 1)])) a1 = some (.lst (ps.map ptI)) := by rw [updL_ne ne, updL_same]
    refine ⟨⟨by omega, by omega, by omega⟩, by rw [sizeLine_eq]; omega, ?_⟩
    have xl : ∀ {L : Led} {P : PD} {lk : Lk P}, ixA (ps.map ptI) (-1) L P lk = P (.tup [.int q.1, .int q.2]) L := ixLastD (by rw [List.getLast?_map, hq]; rfl)
    simp! [↓isi_r_list e3, ↓withL_of e3, ↓withSq_of e3, ↓seqI_of e3, ↓lmR_of e3, ↓lmB_of e3, ↓enuA_of e3, ↓xl]
    refine ⟨mulR (by omega), by rw [sizeLine_eq]; omega, ps ++ [(q.1 + ((run : Nat) : Int), q.2 + (((d2 : Nat) : Int) % 3 - 1) * ((run : Nat) : Int))], ss ++ [((d2 : Nat) : Int) % 3 - 1], _, _, _, rfl, ?_, by simp [hss], fun s hs => ?_⟩
    · rw [updL_comm (Ne.symm ne), updL_updL, List.map_append, List.map_append]; rfl
    · exact o.more hq (by simp) (by omega) (by omega) hs (by rw [List.length_append, List.length_singleton]; omega)
  · rintro ρ' L' ⟨ps, ss, v6, v7, v8, rfl, rfl, hss, ok⟩
    have e1 : updL (updL L a1 (.lst (ps.map ptI))) a2 (.lst (ss.map DV.int)) a1 = some (.lst (ps.map ptI)) := by rw [updL_ne ne, updL_same]
    have e2 : updL (updL L a1 (.lst (ps.map ptI))) a2 (.lst (ss.map DV.int)) a2 = some (.lst (ss.map DV.int)) := updL_same
    obtain ⟨d1, l1, x1⟩ := f.ix (m := 1) (by omega)
    simp! [↓isi_r_list e1, ↓withL_of e1, ↓withSq_of e1, ↓seqI_of e1, ↓lmR_of e1, ↓lmB_of e1, ↓enuA_of e1, ↓isi_r_list e2, ↓withL_of e2, ↓withSq_of e2, ↓seqI_of e2, ↓lmR_of e2, ↓lmB_of e2, ↓enuA_of e2]
    rw [x1 _ (by omega)]
    simp! []
    have o := ok ((((d1 / 12 : Nat) : Int)) % 3 - 1) (slope_sl _)
    have of := o.few
    rw [List.length_append, List.length_singleton] at of
    refine ⟨⟨by decide, by decide⟩, by rw [sizeLine_eq]; omega, ?_⟩
    rw [show ((d1 : Nat) : Int) / 12 = ((d1 / 12 : Nat) : Int) by omega]
    have e3 : updL (updL L a1 (.lst (ps.map ptI))) a2 (.lst (ss.map DV.int ++ [.int (((d1 / 12 : Nat) : Int) % 3 - 1)])) a1 = some (.lst (ps.map ptI)) := by rw [updL_ne ne, updL_same]
    refine ⟨_, L, (FrzD.tup2 e3 updL_same ne).trans (FrzD.sub fun x m e => ?_), ?_⟩
    · unfold delL
      rw [if_neg (ne_led e ha20), if_neg (ne_led e ha1), updL_ne (ne_led e ha20), updL_ne (ne_led e ha1)]
      exact e
    · have := h ps _ o (by rw [List.length_append, List.length_singleton]; omega)
      unfold lineD at this
      rw [List.map_append] at this
      exact this
theorem rd_law_drawn_c20d4a75 (G : Gx) : Reads 9 (sp_law_drawn_c20d4a75 G) (tb_law_drawn_c20d4a75 G) := by
  rintro ds L P R ⟨c, b, rfl, h⟩
  unfold tb_law_drawn_c20d4a75
  simp! []
  refine dig_ok4 40 (by decide) rfl fun xs f => ?_
  obtain ⟨d0, e0, l0⟩ := f.lt (i := 0) (by decide)
  obtain ⟨d1, e1, l1⟩ := f.lt (i := 1) (by decide)
  have x0 : ∀ {L : Led} {P : PD} {lk : Lk P}, ixA (xs.map fun x => DV.int ((x : Nat) : Int)) 0 L P lk = P (.int ((d0 : Nat) : Int)) L := ixA_map e0
  have x1 : ∀ {L : Led} {P : PD} {lk : Lk P}, ixA (xs.map fun x => DV.int ((x : Nat) : Int)) 1 L P lk = P (.int ((d1 : Nat) : Int)) L := ixA_map e1
  simp! [↓x0, ↓x1]
  refine ⟨⟨by decide, by decide⟩, fun z => ?_, fun z => ?_⟩
  · have := t4_drawn (G := G) (c := c) (b := b) (R := R) (n := 1 + d1 % 12) f (by omega) (by omega) h
    rw [show ((1 + d1 % 12 : Nat) : Int) = 1 + ((d1 : Nat) : Int) % 12 by omega] at this
    exact this
  · have := t4_drawn (G := G) (c := c) (b := b) (R := R) (n := 1 + d0 % 4) f (by omega) (by omega) h
    rw [show ((1 + d0 % 4 : Nat) : Int) = 1 + ((d0 : Nat) : Int) % 4 by omega] at this
    exact this
def tb_law_cell_49a05b28 (G : Gx) : AS := (aSeq (aIf (aTest (aBin oLt (aVar 1) (aCB bLen (aCons (aVar 0) aNil)))) (aRet (aBin oIx (aVar 0) (aVar 1))) aNext) (aSeq (aSet 2 (aBin (oAddN newD) (aBin (oMulT newD) (aC (.int 7001)) (aVar 1)) (aC (.int 12)))) (aSeq (aFor (iSeq (aVar 0)) (gN 3) (aSet 2 (aBin oMod (aCB bInt (aCons (aBin (oAddN newD) (aBin (oMulT newD) (aVar 2) (aC (.int 137))) (aVar 3)) aNil)) (aC (.int 1000000007))))) (aRet (aVar 2)))))
theorem rd_law_cell_49a05b28 (G : Gx) : Reads 4 (sp_law_cell_49a05b28 G) (tb_law_cell_49a05b28 G) := by
  rintro ds L P R ⟨ns, k, rfl, h0, h1, h⟩
  unfold tb_law_cell_49a05b28
  simp! []
  refine ⟨fun c => ?_, fun c => ?_⟩
  · obtain ⟨m, rfl⟩ : ∃ m : Nat, k = m := ⟨k.toNat, by omega⟩
    have e : ns[m]? = some (ns[m]'(by omega)) := List.getElem?_eq_getElem (by omega)
    simp! [↓ixA_map e]
    exact h _
  refine ⟨mulL (by decide), ?_⟩
  refine for_pre ns DV.int (fun done ρ' L' => L' = L ∧ ∃ (m : Int) (v : Option DV), ρ' = [some (.wl (ns.map DV.int)), some (.int k), some (.int m), v]) ⟨rfl, _, _, rfl⟩ (fun _ _ _ _ => trivial) ?_ ?_
  · rintro done x tl ρ' L' ex ⟨rfl, m, v, rfl⟩
    simp! []
    exact ⟨mulR (by decide), _, _, rfl⟩
  · rintro ρ' L' ⟨rfl, m, v, rfl⟩
    simp! []
    exact h m
def tb_Dyadic_top (G : Gx) : AS := (aRet (aFld "_top" 0 (aVar 0)))
theorem rd_Dyadic_top (G : Gx) : Reads 1 (sp_Dyadic_top G) (tb_Dyadic_top G) := by
  intro ds L P R h
  unfold sp_Dyadic_top at h
  split at h
  · obtain ⟨rfl, rfl, h⟩ := h
    exact ⟨rfl, _, rfl, h⟩
  · exact h.elim
def tb_Dyadic_power (G : Gx) : AS := (aRet (aFld "_power" 1 (aVar 0)))
theorem rd_Dyadic_power (G : Gx) : Reads 1 (sp_Dyadic_power G) (tb_Dyadic_power G) := by
  intro ds L P R h
  unfold sp_Dyadic_power at h
  split at h
  · obtain ⟨rfl, rfl, h⟩ := h
    exact ⟨rfl, _, rfl, h⟩
  · exact h.elim
def tb_Dyadic_less (G : Gx) : AS := (aRet (aBin oLt (aBin oShl (aFld "_top" 0 (aVar 0)) (aProp G.Dyadic (sp_Dyadic_power G) (aVar 1))) (aBin oShl (aProp G.Dyadic (sp_Dyadic_top G) (aVar 1)) (aFld "_power" 1 (aVar 0)))))
theorem rd_Dyadic_less (G : Gx) : Reads 2 (sp_Dyadic_less G) (tb_Dyadic_less G) := by
  intro ds L P R h
  unfold sp_Dyadic_less at h
  split at h
  · rename_i C ks t p C2 ks2 t2 p2
    obtain ⟨⟨rfl, rfl, rfl, rfl⟩, ⟨h1, h2, h3, h4, h5, h6⟩, h⟩ := h
    refine ⟨rfl, _, rfl, rfl, rfl, rfl, ⟨h3, by omega, h5⟩, rfl, rfl, rfl, rfl, _, rfl, ⟨h1, by omega, h6⟩, h⟩
  · exact h.elim
def tb_reduced (G : Gx) : AS := (aSeq (aWhile (aAnd (aTest (aBin oGt (aVar 1) (aC (.int 0)))) (aTest (aBin oEq (aBin oMod (aVar 0) (aC (.int 2))) (aC (.int 0))))) (aSeq (aSet 0 (aBin oDiv (aVar 0) (aC (.int 2)))) (aSet 1 (aBin oSub (aVar 1) (aC (.int 1)))))) (aRet (aTup (aCons (aVar 0) (aCons (aVar 1) aNil)))))
theorem rd_reduced (G : Gx) : Reads 2 (sp_reduced G) (tb_reduced G) := by
  intro ds L P R h
  unfold sp_reduced at h
  split at h
  · rename_i t p
    obtain ⟨h0, h⟩ := h
    refine ⟨fun m ρ L' => ∃ (t' : Int), ρ = [some (.int t'), some (.int (m : Nat))] ∧ L' = L ∧ red m t' = red p.toNat t, ⟨p.toNat, t, ?_, rfl, rfl⟩, ?_⟩
    · show [some (DV.int t), some (DV.int p)] = _
      rw [Int.toNat_of_nonneg h0]
    · rintro m ρ L' ⟨t', rfl, rfl, e⟩
      refine ⟨fun hp => ⟨?_, ?_⟩, fun hp => ⟨nft, fun _ => ?_⟩⟩
      · show (0 : Int) < 2
        decide
      · refine ⟨fun he => ?_, fun he => ?_⟩
        · have h1 : 0 < m := by simpa using hp
          have h2 : t' % 2 = 0 := by simpa using he
          obtain ⟨n, rfl⟩ : ∃ n, m = n + 1 := ⟨m - 1, by omega⟩
          refine ⟨⟨by decide, by decide⟩, n, Nat.lt_succ_self n, t' / 2, ?_, rfl, ?_⟩
          · show [some (DV.int (t' / 2)), some (DV.int (((n + 1 : Nat) : Int) - 1))] = _
            rw [show (((n + 1 : Nat) : Int) - 1) = (n : Int) by omega]
          · rw [← e]
            show red n (t' / 2) = if t' % 2 = 0 then red n (t' / 2) else (t', n + 1)
            rw [if_pos h2]
        · have h1 : 0 < m := by simpa using hp
          have h2 : ¬ t' % 2 = 0 := by simpa using he
          obtain ⟨n, rfl⟩ : ∃ n, m = n + 1 := ⟨m - 1, by omega⟩
          have e2 : red p.toNat t = (t', n + 1) := by
            rw [← e]
            show (if t' % 2 = 0 then red n (t' / 2) else (t', n + 1)) = _
            rw [if_neg h2]
          rw [e2] at h
          exact h
      · have h1 : m = 0 := by
          have : ¬ 0 < (m : Int) := by simpa using hp
          omega
        subst h1
        have e2 : red p.toNat t = (t', 0) := by rw [← e]; rfl
        rw [e2] at h
        exact h
  · exact h.elim
def tb_is_integer (G : Gx) : AS := (aRet (aAndV (aCB (bIsi G.k.K) (aCons (aVar 0) (aCons (aC (.ty "int")) aNil))) (aNotB (aCB (bIsi G.k.K) (aCons (aVar 0) (aCons (aC (.ty "bool")) aNil))))))
theorem rd_is_integer (G : Gx) : Reads 1 (sp_is_integer G) (tb_is_integer G) := by
  intro ds L P R h
  unfold sp_is_integer at h
  split at h
  · rename_i d
    cases d <;> try exact h.elim
    case non => exact ⟨false, kit_ty (by decide +kernel), ⟨nft, fun _ => h⟩⟩
    case bl b => exact ⟨true, kit_ty (by decide +kernel), ⟨fun _ => ⟨true, kit_ty (by decide +kernel), h⟩, ntf⟩⟩
    case int b => exact ⟨true, kit_ty (by decide +kernel), ⟨fun _ => ⟨false, kit_ty (by decide +kernel), h⟩, ntf⟩⟩
    case str b => exact ⟨false, kit_ty (by decide +kernel), ⟨nft, fun _ => h⟩⟩
    case lst b => exact ⟨false, kit_ty (by decide +kernel), ⟨nft, fun _ => h⟩⟩
    case tup b => exact ⟨false, kit_ty (by decide +kernel), ⟨nft, fun _ => h⟩⟩
    case ref a =>
      obtain ⟨⟨xs, e⟩, h⟩ := h
      exact .inr (.inl ⟨xs, e, false, kit_ty (by decide +kernel), ⟨nft, fun _ => h⟩⟩)
  · exact h.elim
def tb_Dyadic_init (G : Gx) : AS := (aSeq (aIf (aOr (aNot (aTru (aCall (sp_is_integer G) [] (aCons (aVar 1) aNil)))) (aNot (aTest (aChain oLe oLe (aNeg (aC (.int 1000000000000))) (aVar 1) (aC (.int 1000000000000)))))) (aRaise G.BadValue) aNext) (aSeq (aIf (aOr (aNot (aTru (aCall (sp_is_integer G) [] (aCons (aVar 2) aNil)))) (aNot (aTest (aChain oLe oLe (aC (.int 0)) (aVar 2) (aC (.int 40)))))) (aRaise G.BadValue) aNext) (aSeq (aSet 3 (aCall (sp_reduced G) [] (aCons (aVar 1) (aCons (aVar 2) aNil)))) (aSeq (aFNew G.Dyadic "_top" (aVar 0) (aBin oIx (aVar 3) (aC (.int 0)))) (aFNew G.Dyadic "_power" (aVar 0) (aBin oIx (aVar 3) (aC (.int 1))))))))
theorem dyOf_top {t p : DV} (h : ∀ i, t = .int i → ¬ (-10 ^ 12 ≤ i ∧ i ≤ 10 ^ 12)) : dyOf t p = none := by
  unfold dyOf
  split
  · rename_i i j
    rw [if_neg (fun z => h i rfl ⟨z.1, z.2.1⟩)]
  · rfl
theorem dyOf_pow {t p : DV} (h : ∀ j, p = .int j → ¬ (0 ≤ j ∧ j ≤ 40)) : dyOf t p = none := by
  unfold dyOf
  split
  · rename_i i j
    rw [if_neg (fun z => h j rfl ⟨z.2.2.1, z.2.2.2⟩)]
  · rfl
theorem rd_Dyadic_init (G : Gx) : Reads 4 (sp_Dyadic_init G) (tb_Dyadic_init G) := by
  intro ds L P R h
  unfold sp_Dyadic_init at h
  split at h
  · rename_i x t p
    have bad : dyOf t p = none → RS R G.BadValue L := fun e => by
      obtain ⟨dx, _, q⟩ := h.get.get
      rw [e] at q
      exact q
    refine told.imp (Sub.refl L) ?_ h
    intro h
    refine ⟨fun ht => ⟨fun _ => ?_, ntf⟩, fun ht => ?_⟩
    · exact bad (dyOf_top fun i e => by subst e; cases ht)
    obtain ⟨i, rfl⟩ := isIntD_of (d := t) (by simpa using ht)
    have rng : ¬ (-10 ^ 12 ≤ i ∧ i ≤ 10 ^ 12) → RS R G.BadValue L := fun z => bad (dyOf_top fun j e => by cases e; exact z)
    have second : -10 ^ 12 ≤ i ∧ i ≤ 10 ^ 12 → aSeq (aIf (aOr (aNot (aTru (aCall (sp_is_integer G) [] (aCons (aVar 2) aNil)))) (aNot (aTest (aChain oLe oLe (aC (.int 0)) (aVar 2) (aC (.int 40)))))) (aRaise G.BadValue) aNext) (aSeq (aSet 3 (aCall (sp_reduced G) [] (aCons (aVar 1) (aCons (aVar 2) aNil)))) (aSeq (aFNew G.Dyadic "_top" (aVar 0) (aBin oIx (aVar 3) (aC (.int 0)))) (aFNew G.Dyadic "_power" (aVar 0) (aBin oIx (aVar 3) (aC (.int 1))))))
        ⟨fun _ L => P .non L, P, fun _ _ => False, fun _ _ => False, fun c _ L => R c L⟩ (startA 4 [.ref x, .int i, p]) L := fun hi => by
      refine told.imp (Sub.refl L) ?_ h
      intro h
      refine ⟨fun hp => ⟨fun _ => ?_, ntf⟩, fun hp => ?_⟩
      · exact bad (dyOf_pow fun j e => by subst e; cases hp)
      obtain ⟨j, rfl⟩ := isIntD_of (d := p) (by simpa using hp)
      have rng : ¬ (0 ≤ j ∧ j ≤ 40) → RS R G.BadValue L := fun z => bad (dyOf_pow fun j e => by cases e; exact z)
      refine ⟨fun z => ⟨fun z2 => rng fun q => df (by simpa using z2) q.2, fun z2 => ?_⟩, fun z => ⟨fun _ => rng fun q => df z q.1, ntf⟩⟩
      have z0 := dt z
      have z1 : j ≤ 40 := by simpa using z2
      obtain ⟨dx, hx, q⟩ := h
      have e : dyOf (.int i) (.int j) = some (red j.toNat i) := by
        show (if -10 ^ 12 ≤ i ∧ i ≤ 10 ^ 12 ∧ 0 ≤ j ∧ j ≤ 40 then some (red j.toNat i) else none) = _
        rw [if_pos ⟨hi.1, hi.2, z0, z1⟩]
      rw [e] at q
      refine ⟨z0, _, rfl, dx, _, _, hx, by decide +kernel, _, rfl, dx, _, _, updL_same, by decide +kernel, ?_⟩
      rw [updL_updL]
      exact q
    refine ⟨fun z => ⟨fun z2 => rng fun q => df (by simpa using z2) q.2, fun z2 => second ⟨dt z, by simpa using z2⟩⟩, fun z => ⟨fun _ => rng fun q => df z q.1, ntf⟩⟩
  · exact h.elim
theorem dyOf_in {t p : Int} (h : -10 ^ 12 ≤ t ∧ t ≤ 10 ^ 12 ∧ 0 ≤ p ∧ p ≤ 40) : dyOf (.int t) (.int p) = some (red p.toNat t) := by
  show (if -10 ^ 12 ≤ t ∧ t ≤ 10 ^ 12 ∧ 0 ≤ p ∧ p ≤ 40 then some (red p.toNat t) else none) = _
  rw [if_pos h]
theorem mk2_dy {G : Gx} {t p : Int} {L : Led} {P : PD} {R : Addr → Led → Prop} (h : -10 ^ 12 ≤ t ∧ t ≤ 10 ^ 12 ∧ 0 ≤ p ∧ p ≤ 40) (q : P (dy G (red p.toNat t).1 (red p.toNat t).2) L) : mk2_Dyadic_init G [.int t, .int p] L P R := by
  unfold mk2_Dyadic_init
  simp only [told, dyOf_in h]
  exact q
theorem mk1_dy {G : Gx} {t : Int} {L : Led} {P : PD} {R : Addr → Led → Prop} (h : -10 ^ 12 ≤ t ∧ t ≤ 10 ^ 12) (q : P (dy G t 0) L) : mk1_Dyadic_init G [.int t] L P R := by
  unfold mk1_Dyadic_init
  simp only [told, dyOf_in (p := 0) ⟨h.1, h.2, by decide, by decide⟩]
  exact q
theorem mk2_or {G : Gx} {t p : Int} {L : Led} {P : PD} {R : Addr → Led → Prop} (h0 : 0 ≤ p) (q : dyOr G (t, p.toNat) L P R) : mk2_Dyadic_init G [.int t, .int p] L P R := by
  by_cases h : -10 ^ 12 ≤ t ∧ t ≤ 10 ^ 12 ∧ 0 ≤ p ∧ p ≤ 40
  · refine mk2_dy h ?_
    unfold dyOr at q
    rw [if_pos ⟨h.1, h.2.1, by show p.toNat ≤ 40; omega⟩] at q
    exact q
  · unfold mk2_Dyadic_init
    unfold dyOr at q
    rw [if_neg (fun z => h ⟨z.1, z.2.1, h0, by have : p.toNat ≤ 40 := z.2.2; omega⟩)] at q
    have e : dyOf (.int t) (.int p) = none := by
      show (if -10 ^ 12 ≤ t ∧ t ≤ 10 ^ 12 ∧ 0 ≤ p ∧ p ≤ 40 then some (red p.toNat t) else none) = _
      rw [if_neg h]
    simp only [told, e]
    exact q
theorem mk2_bad {G : Gx} {t p : DV} {L : Led} {P : PD} {R : Addr → Led → Prop} (e : dyOf t p = none) (h : told t L (told p L (R G.BadValue L))) : mk2_Dyadic_init G [t, p] L P R := by
  unfold mk2_Dyadic_init
  refine h.imp (Sub.refl L) fun h => h.imp (Sub.refl L) fun h => ?_
  rw [e]
  exact h
def tb_Dyadic_add_2 (G : Gx) : AS := (aSeq (aSet 4 (aCall (sp_reduced G) [] (aCons (aVar 3) (aCons (aVar 2) aNil)))) (aRet (aMake (mk2_Dyadic_init G) (aCons (aBin oIx (aVar 4) (aC (.int 0))) (aCons (aBin oIx (aVar 4) (aC (.int 1))) aNil)))))
def tb_Dyadic_add_1 (G : Gx) : AS := (aSeq (aSet 3 (aBin oAdd (aBin oShl (aFld "_top" 0 (aVar 0)) (aBin oSub (aVar 2) (aFld "_power" 1 (aVar 0)))) (aBin oShl (aProp G.Dyadic (sp_Dyadic_top G) (aVar 1)) (aBin oSub (aVar 2) (aProp G.Dyadic (sp_Dyadic_power G) (aVar 1)))))) (tb_Dyadic_add_2 G))
def tb_Dyadic_add (G : Gx) : AS := (aSeq (aSet 2 (aCB bMax2 (aCons (aFld "_power" 1 (aVar 0)) (aCons (aProp G.Dyadic (sp_Dyadic_power G) (aVar 1)) aNil)))) (tb_Dyadic_add_1 G))
theorem rd_Dyadic_add (G : Gx) : Reads 5 (sp_Dyadic_add G) (tb_Dyadic_add G) := by
  intro ds L P R h
  unfold sp_Dyadic_add at h
  split at h
  · rename_i C ks t p C2 ks2 t2 p2
    obtain ⟨⟨rfl, rfl, rfl, rfl⟩, ⟨⟨h1, _⟩, ⟨h2, _⟩⟩, h⟩ := h
    obtain ⟨p, rfl⟩ : ∃ n : Nat, p = n := ⟨p.toNat, by omega⟩
    obtain ⟨p2, rfl⟩ : ∃ n : Nat, p2 = n := ⟨p2.toNat, by omega⟩
    rw [Int.toNat_natCast, Int.toNat_natCast] at h
    have em : (if (p2 : Int) > (p : Int) then (p2 : Int) else (p : Int)) = ((max p p2 : Nat) : Int) := by split <;> omega
    refine ⟨rfl, _, rfl, rfl, rfl, rfl, ?_⟩
    show tb_Dyadic_add_1 G _ [some (dy G t p), some (dy G t2 p2), some (.int (if (p2 : Int) > (p : Int) then (p2 : Int) else (p : Int))), none, none] L
    rw [em]
    have e1 : (((max p p2 : Nat) : Int) - p).toNat = max p p2 - p := by omega
    have e2 : (((max p p2 : Nat) : Int) - p2).toNat = max p p2 - p2 := by omega
    refine ⟨rfl, _, rfl, rfl, _, rfl, ⟨?_, ?_, by omega⟩, rfl, rfl, rfl, rfl, rfl, rfl, ⟨?_, ?_, by omega⟩, ?_⟩
    · show 0 ≤ ((max p p2 : Nat) : Int) - p; omega
    · show ((max p p2 : Nat) : Int) - p ≤ _; omega
    · show 0 ≤ ((max p p2 : Nat) : Int) - p2; omega
    · show ((max p p2 : Nat) : Int) - p2 ≤ _; omega
    show tb_Dyadic_add_2 G _ [some (dy G t p), some (dy G t2 p2), some (.int ((max p p2 : Nat) : Int)), some (.int (t * 2 ^ (((max p p2 : Nat) : Int) - p).toNat + t2 * 2 ^ (((max p p2 : Nat) : Int) - p2).toNat)), none] L
    rw [e1, e2]
    refine ⟨by omega, _, rfl, _, rfl, ?_⟩
    refine mk2_or (Int.natCast_nonneg _) ?_
    exact h
  · exact h.elim
def tb_Dyadic_neg (G : Gx) : AS := (aRet (aMake (mk2_Dyadic_init G) (aCons (aNeg (aFld "_top" 0 (aVar 0))) (aCons (aFld "_power" 1 (aVar 0)) aNil))))
theorem rd_Dyadic_neg (G : Gx) : Reads 1 (sp_Dyadic_neg G) (tb_Dyadic_neg G) := by
  intro ds L P R h
  unfold sp_Dyadic_neg at h
  split at h
  · rename_i C ks t p
    obtain ⟨⟨rfl, rfl⟩, ⟨h1, h2⟩, h⟩ := h
    refine ⟨rfl, _, rfl, rfl, _, rfl, ?_⟩
    refine mk2_dy ⟨by omega, by omega, h1.2.2.1, h1.2.2.2⟩ ?_
    rw [red_stop (by omega)]
    exact h
  · exact h.elim
def tb_Dyadic_sub (G : Gx) : AS := (aRet (aOpM G.Dyadic (sp_Dyadic_add G) (aVar 0) (aUnM G.Dyadic (sp_Dyadic_neg G) (aVar 1))))
theorem rd_Dyadic_sub (G : Gx) : Reads 2 (sp_Dyadic_sub G) (tb_Dyadic_sub G) := by
  intro ds L P R h
  unfold sp_Dyadic_sub at h
  split at h
  · rename_i C ks t p C2 ks2 t2 p2
    obtain ⟨⟨rfl, rfl, rfl, rfl⟩, ⟨h1, h2⟩, h⟩ := h
    refine ⟨rfl, ⟨rfl, rfl⟩, h2, rfl, rfl, ⟨rfl, rfl, rfl, rfl⟩, ⟨h1, ⟨⟨by have := h2.1; omega, by have := h2.1; omega, by omega, by have := h2.1; omega⟩, ?_⟩⟩, ?_⟩
    · rw [Int.toNat_natCast]
      have := h2.2
      omega
    · rw [Int.toNat_natCast]
      exact h
  · exact h.elim
def tb_Dyadic_same (G : Gx) : AS := (aRet (aAndV (aBin oEq (aFld "_top" 0 (aVar 0)) (aProp G.Dyadic (sp_Dyadic_top G) (aVar 1))) (aBin oEq (aFld "_power" 1 (aVar 0)) (aProp G.Dyadic (sp_Dyadic_power G) (aVar 1)))))
theorem rd_Dyadic_same (G : Gx) : Reads 2 (sp_Dyadic_same G) (tb_Dyadic_same G) := by
  intro ds L P R h
  unfold sp_Dyadic_same at h
  split at h
  · rename_i C ks t p C2 ks2 t2 p2
    obtain ⟨⟨rfl, rfl, rfl, rfl⟩, h⟩ := h
    refine ⟨rfl, _, rfl, rfl, rfl, rfl, fun z => ⟨rfl, _, rfl, rfl, rfl, rfl, ?_⟩, fun z => ?_⟩
    · have z := et z
      show P (.bl (false ^^ decide (p = p2))) L
      rw [show (false ^^ decide (p = p2)) = decide (t = t2 ∧ p = p2) by simp [z]]
      exact h
    · have z := ef z
      rw [show decide (t = t2 ∧ p = p2) = false by simp [z]] at h
      exact h
  · exact h.elim
def tb_times (G : Gx) : AS := (aSeq (aIf (aTest (aBin oLt (aVar 1) (aC (.int 0)))) (aRet (aUnM G.Dyadic (sp_Dyadic_neg G) (aVar 0))) aNext) (aSeq (aIf (aTest (aBin oGt (aVar 1) (aC (.int 0)))) (aRet (aVar 0)) aNext) (aRet (aMake (mk1_Dyadic_init G) (aCons (aC (.int 0)) aNil)))))
theorem rd_times (G : Gx) : Reads 2 (sp_times G) (tb_times G) := by
  rintro ds L P R ⟨n, s, rfl, hn, hs, h⟩
  unfold tb_times
  simp! []
  refine ⟨fun c => isC_dq (c_neg hn ?_), fun c => ⟨fun c2 => ?_, fun c2 => c_mk0 ?_⟩⟩
  · rcases hs with rfl | rfl | rfl <;> first | (rw [show (-n : Int) = -1 * n by omega]; exact h) | omega
  · rcases hs with rfl | rfl | rfl <;> first | (rw [Int.one_mul] at h; exact h) | omega
  · rcases hs with rfl | rfl | rfl <;> first | (rw [Int.zero_mul] at h; exact h) | omega
def tb_slope_between (G : Gx) : AS := (aSeq (aSet 2 (aOpM G.Dyadic (sp_Dyadic_sub G) (aBin oIx (aVar 1) (aC (.int 0))) (aBin oIx (aVar 0) (aC (.int 0))))) (aSeq (aSet 3 (aOpM G.Dyadic (sp_Dyadic_sub G) (aBin oIx (aVar 1) (aC (.int 1))) (aBin oIx (aVar 0) (aC (.int 1))))) (aSeq (aFor (iSeq (aTup (aCons (aNeg (aC (.int 1))) (aCons (aC (.int 0)) (aCons (aC (.int 1)) aNil))))) (gN 4) (aIf (aTru (aMeth G.Dyadic (sp_Dyadic_same G) [] (aVar 3) (aCons (aCall (sp_times G) [] (aCons (aVar 2) (aCons (aVar 4) aNil))) aNil))) (aRet (aVar 4)) aNext)) (aRaise G.BadValue))))
theorem rd_slope_between (G : Gx) : Reads 5 (sp_slope_between G) (tb_slope_between G) := by
  rintro ds L P R ⟨a, b, rfl, ok, h1, h2, hs, hn⟩
  unfold tb_slope_between
  simp! [ptD]
  refine isC_dq (isC_dq (c_sub ok.2.2.1 ok.1 h1 ?_))
  simp! [ptD]
  refine isC_dq (isC_dq (c_sub ok.2.2.2 ok.2.1 h2 ?_))
  simp! []
  refine for_run ?_
  simp! [runL]
  refine isC_dq ⟨_, -1, rfl, h1, .inl rfl, ?_⟩
  simp! []
  refine c_same ?_
  simp! []
  have bad : (¬b.2 - a.2 = -1 * (b.1 - a.1)) → (¬b.2 - a.2 = 0) → (¬b.2 - a.2 = b.1 - a.1) → RS R G.BadValue L := fun z1 z2 z3 => hn (by unfold stepQ; rw [if_neg (by omega), if_neg z2, if_neg z3])
  refine ⟨fun z => hs _ (by unfold stepQ; rw [if_pos (by omega)]), fun z1 => isC_dq ⟨_, 0, rfl, h1, .inr (.inl rfl), ?_⟩⟩
  simp! []
  refine c_same ?_
  simp! []
  rw [Int.zero_mul]
  refine ⟨fun z => hs _ (by unfold stepQ; rw [if_neg (by omega), if_pos z]), fun z2 => isC_dq ⟨_, 1, rfl, h1, .inr (.inr rfl), ?_⟩⟩
  simp! []
  refine c_same ?_
  simp! []
  rw [Int.one_mul]
  exact ⟨fun z => hs _ (by unfold stepQ; rw [if_neg (by omega), if_neg z2, if_pos z]), fun z3 => bad z1 z2 z3⟩
def tb_Wall_init_8 (G : Gx) : AS := (aSeq (aFNew G.Wall "_points" (aVar 0) (aLstN newR (aCons (aBin oIx (aVar 1) (aC (.int 0))) aNil))) (aSeq (aFNew G.Wall "_slopes" (aVar 0) (aLstN newR (aCons (aBin oIx (aVar 3) (aC (.int 0))) aNil))) (aFor (iRng rng2 (aCons (aC (.int 1)) (aCons (aCB bLen (aCons (aVar 1) aNil)) aNil))) (gN 4) (aIf (aTest (aBin oNe (aBin oIx (aVar 3) (aVar 4)) (aBin oIx (aVar 3) (aBin oSub (aVar 4) (aC (.int 1)))))) (aSeq (aDrop (aLm mAppend (aFld "_points" 0 (aVar 0)) (aCons (aBin oIx (aVar 1) (aVar 4)) aNil))) (aDrop (aLm mAppend (aFld "_slopes" 1 (aVar 0)) (aCons (aBin oIx (aVar 3) (aVar 4)) aNil)))) aNext))))
def tb_Wall_init_2 (G : Gx) : AS := (aSeq (aSet 3 (aLstN newR aNil)) (aSeq (aFor (iRng rng2 (aCons (aC (.int 1)) (aCons (aCB bLen (aCons (aVar 1) aNil)) aNil))) (gN 4) (aSeq (aIf (aNot (aTru (aMeth G.Dyadic (sp_Dyadic_less G) [] (aBin oIx (aBin oIx (aVar 1) (aBin oSub (aVar 4) (aC (.int 1)))) (aC (.int 0))) (aCons (aBin oIx (aBin oIx (aVar 1) (aVar 4)) (aC (.int 0))) aNil)))) (aRaise G.BadValue) aNext) (aDrop (aLm mAppend (aVar 3) (aCons (aCall (sp_slope_between G) [] (aCons (aBin oIx (aVar 1) (aBin oSub (aVar 4) (aC (.int 1)))) (aCons (aBin oIx (aVar 1) (aVar 4)) aNil))) aNil))))) (aSeq (aDrop (aLm mAppend (aVar 3) (aCons (aVar 2) aNil))) (tb_Wall_init_8 G))))
def tb_Wall_init (G : Gx) : AS := (aSeq (aIf (aOr (aNot (aTru (aVar 1))) (aOr (aTest (aBin oNe (aProp G.Dyadic (sp_Dyadic_top G) (aBin oIx (aBin oIx (aVar 1) (aC (.int 0))) (aC (.int 0)))) (aC (.int 0)))) (aTest (aBin (oIn true) (aVar 2) (aTup (aCons (aNeg (aC (.int 1))) (aCons (aC (.int 0)) (aCons (aC (.int 1)) aNil)))))))) (aRaise G.BadValue) aNext) (tb_Wall_init_2 G))
theorem t8_Wall {G : Gx} {L1 : Led} {P : PD} {R : Addr → Led → Prop} {x dx c : Addr} {d : DV} {s : Int} {v : Option DV} {l : List (Pt × Int)} {p : Pt × Int} (hl : (p :: l).length ≤ 2 ^ 20) (hd : LsD d ((p :: l).map fun p => ptD G p.1) L1) (hc : L1 c = some (.lst ((p :: l).map fun p => .int p.2))) (hx : L1 x = some (.ins G.Wall dx [] []))
    (h : ∀ (L' : Led) (a b : Addr), L1 a = none → L1 b = none → a ≠ b → L' a = some (.lst ((thinQ (p :: l)).map fun p => ptD G p.1)) → L' b = some (.lst ((thinQ (p :: l)).map fun p => .int p.2)) → L' x = some (.ins G.Wall dx ksW [.ref a, .ref b]) → (∀ e, e ≠ x → L1 e ≠ none → L' e = L1 e) → P .non L') :
    tb_Wall_init_8 G ⟨fun _ L => P .non L, P, fun _ _ => False, fun _ _ => False, fun c _ L => R c L⟩ [some (.ref x), some d, some (.int s), some (.ref c), v] L1 := by
  unfold tb_Wall_init_8
  have hd0 : LsD d (ptD G p.1 :: l.map fun p => ptD G p.1) L1 := hd
  have hc0 : L1 c = some (.lst (.int p.2 :: l.map fun p => .int p.2)) := hc
  simp! [↓hd0.ix]
  intro a ha
  have xa : x ≠ a := ne_led hx ha
  have ca : c ≠ a := ne_led hc ha
  have hxa : updL L1 a (.lst [ptD G p.1]) x = some (.ins G.Wall dx [] []) := by rw [updL_ne xa]; exact hx
  simp! [↓fnewA_of hxa]
  refine ⟨by decide +kernel, ?_⟩
  have k2 : ∀ {m m' : MO} (e : Addr), e ≠ x → e ≠ a → updL (updL L1 a m) x m' e = L1 e := fun e h1 h2 => by rw [updL_ne h1, updL_ne h2]
  have hx2 : updL (updL L1 a (.lst [ptD G p.1])) x (.ins G.Wall dx ["_points"] [.ref a]) x = some (.ins G.Wall dx ["_points"] [.ref a]) := updL_same
  have ha2 : updL (updL L1 a (.lst [ptD G p.1])) x (.ins G.Wall dx ["_points"] [.ref a]) a = some (.lst [ptD G p.1]) := by rw [updL_ne (Ne.symm xa), updL_same]
  have cx : c ≠ x := ne_led2 hc hx (by nofun)
  have hc2 : updL (updL L1 a (.lst [ptD G p.1])) x (.ins G.Wall dx ["_points"] [.ref a]) c = some (.lst (.int p.2 :: l.map fun p => .int p.2)) := by rw [k2 c cx ca]; exact hc0
  simp! [↓isi_r_list hc2, ↓withL_of hc2, ↓withSq_of hc2, ↓seqI_of hc2, ↓lmR_of hc2, ↓lmB_of hc2, ↓enuA_of hc2]
  intro b hb
  have xb : x ≠ b := ne_led hx2 hb
  have ab : a ≠ b := ne_led ha2 hb
  have cb : c ≠ b := ne_led hc2 hb
  have hb1 : L1 b = none := by rw [k2 b (Ne.symm xb) (Ne.symm ab)] at hb; exact hb
  have hxb : updL (updL (updL L1 a (.lst [ptD G p.1])) x (.ins G.Wall dx ["_points"] [.ref a])) b (.lst [.int p.2]) x = some (.ins G.Wall dx ["_points"] [.ref a]) := by rw [updL_ne xb]; exact hx2
  rw [fnewA_of hxb]
  obtain ⟨L3, hL3⟩ : ∃ L3, L3 = updL (updL (updL (updL L1 a (.lst [ptD G p.1])) x (.ins G.Wall dx ["_points"] [.ref a])) b (.lst [.int p.2])) x (.ins G.Wall dx ksW [.ref a, .ref b]) := ⟨_, rfl⟩
  have k3 : ∀ e, e ≠ x → e ≠ a → e ≠ b → L3 e = L1 e := fun e h1 h2 h3 => by rw [hL3, updL_ne h1, updL_ne h3, k2 e h1 h2]
  have hx3 : L3 x = some (.ins G.Wall dx ksW [.ref a, .ref b]) := by rw [hL3, updL_same]
  have ha3 : L3 a = some (.lst [ptD G p.1]) := by rw [hL3, updL_ne (Ne.symm xa), updL_ne ab]; exact ha2
  have hb3 : L3 b = some (.lst [.int p.2]) := by rw [hL3, updL_ne (Ne.symm xb), updL_same]
  refine ⟨by decide +kernel, ?_⟩
  show aFor _ _ _ _ _ (updL _ x (.ins G.Wall dx ksW [.ref a, .ref b]))
  rw [← hL3]
  have keepD : ∀ L', (∀ e, e ≠ x → e ≠ a → e ≠ b → L' e = L1 e) → LsD d ((p :: l).map fun p => ptD G p.1) L' ∧ L' c = some (.lst ((p :: l).map fun p => .int p.2)) := fun L' k => by
    refine ⟨?_, by rw [k c cx ca cb]; exact hc⟩
    rcases hd with rfl | ⟨q, rfl, hq⟩
    · exact .inl rfl
    · exact .inr ⟨q, rfl, by rw [k q (ne_led2 hq hx (by nofun)) (ne_led hq ha) (ne_led hq hb1)]; exact hq⟩
  have hd3 := (keepD L3 k3).1
  rw [List.length_cons] at hl
  simp! [↓hd3.len]
  have em : (((l.length + 1 : Nat) : Int) - 1).toNat = l.length := by omega
  rw [em, rangeD_1]
  refine ⟨⟨by omega, by omega, by omega, by omega⟩, for_rng l.length _ (fun i ρ' L' => ∃ (v : Option DV), ρ' = [some (.ref x), some d, some (.int s), some (.ref c), v] ∧ L' a = some (.lst ((thinQ ((p :: l).take (i + 1))).map fun p => ptD G p.1)) ∧ L' b = some (.lst ((thinQ ((p :: l).take (i + 1))).map fun p => .int p.2)) ∧ L' x = some (.ins G.Wall dx ksW [.ref a, .ref b]) ∧ ∀ e, e ≠ x → e ≠ a → e ≠ b → L' e = L1 e) ⟨_, rfl, ha3, hb3, hx3, k3⟩ (fun _ _ _ _ => trivial) ?_ ?_⟩
  · rintro i ρ' L' hi ⟨v, rfl, ea, eb, ex, ek⟩
    have e1 : ((i + 1 : Nat) : Int) - 1 = ((i : Nat) : Int) := by omega
    obtain ⟨y, hy⟩ : ∃ y, (p :: l)[i]? = some y := ⟨_, List.getElem?_eq_getElem (by simp; omega)⟩
    obtain ⟨z, hz⟩ : ∃ z, (p :: l)[i + 1]? = some z := ⟨_, List.getElem?_eq_getElem (by simp; omega)⟩
    have gl : ((p :: l).take (i + 1)).getLast? = some y := by
      rw [List.getLast?_eq_getElem?, List.length_take, List.length_cons, show min (i + 1) (l.length + 1) - 1 = i by omega, List.getElem?_take_of_lt (by omega)]
      exact hy
    have tk : (p :: l).take (i + 1 + 1) = (p :: l).take (i + 1) ++ [z] := by rw [List.take_succ, hz]; rfl
    have tn := thinQ_snoc (x := z) gl
    rw [← tk] at tn
    have tl := thinQ_len ((p :: l).take (i + 1))
    rw [List.length_take] at tl
    obtain ⟨hdi, hci⟩ := keepD L' ek
    simp! [e1, ↓isi_r_list hci, ↓withL_of hci, ↓withSq_of hci, ↓seqI_of hci, ↓lmR_of hci, ↓lmB_of hci, ↓enuA_of hci, ↓ixA_map hy, ↓ixA_map hz]
    refine ⟨fun ne => ?_, fun eq => ⟨_, rfl, ?_, ?_, ex, ek⟩⟩
    · rw [if_pos ne] at tn
      rw [fldA_at ex rfl rfl]
      simp! [↓isi_r_list ea, ↓withL_of ea, ↓withSq_of ea, ↓seqI_of ea, ↓lmR_of ea, ↓lmB_of ea, ↓enuA_of ea, ↓hdi.ix, ↓ixA_map hz]
      refine ⟨by rw [sizeLine_eq]; omega, ?_⟩
      have ex2 : ∀ m : MO, updL L' a m x = some (.ins G.Wall dx ksW [.ref a, .ref b]) := fun m => by rw [updL_ne xa]; exact ex
      have eb2 : ∀ m : MO, updL L' a m b = L' b := fun m => updL_ne (Ne.symm ab)
      have ec2 : ∀ m : MO, updL L' a m c = some (.lst ((p :: l).map fun p => .int p.2)) := fun m => by rw [updL_ne ca]; exact hci
      rw [fldA_at (ex2 _) rfl rfl]
      have hb2 := (eb2 (.lst (List.map (fun p => ptD G p.1) (thinQ (List.take (i + 1) (p :: l))) ++ [ptD G z.1]))).trans eb
      have hc2 := ec2 (.lst (List.map (fun p => ptD G p.1) (thinQ (List.take (i + 1) (p :: l))) ++ [ptD G z.1]))
      simp! [↓isi_r_list hb2, ↓withL_of hb2, ↓withSq_of hb2, ↓seqI_of hb2, ↓lmR_of hb2, ↓lmB_of hb2, ↓enuA_of hb2, ↓isi_r_list hc2, ↓withL_of hc2, ↓withSq_of hc2, ↓seqI_of hc2, ↓lmR_of hc2, ↓lmB_of hc2, ↓enuA_of hc2, ↓ixA_map hz]
      refine ⟨by rw [sizeLine_eq]; omega, _, rfl, ?_, ?_, ?_, fun e h1 h2 h3 => ?_⟩
      · rw [tn, List.map_append, updL_ne ab, updL_same]; rfl
      · rw [tn, List.map_append]; rfl
      · rw [updL_ne xb]; exact ex2 _
      · rw [updL_ne h3, updL_ne h2]; exact ek e h1 h2 h3
    · rw [tn, if_neg (fun q => q eq), List.append_nil]; exact ea
    · rw [tn, if_neg (fun q => q eq), List.append_nil]; exact eb
  · rintro ρ' L' ⟨v, rfl, ea, eb, ex, ek⟩
    rw [List.take_of_length_le (by simp)] at ea eb
    exact h L' a b ha hb1 ab ea eb ex fun e he hne => ek e he (fun z => hne (z ▸ ha)) (fun z => hne (z ▸ hb1))
theorem t2_Wall {G : Gx} {L : Led} {P : PD} {R : Addr → Led → Prop} {x dx : Addr} {d : DV} {s : Int} {ps : List Pt} {p : Pt} (hl : (p :: ps).length ≤ 2 ^ 20) (hd : LsD d ((p :: ps).map (ptD G)) L) (hx : L x = some (.ins G.Wall dx [] [])) (hn : nearQ (p :: ps)) (z0 : p.1 = 0) (hs : isSl s)
    (hg : ∀ w, wallQ (p :: ps) s = some w → ∀ (L' : Led) (a b : Addr), L a = none → L b = none → a ≠ b → L' a = some (.lst (w.map fun p => ptD G p.1)) → L' b = some (.lst (w.map fun p => .int p.2)) → L' x = some (.ins G.Wall dx ksW [.ref a, .ref b]) → (∀ c, c ≠ x → L c ≠ none → L' c = L c) → P .non L') (hb : slopesQ (p :: ps) = none → RS R G.BadValue L) :
    tb_Wall_init_2 G ⟨fun _ L => P .non L, P, fun _ _ => False, fun _ _ => False, fun c _ L => R c L⟩ [some (.ref x), some d, some (.int s), none, none] L := by
  unfold tb_Wall_init_2
  simp! []
  intro c hc
  have xc : x ≠ c := ne_led hx hc
  have hdc : LsD d ((p :: ps).map (ptD G)) (updL L c (.lst [])) := hd.sub (Sub.new hc)
  simp! [↓hdc.len]
  have em : (((ps.length + 1 : Nat) : Int) - 1).toNat = ps.length := by omega
  rw [List.length_cons] at hl
  rw [em, rangeD_1]
  refine ⟨⟨by omega, by omega, by omega, by omega⟩, for_rng ps.length _ (fun i ρ' L' => ∃ (ss : List Int) (v : Option DV), ρ' = [some (.ref x), some d, some (.int s), some (.ref c), v] ∧ L' = updL L c (.lst (ss.map DV.int)) ∧ ss.length = i ∧ ∀ (j : Nat) (a b : Pt), j < i → (p :: ps)[j]? = some a → (p :: ps)[j + 1]? = some b → a.1 < b.1 ∧ ∃ s, ss[j]? = some s ∧ stepQ a b = some s) ⟨[], _, rfl, rfl, rfl, fun j a b z => absurd z (Nat.not_lt_zero j)⟩ (fun _ _ _ _ => trivial) ?_ ?_⟩
  · rintro i ρ' L' hi ⟨ss, v, rfl, rfl, hss, hst⟩
    have e1 : ((i + 1 : Nat) : Int) - 1 = ((i : Nat) : Int) := by omega
    obtain ⟨a, ha⟩ : ∃ a, (p :: ps)[i]? = some a := ⟨_, List.getElem?_eq_getElem (by simp; omega)⟩
    obtain ⟨b, hb'⟩ : ∃ b, (p :: ps)[i + 1]? = some b := ⟨_, List.getElem?_eq_getElem (by simp; omega)⟩
    have oa := hn.1 a (List.mem_of_getElem? ha)
    have ob := hn.1 b (List.mem_of_getElem? hb')
    have oo := hn.2 i a b ha hb'
    have hdi : LsD d ((p :: ps).map (ptD G)) (updL L c (.lst (ss.map DV.int))) := hd.sub (Sub.new hc)
    have hci : updL L c (.lst (ss.map DV.int)) c = some (.lst (ss.map DV.int)) := updL_same
    simp! [e1, ↓hdi.ix, ↓ixA_map ha, ↓ixA_map hb', ptD]
    refine isC_dq ?_
    simp! [↓hdi.ix, ↓ixA_map hb', ptD]
    refine c_less oa.1 ob.1 ?_
    simp! []
    have no : ¬ (a.1 < b.1 ∧ ∃ s, stepQ a b = some s) → RS R G.BadValue (updL L c (.lst (ss.map DV.int))) := fun z => (hb (slopesQ_no ha hb' z)).up (Sub.new hc)
    refine ⟨fun z => no fun q => z q.1, fun lt => ?_⟩
    have xb : ∀ {L : Led} {P : PD} {lk : Lk P}, ixA ((p :: ps).map (ptD G)) ((i : Int) + 1) L P lk = P (ptD G b) L := ixA_map hb'
    simp! [e1, Int.add_sub_cancel, ↓hdi.ix, ↓ixA_map ha, ↓ixA_map hb', ↓xb]
    refine ⟨a, b, rfl, ⟨oa.1, oa.2, ob.1, ob.2⟩, oo.1, oo.2, fun t ht => ?_, fun z => no fun q => ?_⟩
    · simp! [↓isi_r_list hci, ↓withL_of hci, ↓withSq_of hci, ↓seqI_of hci, ↓lmR_of hci, ↓lmB_of hci, ↓enuA_of hci]
      refine ⟨by rw [sizeLine_eq]; omega, ss ++ [t], _, rfl, ?_, by simp [hss], fun j a' b' hj h1 h2 => ?_⟩
      · rw [List.map_append]; rfl
      · rcases Nat.lt_or_ge j i with hji | hji
        · obtain ⟨q1, q2, q3, q4⟩ := hst j a' b' hji h1 h2
          exact ⟨q1, q2, by rw [List.getElem?_append_left (by omega)]; exact q3, q4⟩
        · have : j = i := by omega
          subst this
          have h2 : (p :: ps)[j + 1]? = some b' := h2
          rw [ha] at h1; rw [hb'] at h2
          cases h1; cases h2
          exact ⟨lt, t, by rw [List.getElem?_append_right (by omega), hss]; simp, ht⟩
    · obtain ⟨_, t, ht⟩ := q
      rw [z] at ht; cases ht
  · rintro ρ' L' ⟨ss, v, rfl, rfl, hss, hst⟩
    have hci : updL L c (.lst (ss.map DV.int)) c = some (.lst (ss.map DV.int)) := updL_same
    simp! [↓isi_r_list hci, ↓withL_of hci, ↓withSq_of hci, ↓seqI_of hci, ↓lmR_of hci, ↓lmB_of hci, ↓enuA_of hci]
    refine ⟨by rw [sizeLine_eq]; omega, ?_⟩
    have sq : slopesQ (p :: ps) = some ss := slopesQ_iff.mpr ⟨by rw [hss]; simp, fun j a b h1 h2 => hst j a b (by have := (List.getElem?_eq_some_iff.mp h2).1; simp at this; omega) h1 h2⟩
    have wq : wallQ (p :: ps) s = some (thinQ ((p :: ps).zip (ss ++ [s]))) := by
      show (if p.1 = 0 ∧ isSl s then match slopesQ (p :: ps) with
        | some ss => some (thinQ ((p :: ps).zip (ss ++ [s])))
        | none => none
        else none) = _
      rw [if_pos ⟨z0, hs⟩, sq]
    have lz : ((p :: ps).zip (ss ++ [s])).length = ps.length + 1 := by simp [hss]
    have m1 : ((p :: ps).zip (ss ++ [s])).map (fun p => ptD G p.1) = (p :: ps).map (ptD G) := by
      rw [show (fun p : Pt × Int => ptD G p.1) = ptD G ∘ Prod.fst from rfl, ← List.map_map, List.map_fst_zip (by simp [hss])]
    have m2 : ((p :: ps).zip (ss ++ [s])).map (fun p => DV.int p.2) = (ss ++ [s]).map DV.int := by
      rw [show (fun p : Pt × Int => DV.int p.2) = DV.int ∘ Prod.snd from rfl, ← List.map_map, List.map_snd_zip (by simp [hss])]
    have hg' := hg _ wq
    generalize (p :: ps).zip (ss ++ [s]) = zz at lz m1 m2 hg'
    cases zz with
    | nil => simp at lz
    | cons y l =>
      refine t8_Wall (by rw [lz]; exact hl) ?_ ?_ (by rw [updL_ne xc]; exact hx) fun L' a b ha hb ne ea eb ex ek => hg' L' a b ?_ ?_ ne ea eb ex fun e h1 h2 => ?_
      · rw [m1]; exact hd.sub (Sub.new hc)
      · rw [m2, List.map_append]; exact updL_same
      · cases q : L a with
        | none => rfl
        | some m => rw [updL_ne (ne_led q hc), q] at ha; cases ha
      · cases q : L b with
        | none => rfl
        | some m => rw [updL_ne (ne_led q hc), q] at hb; cases hb
      · have ec : e ≠ c := fun z => h2 (z ▸ hc)
        rw [ek e h1 (by rw [updL_ne ec]; exact h2), updL_ne ec]
theorem rd_Wall_init (G : Gx) : Reads 5 (sp_Wall_init G) (tb_Wall_init G) := by
  rintro ds L P R ⟨x, dx, d, s, rfl, hx, ps, hd, hl, hn, hg, hb⟩
  unfold tb_Wall_init
  simp! []
  cases ps with
  | nil =>
    rw [hd.tru]
    exact ⟨fun _ => hb rfl, fun z => (by cases z)⟩
  | cons p ps =>
  rw [hd.tru]
  refine ⟨fun z => (by cases z), fun _ => ?_⟩
  have hd0 : LsD d (ptD G p :: ps.map (ptD G)) L := hd
  simp! [↓hd0.ix, ptD]
  refine isC_dq (c_top ?_)
  simp! []
  have eS : ([DV.int (-1), .int 0, .int 1] : List DV) = ([-1, 0, 1] : List Int).map DV.int := rfl
  rw [eS, inA_t]
  have mS : s ∈ ([-1, 0, 1] : List Int) ↔ isSl s := by simp [isSl]
  have bad : ¬ (p.1 = 0 ∧ isSl s) → RS R G.BadValue L := fun z => hb (by show (if p.1 = 0 ∧ isSl s then _ else none) = none; rw [if_neg z])
  simp! [rq_zero, mS]
  refine ⟨fun z => bad fun q => z q.1, fun z => ⟨fun z2 => bad fun q => z2 q.2, fun z2 => ?_⟩⟩
  refine t2_Wall hl hd hx hn z z2 hg fun e => hb ?_
  show (if p.1 = 0 ∧ isSl s then _ else none) = none
  rw [e]
  split <;> rfl
def tb_law_pairs_7c2080d5 (G : Gx) : AS := (aRet (aLcN newS (iSeq (aVar 0)) (gT [1, 2]) aYes (aTup (aCons (aMake (mk2_Dyadic_init G) (aCons (aVar 1) (aCons (aC (.int 10)) aNil))) (aCons (aMake (mk2_Dyadic_init G) (aCons (aVar 2) (aCons (aC (.int 10)) aNil))) aNil))) [1, 2]))
theorem rd_law_pairs_7c2080d5 (G : Gx) : Reads 3 (sp_law_pairs_7c2080d5 G) (tb_law_pairs_7c2080d5 G) := by
  rintro ds L P R ⟨ps, d, rfl, hd, hl, hb, h⟩
  unfold tb_law_pairs_7c2080d5
  simp! []
  obtain ⟨stay, hst, he⟩ := hd.walk
  simp! [↓he]
  refine lc_map ps ptI (fun p => ptD G (q10 p)) (by rw [sizeLine_eq]; omega) (hst _ hd) (fun p hp K k => ?_) ?_
  · simp! [ptI]
    refine c_mk10 (hb p hp).1 ?_
    simp! []
    refine c_mk10 (hb p hp).2 ?_
    simp! []
    exact k
  exact h
def tb_law_is_integer_fcf59962 (G : Gx) : AS := (aRet (aAndV (aCB (bIsi G.k.K) (aCons (aVar 0) (aCons (aC (.ty "int")) aNil))) (aNotB (aCB (bIsi G.k.K) (aCons (aVar 0) (aCons (aC (.ty "bool")) aNil))))))
theorem rd_law_is_integer_fcf59962 (G : Gx) : Reads 1 (sp_law_is_integer_fcf59962 G) (tb_law_is_integer_fcf59962 G) := by
  intro ds L P R h
  unfold sp_law_is_integer_fcf59962 at h
  split at h
  · rename_i d
    cases d <;> try exact h.elim
    case non => exact ⟨false, kit_ty (by decide +kernel), ⟨nft, fun _ => h⟩⟩
    case bl b => exact ⟨true, kit_ty (by decide +kernel), ⟨fun _ => ⟨true, kit_ty (by decide +kernel), h⟩, ntf⟩⟩
    case int b => exact ⟨true, kit_ty (by decide +kernel), ⟨fun _ => ⟨false, kit_ty (by decide +kernel), h⟩, ntf⟩⟩
    case str b => exact ⟨false, kit_ty (by decide +kernel), ⟨nft, fun _ => h⟩⟩
    case lst b => exact ⟨false, kit_ty (by decide +kernel), ⟨nft, fun _ => h⟩⟩
    case tup b => exact ⟨false, kit_ty (by decide +kernel), ⟨nft, fun _ => h⟩⟩
    case ref a =>
      obtain ⟨⟨xs, e⟩, h⟩ := h
      exact .inr (.inl ⟨xs, e, false, kit_ty (by decide +kernel), ⟨nft, fun _ => h⟩⟩)
  · exact h.elim
def tb_law_plain_41305dcc (G : Gx) : AS := (aSeq (aFor (iRng rng1 (aCons (aVar 1) aNil)) (gN 2) (aIf (aTest (aBin oEq (aBin oMod (aCB bInt (aCons (aVar 0) aNil)) (aC (.int 2))) (aC (.int 0)))) (aSeq (aSet 0 (aBin oDiv (aVar 0) (aC (.int 2)))) (aSet 1 (aBin oSub (aVar 1) (aC (.int 1))))) aNext)) (aRet (aTup (aCons (aVar 0) (aCons (aVar 1) aNil)))))
theorem rd_law_plain_41305dcc (G : Gx) : Reads 3 (sp_law_plain_41305dcc G) (tb_law_plain_41305dcc G) := by
  rintro ds L P R ⟨t, p, rfl, hp, h⟩
  unfold tb_law_plain_41305dcc
  simp! []
  refine ⟨⟨by omega, by omega⟩, for_rng p _ (fun i ρ' L' => ∃ (t' : Int) (p' : Nat) (v : Option DV), ρ' = [some (.int t'), some (.int (p' : Nat)), v] ∧ L' = L ∧ red p' t' = red p t ∧ (p' + i = p ∨ t' % 2 ≠ 0)) ⟨t, p, none, rfl, rfl, rfl, .inl rfl⟩ (fun _ _ _ _ => trivial) ?_ ?_⟩
  · rintro i ρ' L' hi ⟨t', p', v, rfl, rfl, e, hs⟩
    simp! []
    refine ⟨fun z => ⟨⟨by decide, by decide⟩, t' / 2, p' - 1, some (.int ((i : Nat) : Int)), ?_, ?_, ?_⟩, fun z => ⟨t', p', _, rfl, e, .inr z⟩⟩
    all_goals have q : p' + i = p := hs.resolve_right (fun y => y z)
    · rw [show ((p' : Nat) : Int) - 1 = ((p' - 1 : Nat) : Int) by omega]
    · rw [← red_go (by omega) z]; exact e
    · exact .inl (by omega)
  · rintro ρ' L' ⟨t', p', v, rfl, rfl, e, hs⟩
    simp! []
    rw [← e, red_stop (by rcases hs with hs | hs; exact .inl (by omega); exact .inr hs)] at h
    exact h
def tb_law_is_d09be0d2 (G : Gx) : AS := (aSeq (aIf (aOr (aNot (aTru (aCB (bIsi G.k.K) (aCons (aVar 0) (aCons (aC (.ref G.Dyadic)) aNil))))) (aOr (aNot (aTru (aCall (sp_law_is_integer_fcf59962 G) [] (aCons (aProp G.Dyadic (sp_Dyadic_top G) (aVar 0)) aNil)))) (aNot (aTru (aCall (sp_law_is_integer_fcf59962 G) [] (aCons (aProp G.Dyadic (sp_Dyadic_power G) (aVar 0)) aNil)))))) (aRet (aC (.bl false))) aNext) (aRet (aBin oEq (aTup (aCons (aProp G.Dyadic (sp_Dyadic_top G) (aVar 0)) (aCons (aProp G.Dyadic (sp_Dyadic_power G) (aVar 0)) aNil))) (aCall (sp_law_plain_41305dcc G) [] (aCons (aVar 1) (aCons (aC (.int 10)) aNil))))))
open Classical in
theorem rd_law_is_d09be0d2 (G : Gx) : Reads 2 (sp_law_is_d09be0d2 G) (tb_law_is_d09be0d2 G) := by
  rintro ds L P R ⟨n, t, rfl, h⟩
  unfold tb_law_is_d09be0d2
  simp! [↓isi_dq]
  refine isC_dq (c_top ?_)
  simp! []
  refine isint_ok ?_
  simp! []
  refine isC_dq (c_pow ?_)
  simp! []
  refine isint_ok ?_
  simp! []
  refine isC_dq (c_top ?_)
  simp! []
  refine isC_dq (c_pow ?_)
  simp! []
  refine ⟨t, 10, rfl, by decide, ?_⟩
  simp! []
  refine eqA_dec (n := 1) (fun x hx => by simp at hx; rcases hx with rfl | rfl <;> trivial) (fun x hx => by simp at hx; rcases hx with rfl | rfl <;> trivial) ?_
  have e : (DV.tup [.int (red 40 n).1, .int ((red 40 n).2 : Nat)] = .tup [.int (red 10 t).1, .int ((red 10 t).2 : Nat)]) ↔ n = t * 2 ^ 30 := by
    rw [red_q (p := 10) (t := t) (by decide), ← rq_inj (a := n) (b := t * 2 ^ 30)]
    show _ ↔ (red 40 n).1 = (red 40 (t * 2 ^ (40 - 10))).1 ∧ (red 40 n).2 = (red 40 (t * 2 ^ (40 - 10))).2
    simp
    intro _
    omega
  rw [decide_eq_decide.mpr e]
  simp! []
  exact h
def tb_law_place_8b093576 (G : Gx) : AS := (aRet (aCB bMaxL (aCons (aLcN newD (iRng rng1 (aCons (aCB bLen (aCons (aBin oIx (aVar 0) (aC (.int 0))) aNil)) aNil)) (gN 2) (aTest (aBin oLe (aBin oIx (aBin oIx (aBin oIx (aVar 0) (aC (.int 0))) (aVar 2)) (aC (.int 0))) (aVar 1))) (aVar 2) [2]) aNil)))
theorem rd_law_place_8b093576 (G : Gx) : Reads 3 (sp_law_place_8b093576 G) (tb_law_place_8b093576 G) := by
  rintro ds L P R ⟨ps, ss, h, k, c, rfl, hl, few, e1, e2, e3, hp⟩
  unfold tb_law_place_8b093576
  simp! [↓line_0]
  refine ⟨⟨by omega, by omega⟩, lc_filt (List.range ps.length) _ (fun k => decide (∃ p, ps[k]? = some p ∧ p.1 ≤ h)) (fun k => .int ((k : Nat) : Int)) (by rw [List.length_range, sizeLine_eq]; omega) trivial (fun j hj K1 K0 k1 k0 => ?_) ?_⟩
  · have hj := List.mem_range.mp hj
    obtain ⟨p, hp⟩ : ∃ p, ps[j]? = some p := ⟨_, List.getElem?_eq_getElem hj⟩
    have xp : ∀ {L : Led} {P : PD} {lk : Lk P}, ixA (ps.map ptI) ((j : Nat) : Int) L P lk = P (.tup [.int p.1, .int p.2]) L := ixA_map hp
    simp! [↓line_0, ↓xp]
    exact ⟨fun z => k1 (decide_eq_true ⟨p, hp, z⟩), fun z => k0 (decide_eq_false fun ⟨q, hq, hz⟩ => by rw [hp] at hq; cases hq; exact z hz)⟩
  simp! []
  obtain ⟨a1, _⟩ := List.getElem?_zip_eq_some.mp e1
  have hk := (List.getElem?_eq_some_iff.mp a1).1
  have mx := maxA_of (lk := Lk.mk) (L := L) (P := P) (ns := ((List.range ps.length).filter (fun k => decide (∃ p, ps[k]? = some p ∧ p.1 ≤ h))).map fun n => ((n : Nat) : Int)) (m := ((k : Nat) : Int)) (List.mem_map_of_mem (List.mem_filter.mpr ⟨List.mem_range.mpr hk, decide_eq_true ⟨c.1, a1, e2⟩⟩)) (fun y hy => by
    obtain ⟨j, hj, rfl⟩ := List.mem_map.mp hy
    obtain ⟨j1, j2⟩ := List.mem_filter.mp hj
    obtain ⟨p, hp1, hp2⟩ := of_decide_eq_true j2
    have hjl := List.mem_range.mp j1
    obtain ⟨s, hs⟩ : ∃ s, ss[j]? = some s := ⟨_, List.getElem?_eq_getElem (by omega)⟩
    have := e3 j (p, s) (List.getElem?_zip_eq_some.mpr ⟨hp1, hs⟩) hp2
    omega) hp
  rw [List.map_map] at mx
  exact mx
def tb_law_at_ade38b70 (G : Gx) : AS := (aSeq (aSet 2 (aCall (sp_law_place_8b093576 G) [] (aCons (aVar 0) (aCons (aVar 1) aNil)))) (aRet (aBin (oAddN newS) (aBin oIx (aBin oIx (aBin oIx (aVar 0) (aC (.int 0))) (aVar 2)) (aC (.int 1))) (aBin (oMulT newD) (aBin oIx (aBin oIx (aVar 0) (aC (.int 1))) (aVar 2)) (aBin oSub (aVar 1) (aBin oIx (aBin oIx (aBin oIx (aVar 0) (aC (.int 0))) (aVar 2)) (aC (.int 0))))))))
theorem rd_law_at_ade38b70 (G : Gx) : Reads 3 (sp_law_at_ade38b70 G) (tb_law_at_ade38b70 G) := by
  rintro ds L P R ⟨ps, ss, h, c, rfl, hl, few, ⟨k, e1, e2, e3⟩, hs, hp⟩
  unfold tb_law_at_ade38b70
  obtain ⟨a1, a2⟩ := List.getElem?_zip_eq_some.mp e1
  have xp : ∀ {L : Led} {P : PD} {lk : Lk P}, ixA (ps.map ptI) ((k : Nat) : Int) L P lk = P (.tup [.int c.1.1, .int c.1.2]) L := ixA_map a1
  simp! []
  refine ⟨ps, ss, h, k, c, rfl, hl, few, e1, e2, e3, ?_⟩
  simp! [↓line_0, ↓line_1, ↓xp, ↓ixA_map a2]
  refine ⟨mulL ?_, hp⟩
  rcases hs with z | z | z <;> omega
def tb_Wall_place (G : Gx) : AS := (aSeq (aIf (aTest (aBin oLt (aProp G.Dyadic (sp_Dyadic_top G) (aVar 1)) (aC (.int 0)))) (aRaise G.BadValue) aNext) (aSeq (aSet 2 (aC (.int 0))) (aSeq (aFor (iEnB (aCons (aFld "_points" 0 (aVar 0)) aNil)) (gT [3, 4]) (aIf (aNot (aTru (aMeth G.Dyadic (sp_Dyadic_less G) [] (aVar 1) (aCons (aBin oIx (aVar 4) (aC (.int 0))) aNil)))) (aSet 2 (aVar 3)) aNext)) (aRet (aVar 2)))))
theorem rd_Wall_place (G : Gx) : Reads 5 (sp_Wall_place G) (tb_Wall_place G) := by
  rintro ds L P R ⟨w, h, rfl, ow, oh, hb, hg⟩
  unfold tb_Wall_place
  simp! []
  refine isC_dq (c_top ?_)
  simp! [rq_neg]
  refine ⟨hb, fun hh => ?_⟩
  obtain ⟨k, c, e1, e2, e3, hp⟩ := hg (by omega)
  simp! [↓fldW_0]
  refine for_enu w _ (fun i ρ' L' => L' = L ∧ ∃ (m : Nat) (v3 v4 : Option DV), ρ' = [some (wallD G w), some (dq G h), some (.int (m : Nat)), v3, v4] ∧ (k < i → m = k)) ⟨rfl, 0, _, _, rfl, fun z => absurd z (Nat.not_lt_zero k)⟩ (fun _ _ _ _ => trivial) ?_ ?_
  · rintro i x ρ' L' hx ⟨rfl, m, v3, v4, rfl, hm⟩
    have ep : ptD G x.1 = .tup [dq G x.1.1, dq G x.1.2] := rfl
    rw [ep]
    simp! []
    refine isC_dq (c_less oh (ow.ok x (List.mem_of_getElem? hx)).1 ?_)
    simp! []
    refine ⟨fun z => ⟨i, _, _, rfl, fun q => ?_⟩, fun z => ⟨m, _, _, rfl, fun q => ?_⟩⟩
    · have := e3 i x hx (by omega)
      omega
    · by_cases e : k = i
      · subst e; rw [e1] at hx; cases hx; omega
      · exact hm (by omega)
  · rintro ρ' L' ⟨rfl, m, v3, v4, rfl, hm⟩
    have hl := (List.getElem?_eq_some_iff.mp e1).1
    rw [hm hl]
    simp! []
    exact hp
def tb_Wall_at (G : Gx) : AS := (aSeq (aSet 2 (aMeth G.Wall (sp_Wall_place G) [] (aVar 0) (aCons (aVar 1) aNil))) (aSeq (aSet 3 (aBin oIx (aFld "_points" 0 (aVar 0)) (aVar 2))) (aRet (aOpM G.Dyadic (sp_Dyadic_add G) (aBin oIx (aVar 3) (aC (.int 1))) (aCall (sp_times G) [] (aCons (aOpM G.Dyadic (sp_Dyadic_sub G) (aVar 1) (aBin oIx (aVar 3) (aC (.int 0)))) (aCons (aBin oIx (aFld "_slopes" 1 (aVar 0)) (aVar 2)) aNil)))))))
theorem rd_Wall_at (G : Gx) : Reads 4 (sp_Wall_at G) (tb_Wall_at G) := by
  rintro ds L P R ⟨w, h, rfl, ow, oh, hb, hg⟩
  unfold tb_Wall_at
  simp! []
  refine isC_wall ⟨w, h, rfl, ow, oh, hb, fun h0 => ?_⟩
  obtain ⟨c, ⟨⟨k, e1, e2, e3⟩, o1, o2⟩, hp⟩ := hg h0
  refine ⟨k, c, e1, e2, e3, ?_⟩
  simp! [↓fldW_0, ↓ixA_map e1]
  have ep : ptD G c.1 = .tup [dq G c.1.1, dq G c.1.2] := rfl
  rw [ep]
  simp! []
  refine isC_dq ?_
  simp! []
  refine isC_dq (c_sub oh (ow.ok c (List.mem_of_getElem? e1)).1 o1 ?_)
  simp! [↓fldW_1, ↓ixA_map e1]
  refine ⟨h - c.1.1, c.2, rfl, o1, (ow.ok c (List.mem_of_getElem? e1)).2.2, ?_⟩
  simp! []
  have oc := ow.ok c (List.mem_of_getElem? e1)
  exact isC_dq (isC_dq (c_add oc.2.1 (okq_sl o1 oc.2.2) o2 hp))
def tb_Wall_slope_at (G : Gx) : AS := (aRet (aBin oIx (aFld "_slopes" 1 (aVar 0)) (aMeth G.Wall (sp_Wall_place G) [] (aVar 0) (aCons (aVar 1) aNil))))
theorem rd_Wall_slope_at (G : Gx) : Reads 2 (sp_Wall_slope_at G) (tb_Wall_slope_at G) := by
  rintro ds L P R ⟨w, h, rfl, ow, oh, hb, hg⟩
  unfold tb_Wall_slope_at
  simp! [↓fldW_1]
  refine isC_wall ⟨w, h, rfl, ow, oh, hb, fun h0 => ?_⟩
  obtain ⟨c, ⟨k, e1, e2, e3⟩, hp⟩ := hg h0
  refine ⟨k, c, e1, e2, e3, ?_⟩
  simp! [↓ixA_map e1]
  exact hp
def tb_law_cut_7d8ca634 (G : Gx) : AS := (aSeq (aSet 3 (aBin (oAddN newD) (aLcN newD (iSeq (aBin oIx (aVar 0) (aC (.int 0)))) (gN 2) (aTest (aBin oLt (aBin oIx (aVar 2) (aC (.int 0))) (aVar 1))) (aVar 2) [2]) (aLstN newD (aCons (aTup (aCons (aVar 1) (aCons (aCall (sp_law_at_ade38b70 G) [] (aCons (aVar 0) (aCons (aVar 1) aNil))) aNil))) aNil)))) (aRet (aTup (aCons (aVar 3) (aCons (aBin (oAddN newD) (aSlN newD (aBin oIx (aVar 0) (aC (.int 1))) aNoPart (aPart (aBin oSub (aCB bLen (aCons (aVar 3) aNil)) (aC (.int 1))))) (aLstN newD (aCons (aC (.int 0)) aNil))) aNil)))))
theorem rd_law_cut_7d8ca634 (G : Gx) : Reads 4 (sp_law_cut_7d8ca634 G) (tb_law_cut_7d8ca634 G) := by
  rintro ds L P R ⟨ps, ss, h, c, rfl, hl, few, hc, hs, hp⟩
  unfold tb_law_cut_7d8ca634
  simp! [↓line_0]
  refine lc_filt ps ptI (fun p => decide (p.1 < h)) ptI (by rw [sizeLine_eq]; omega) trivial (fun p hp K1 K0 k1 k0 => ?_) ?_
  · have ep : ptI p = .tup [.int p.1, .int p.2] := rfl
    rw [ep] at k1 ⊢
    simp! []
    exact ⟨fun z => k1 (decide_eq_true z), fun z => k0 (decide_eq_false z)⟩
  simp! []
  refine ⟨ps, ss, h, c, rfl, hl, few, hc, hs, ?_⟩
  simp! [↓line_1]
  have hf := List.length_filter_le (fun p : Pt => decide (p.1 < h)) ps
  have hp' := hp
  unfold cutL cutS lineD at hp'
  rw [List.map_append, List.map_append] at hp'
  generalize hm : (ps.filter fun p => decide (p.1 < h)).length = m at *
  rw [show (((m + 1 : Nat) : Int) - 1) = ((m : Nat) : Int) by omega]
  simp! []
  refine ⟨by rw [sizeLine_eq]; omega, ?_, hp'⟩
  rw [List.length_take, sizeLine_eq]; omega
def tb_Wall_cut (G : Gx) : AS := (aSeq (aSet 2 (aMeth G.Wall (sp_Wall_at G) [] (aVar 0) (aCons (aVar 1) aNil))) (aSeq (aSet 4 (aLcN newD (iSeq (aFld "_points" 0 (aVar 0))) (gN 3) (aTru (aMeth G.Dyadic (sp_Dyadic_less G) [] (aBin oIx (aVar 3) (aC (.int 0))) (aCons (aVar 1) aNil))) (aVar 3) [3])) (aRet (aMake (mk2_Wall_init G) (aCons (aBin (oAddN newD) (aVar 4) (aLstN newD (aCons (aTup (aCons (aVar 1) (aCons (aVar 2) aNil))) aNil))) (aCons (aC (.int 0)) aNil))))))
theorem rd_Wall_cut (G : Gx) : Reads 5 (sp_Wall_cut G) (tb_Wall_cut G) := by
  rintro ds L P R ⟨w, h, rfl, ow, oh, hb, hg⟩
  unfold tb_Wall_cut
  simp! []
  refine isC_wall ⟨w, h, rfl, ow, oh, hb, fun h0 => ?_⟩
  obtain ⟨c, w', a, hn, hw, hp⟩ := hg h0
  refine ⟨c, a, ?_⟩
  simp! [↓fldW_0]
  refine lc_filt w (fun p => ptD G p.1) (fun x => decide (x.1.1 < h)) (fun p => ptD G p.1) (by have := ow.few; rw [sizeLine_eq]; omega) trivial (fun x hx K1 K0 k1 k0 => ?_) ?_
  · have ep : ptD G x.1 = .tup [dq G x.1.1, dq G x.1.2] := rfl
    rw [ep] at k1 ⊢
    simp! []
    refine isC_dq (c_less (ow.ok x hx).1 oh ?_)
    simp! []
    exact ⟨fun z => k1 (decide_eq_true z), fun z => k0 (decide_eq_false z)⟩
  simp! []
  have hf := List.length_filter_le (fun x : Wp => decide (x.1.1 < h)) w
  have few := ow.few
  refine ⟨by rw [sizeLine_eq]; omega, _, _, rfl, cutP w h c, .inl ?_, ?_, hn, fun v hv => (by rw [hw] at hv; cases hv; exact hp), fun hv => (by rw [hw] at hv; cases hv)⟩
  · unfold cutP
    rw [List.map_append, List.map_map]; rfl
  · unfold cutP
    rw [List.length_append, List.length_map, List.length_singleton]
    omega
def tb_Wall_slope (G : Gx) : AS := (aRet (aBin oIx (aFld "_slopes" 1 (aVar 0)) (aNeg (aC (.int 1)))))
theorem rd_Wall_slope (G : Gx) : Reads 1 (sp_Wall_slope G) (tb_Wall_slope G) := by
  rintro ds L P R ⟨w, p, rfl, hp, h⟩
  unfold tb_Wall_slope
  simp! [wallD]
  rw [ixLastD (d := .int p.2) (by rw [List.getLast?_map, hp]; rfl)]
  exact h
def tb_Wall_points (G : Gx) : AS := (aRet (aCB (bListN newS) (aCons (aFld "_points" 0 (aVar 0)) aNil)))
theorem rd_Wall_points (G : Gx) : Reads 1 (sp_Wall_points G) (tb_Wall_points G) := by
  rintro ds L P R ⟨w, rfl, h⟩
  unfold tb_Wall_points
  simp! [wallD]
  exact h
def tb_law_told_74f31f6a (G : Gx) : AS := (aSeq (aSet 3 (aLcN newD (iRng rng1 (aCons (aCB bLen (aCons (aBin oIx (aVar 1) (aC (.int 1))) aNil)) aNil)) (gN 2) (aOr (aTest (aBin oEq (aVar 2) (aC (.int 0)))) (aTest (aBin oNe (aBin oIx (aBin oIx (aVar 1) (aC (.int 1))) (aVar 2)) (aBin oIx (aBin oIx (aVar 1) (aC (.int 1))) (aBin oSub (aVar 2) (aC (.int 1))))))) (aVar 2) [2])) (aSeq (aIf (aOr (aNot (aTru (aCB (bIsi G.k.K) (aCons (aVar 0) (aCons (aC (.ref G.Wall)) aNil))))) (aOr (aNot (aTru (aCall (sp_law_is_integer_fcf59962 G) [] (aCons (aProp G.Wall (sp_Wall_slope G) (aVar 0)) aNil)))) (aTest (aBin oNe (aProp G.Wall (sp_Wall_slope G) (aVar 0)) (aBin oIx (aBin oIx (aVar 1) (aC (.int 1))) (aNeg (aC (.int 1)))))))) (aRet (aC (.bl false))) aNext) (aSeq (aSet 4 (aMeth G.Wall (sp_Wall_points G) [] (aVar 0) aNil)) (aSeq (aIf (aOr (aNot (aTru (aCB (bIsi G.k.K) (aCons (aVar 4) (aCons (aC (.ty "list")) aNil))))) (aTest (aBin oNe (aCB bLen (aCons (aVar 4) aNil)) (aCB bLen (aCons (aVar 3) aNil))))) (aRet (aC (.bl false))) aNext) (aSeq (aFor (iRng rng1 (aCons (aCB bLen (aCons (aVar 3) aNil)) aNil)) (gN 5) (aSeq (aSet 6 (aBin oIx (aVar 4) (aVar 5))) (aSeq (aSet 7 (aBin oIx (aBin oIx (aVar 1) (aC (.int 0))) (aBin oIx (aVar 3) (aVar 5)))) (aSeq (aIf (aOr (aNot (aTru (aCB (bIsi G.k.K) (aCons (aVar 6) (aCons (aC (.ty "tuple")) aNil))))) (aTest (aBin oNe (aCB bLen (aCons (aVar 6) aNil)) (aC (.int 2))))) (aRet (aC (.bl false))) aNext) (aIf (aOr (aNot (aTru (aCall (sp_law_is_d09be0d2 G) [] (aCons (aBin oIx (aVar 6) (aC (.int 0))) (aCons (aBin oIx (aVar 7) (aC (.int 0))) aNil))))) (aNot (aTru (aCall (sp_law_is_d09be0d2 G) [] (aCons (aBin oIx (aVar 6) (aC (.int 1))) (aCons (aBin oIx (aVar 7) (aC (.int 1))) aNil)))))) (aRet (aC (.bl false))) aNext))))) (aSeq (aDrop (aLm mAppend (aVar 4) (aCons (aBin oIx (aVar 4) (aC (.int 0))) aNil))) (aSeq (aDrop (aLm mReverse (aVar 4) aNil)) (aRet (aFrz G.k (aC (.bl true)))))))))))
theorem rd_law_told_74f31f6a (G : Gx) : Reads 8 (sp_law_told_74f31f6a G) (tb_law_told_74f31f6a G) := by
  rintro ds L P R ⟨ps, ss, d1, d2, rfl, h1, h2, hl, ne, few, h⟩
  unfold tb_law_told_74f31f6a
  simp! [↓h2.len]
  refine ⟨⟨by omega, by omega⟩, ?_⟩
  generalize hl0 : (ps.map q10).zip ss = l
  have ll : l.length = ss.length := by rw [← hl0]; simp [hl]
  have lg : ∀ k, k < ss.length → ∃ p s, ps[k]? = some p ∧ ss[k]? = some s ∧ l[k]? = some (q10 p, s) := fun k hk => by
    obtain ⟨p, hp⟩ : ∃ p, ps[k]? = some p := ⟨_, List.getElem?_eq_getElem (by omega)⟩
    obtain ⟨s, hs⟩ : ∃ s, ss[k]? = some s := ⟨_, List.getElem?_eq_getElem hk⟩
    refine ⟨p, s, hp, hs, ?_⟩
    rw [← hl0]
    exact List.getElem?_zip_eq_some.mpr ⟨by rw [List.getElem?_map, hp]; rfl, hs⟩
  refine lc_filt (List.range ss.length) _ (kepP l) (fun k => .int ((k : Nat) : Int)) (by rw [List.length_range, sizeLine_eq]; omega) trivial (fun k hk K1 K0 k1 k0 => ?_) ?_
  · have hk := List.mem_range.mp hk
    simp! []
    refine ⟨fun z => k1 (by unfold kepP; exact decide_eq_true (.inl (by omega))), fun z => ?_⟩
    obtain ⟨_, s, _, e1, e2⟩ := lg k hk
    obtain ⟨_, s', _, e3, e4⟩ := lg (k - 1) (by omega)
    have ek : ((k : Nat) : Int) - 1 = ((k - 1 : Nat) : Int) := by omega
    have kp : kepP l k = decide (s ≠ s') := by
      unfold kepP
      rw [decide_eq_decide, e2, e4]
      simp
      omega
    rw [ek, h2.ix, ixA_map e1, h2.ix, ixA_map e3]
    simp! []
    rw [kp] at k1 k0
    exact ⟨fun z => k1 (by simpa using z), fun z => k0 (by simpa using z)⟩
  simp! [↓isi_wall]
  obtain ⟨y, hy⟩ : ∃ y, l.getLast? = some y := by
    cases l with
    | nil => exact absurd (List.length_eq_zero_iff.mp ll.symm) ne
    | cons a r => exact ⟨_, List.getLast?_eq_some_getLast (by simp)⟩
  obtain ⟨z, hz, ez⟩ := thin_last hy
  have sy : ss.getLast? = some y.2 := by
    rw [List.getLast?_eq_getElem?] at hy ⊢
    rw [ll] at hy
    obtain ⟨p, s, _, e1, e2⟩ := lg (ss.length - 1) (by have := List.length_pos_iff.mpr ne; omega)
    rw [e2] at hy; cases hy
    exact e1
  have ew : wallL ps ss = thinQ l := by unfold wallL; rw [hl0]
  have sl : ∀ {L : Led} {P : PD} {R : Addr → Led → Prop} {l1 : Lk P} {l2 : Lk R}, P (.int z.2) L → callA (sp_Wall_slope G) [wallD G (wallL ps ss)] L P R l1 l2 := fun h => ⟨_, z, rfl, by rw [ew]; exact hz, h⟩
  refine isC_wall (sl ?_)
  simp! []
  refine isint_ok ?_
  simp! []
  refine isC_wall (sl ?_)
  simp! [↓h2.ix]
  rw [ixLastD (d := .int y.2) (by rw [List.getLast?_map, sy]; rfl)]
  simp! [ez]
  refine isC_wall ⟨_, rfl, .inl fun a ha => ?_⟩
  have ea : updL L a (.lst ((wallL ps ss).map fun p => ptD G p.1)) a = some (.lst ((wallL ps ss).map fun p => ptD G p.1)) := updL_same
  have wl := thin_len l
  rw [ll] at wl
  rw [ew] at ea ⊢
  simp! [↓isi_r_list ea, ↓withL_of ea, ↓withSq_of ea, ↓seqI_of ea, ↓lmR_of ea, ↓lmB_of ea, ↓enuA_of ea, ↓isi_r_list ea, wl]
  refine ⟨⟨by have := thinQ_len l; omega, by have := thinQ_len l; omega⟩, for_rng (thinQ l).length _ (fun i ρ' L' => ∃ v5 v6 v7 : Option DV, ρ' = [some (wallD G (thinQ l)), some (.tup [d1, d2]), none, some (.lst (((List.range ss.length).filter (kepP l)).map fun k => .int ((k : Nat) : Int))), some (.ref a), v5, v6, v7] ∧ L' = updL L a (.lst ((thinQ l).map fun p => ptD G p.1))) ⟨_, _, _, rfl, rfl⟩ (fun _ _ _ _ => trivial) ?_ ?_⟩
  · rintro i ρ' L' hi ⟨v5, v6, v7, rfl, rfl⟩
    obtain ⟨k, hk⟩ : ∃ k, ((List.range ss.length).filter (kepP l))[i]? = some k := ⟨_, List.getElem?_eq_getElem (by rw [wl]; exact hi)⟩
    have hkl : k < ss.length := List.mem_range.mp (List.mem_filter.mp (List.mem_of_getElem? hk)).1
    obtain ⟨p, s, ep, es, el⟩ := lg k hkl
    have tl : (thinQ l)[i]? = some (q10 p, s) := by rw [← el]; exact thin_at (by rw [ll]; exact hk)
    have hd1 := h1.sub (Sub.new ha (m := .lst ((thinQ l).map fun p => ptD G p.1)))
    simp! [↓isi_r_list ea, ↓withL_of ea, ↓withSq_of ea, ↓seqI_of ea, ↓lmR_of ea, ↓lmB_of ea, ↓enuA_of ea, ↓ixA_map tl, ↓ixA_map hk, ↓hd1.ix, ↓ixA_map ep]
    have e0 : ptD G (q10 p) = .tup [dq G (p.1 * 2 ^ 30), dq G (p.2 * 2 ^ 30)] := rfl
    have e1 : ptI p = .tup [.int p.1, .int p.2] := rfl
    rw [e0, e1]
    simp! [↓isi_tup_tuple]
    refine ⟨fun z => absurd rfl z, fun _ => is_ok10 (t := p.1) ?_⟩
    simp! []
    refine is_ok10 (t := p.2) ?_
    simp! []
    exact ⟨_, _, _, rfl⟩
  · rintro ρ' L' ⟨v5, v6, v7, rfl, rfl⟩
    obtain ⟨q, hq⟩ : ∃ q, (thinQ l)[0]? = some q := by
      cases h : thinQ l with
      | nil => rw [h] at hz; cases hz
      | cons q r => exact ⟨q, rfl⟩
    have x0 : ∀ {L : Led} {P : PD} {lk : Lk P}, ixA ((thinQ l).map fun p => ptD G p.1) 0 L P lk = P (ptD G q.1) L := ixA_map hq
    simp! [↓isi_r_list ea, ↓withL_of ea, ↓withSq_of ea, ↓seqI_of ea, ↓lmR_of ea, ↓lmB_of ea, ↓enuA_of ea, ↓x0]
    have tl := thinQ_len l
    refine ⟨by rw [sizeLine_eq]; omega, ?_⟩
    exact frz_sub (Sub.new ha) h
def tb_law_asked_55bd0f0b_5 (G : Gx) : AS := (aSeq (aSet 4 (aCall (sp_law_cut_7d8ca634 G) [] (aCons (aVar 1) (aCons (aVar 2) aNil)))) (aSeq (aSet 5 (aMeth G.Wall (sp_Wall_cut G) [] (aVar 0) (aCons (aMake (mk2_Dyadic_init G) (aCons (aVar 2) (aCons (aC (.int 10)) aNil))) aNil))) (aSeq (aSet 6 (aBin (oAddN newD) (aBin (oAddN newD) (aVar 2) (aC (.int 1))) (aBin oDiv (aVar 2) (aC (.int 3))))) (aSeq (aIf (aOr (aNot (aTru (aCall (sp_law_told_74f31f6a G) [] (aCons (aVar 5) (aCons (aVar 4) aNil))))) (aNot (aTru (aCall (sp_law_is_d09be0d2 G) [] (aCons (aMeth G.Wall (sp_Wall_at G) [] (aVar 5) (aCons (aMake (mk2_Dyadic_init G) (aCons (aVar 6) (aCons (aC (.int 10)) aNil))) aNil)) (aCons (aBin oIx (aBin oIx (aBin oIx (aVar 4) (aC (.int 0))) (aNeg (aC (.int 1)))) (aC (.int 1))) aNil)))))) (aRet (aC (.bl false))) aNext) (aRet (aCall (sp_law_told_74f31f6a G) [] (aCons (aVar 0) (aCons (aVar 1) aNil))))))))
def tb_law_asked_55bd0f0b (G : Gx) : AS := (aSeq (aIf (aNot (aTru (aCall (sp_law_is_d09be0d2 G) [] (aCons (aMeth G.Wall (sp_Wall_at G) [] (aVar 0) (aCons (aMake (mk2_Dyadic_init G) (aCons (aVar 2) (aCons (aC (.int 10)) aNil))) aNil)) (aCons (aCall (sp_law_at_ade38b70 G) [] (aCons (aVar 1) (aCons (aVar 2) aNil))) aNil))))) (aRet (aC (.bl false))) aNext) (aSeq (aSet 3 (aMeth G.Wall (sp_Wall_slope_at G) [] (aVar 0) (aCons (aMake (mk2_Dyadic_init G) (aCons (aVar 2) (aCons (aC (.int 10)) aNil))) aNil))) (aSeq (aIf (aOr (aNot (aTru (aCall (sp_law_is_integer_fcf59962 G) [] (aCons (aVar 3) aNil)))) (aTest (aBin oNe (aVar 3) (aBin oIx (aBin oIx (aVar 1) (aC (.int 1))) (aCall (sp_law_place_8b093576 G) [] (aCons (aVar 1) (aCons (aVar 2) aNil))))))) (aRet (aC (.bl false))) aNext) (tb_law_asked_55bd0f0b_5 G))))
theorem t5_asked {G : Gx} {L : Led} {P : PD} {R : Addr → Led → Prop} {ps : List Pt} {ss : List Int} {h : Int} {c c' : Wp} {v : Option DV} (o : LineOk ps ss) (h0 : 0 ≤ h) (h1 : h ≤ 2 * 10 ^ 9) (hc : IsAt (ps.zip ss) h c) (hm : c ∈ ps.zip ss) (ha : AtOk (wallR (ps.zip ss)) (h * 2 ^ 30) c') (ev : valQ c' (h * 2 ^ 30) = valQ c h * 2 ^ 30) (hp : P (.bl true) L) :
    tb_law_asked_55bd0f0b_5 G ⟨fun _ L => P .non L, P, fun _ _ => False, fun _ _ => False, fun c _ L => R c L⟩ [some (wallD G (wallR (ps.zip ss))), some (lineD ps ss), some (.int h), v, none, none, none] L := by
  unfold tb_law_asked_55bd0f0b_5
  have ol := o.len
  have of := o.few
  have r := o.raw
  have lw : (ps.zip ss).length ≤ 13 := by rw [List.length_zip]; omega
  have ow := r.wall (by decide)
  have m := r.mem c hm
  have oh : okq (h * 2 ^ 30) := okq30 (by omega)
  have hh : 0 ≤ h * 2 ^ 30 := by omega
  obtain ⟨n1, n2⟩ := r.cutted (H' := 3 * 10 ^ 9) (by omega) h0 hc (by omega) (by decide) (by decide) ev
  have rc := r.cut (H' := 3 * 10 ^ 9) (by omega) h0 hc hm (by omega) (by decide)
  obtain ⟨cz, cl⟩ := cut_zip ol r.con h (valQ c h)
  have cz : (cutL ps h (valQ c h)).zip (cutS ps ss h) = cutW (ps.zip ss) h (valQ c h) := cz
  simp! []
  refine ⟨ps, ss, h, c, rfl, ol, by omega, hc, m.1, ?_⟩
  simp! []
  refine isC_wall (c_mk10 (by omega) ?_)
  simp! []
  refine ⟨wallR (ps.zip ss), h * 2 ^ 30, rfl, ow, oh, fun z => by omega, fun _ => ⟨c', _, ha, n1, n2, ?_⟩⟩
  simp! []
  have e0 : wallR (cutW (ps.zip ss) h (valQ c h)) = wallL (cutL ps h (valQ c h)) (cutS ps ss h) := by rw [wallL_R, cz]
  have ls : (cutS ps ss h).length ≤ 1000 := by unfold cutS; rw [List.length_append, List.length_take]; simp; omega
  refine ⟨⟨by decide, by decide⟩, told_line e0 cl (by unfold cutS; simp) ls ?_⟩
  simp! []
  generalize hlt : h + 1 + h / 3 = lt
  have b1 : h ≤ lt ∧ lt ≤ 3 * 10 ^ 9 := by omega
  have hc2 : IsAt (cutW (ps.zip ss) h (valQ c h)) lt ((h, valQ c h), 0) := IsAt.end_ b1.1
  obtain ⟨d, da, dv, _⟩ := rc.at_ (by decide) hc2 (by unfold cutW; simp) (by omega)
  refine isC_wall (c_mk10 (by omega) ?_)
  simp! []
  refine at_ok (rc.wall (by decide)) (okq30 (by omega)) (by omega) da ?_
  have e1 : valQ ((h, valQ c h), 0) lt = valQ c h := by
    show valQ c h + 0 * (lt - h) = _
    rw [Int.zero_mul, Int.add_zero]
  rw [dv, e1]
  have xl : ∀ {L : Led} {P : PD} {lk : Lk P}, ixA ((cutL ps h (valQ c h)).map ptI) (-1) L P lk = P (.tup [.int h, .int (valQ c h)]) L := ixLastD (by unfold cutL; rw [List.map_append]; simp [ptI])
  simp! [↓line_0, ↓xl]
  refine is_ok10 ?_
  simp! []
  exact told_line (wallL_R ps ss).symm ol o.ne (by omega) hp
theorem rd_law_asked_55bd0f0b (G : Gx) : Reads 7 (sp_law_asked_55bd0f0b G) (tb_law_asked_55bd0f0b G) := by
  rintro ds L P R ⟨ps, ss, h, rfl, o, h0, h1, hp⟩
  unfold tb_law_asked_55bd0f0b
  have ol := o.len
  have of := o.few
  have r := o.raw
  have lw : (ps.zip ss).length ≤ 13 := by rw [List.length_zip]; omega
  have ow := r.wall (by decide)
  obtain ⟨c, hc, hm⟩ := r.isAt h0
  have m := r.mem c hm
  obtain ⟨c', ha, ev, es⟩ := r.at_ (by decide) hc hm (by omega)
  have oh : okq (h * 2 ^ 30) := okq30 (by omega)
  have hh : 0 ≤ h * 2 ^ 30 := by omega
  rw [wallL_R] at *
  simp! []
  refine isC_wall (c_mk10 (by omega) ?_)
  simp! []
  refine at_ok ow oh hh ha ?_
  rw [ev]
  simp! []
  refine ⟨ps, ss, h, c, rfl, ol, by omega, hc, m.1, ?_⟩
  simp! []
  refine is_ok10 ?_
  simp! []
  refine isC_wall (c_mk10 (by omega) ?_)
  simp! []
  refine slope_at_ok ow oh hh ha.at_ ?_
  rw [es]
  simp! []
  refine isint_ok ?_
  simp! [↓line_1]
  obtain ⟨k, e1, e2, e3⟩ := id hc
  obtain ⟨_, a2⟩ := List.getElem?_zip_eq_some.mp e1
  refine ⟨ps, ss, h, k, c, rfl, ol, by omega, e1, e2, e3, ?_⟩
  simp! [↓ixA_map a2]
  exact t5_asked o h0 h1 hc hm ha ev hp
def tb_Wall_tilted (G : Gx) : AS := (aSeq (aSet 4 (aLcN newD (iSeq (aFld "_points" 0 (aVar 0))) (gT [2, 3]) aYes (aTup (aCons (aVar 2) (aCons (aOpM G.Dyadic (sp_Dyadic_add G) (aVar 3) (aCall (sp_times G) [] (aCons (aVar 2) (aCons (aVar 1) aNil)))) aNil))) [2, 3])) (aRet (aMake (mk2_Wall_init G) (aCons (aVar 4) (aCons (aBin (oAddN newD) (aProp G.Wall (sp_Wall_slope G) (aVar 0)) (aVar 1)) aNil)))))
theorem rd_Wall_tilted (G : Gx) : Reads 5 (sp_Wall_tilted G) (tb_Wall_tilted G) := by
  rintro ds L P R ⟨w, t, z, rfl, ow, ht, hz, hn, hg, hb⟩
  unfold tb_Wall_tilted
  simp! [↓fldW_0]
  refine lc_map w (fun p => ptD G p.1) (fun x => ptD G (x.1.1, x.1.2 + t * x.1.1)) (by have := ow.few; rw [sizeLine_eq]; omega) trivial (fun x hx K k1 => ?_) ?_
  · have ep : ptD G x.1 = .tup [dq G x.1.1, dq G x.1.2] := rfl
    have ox := ow.ok x hx
    have on := hn.1 (x.1.1, x.1.2 + t * x.1.1) (List.mem_map.mpr ⟨x, hx, rfl⟩)
    rw [ep]
    simp! []
    refine ⟨x.1.1, t, rfl, ox.1, ht, ?_⟩
    refine isC_dq (isC_dq (c_add ox.2.1 (okq_sl ox.1 ht) on.2 ?_))
    simp! []
    exact k1
  simp! []
  refine isC_wall ⟨w, z, rfl, hz, ?_⟩
  simp! []
  exact ⟨_, _, rfl, tiltP w t, .inl (by unfold tiltP; rw [List.map_map]; rfl), by unfold tiltP; rw [List.length_map]; have := ow.few; omega, hn, hg, hb⟩
def tb_law_is_only_611d9904 (G : Gx) (c_ a_ : Addr) : AS := (aSeq (aSet 2 (aLstN newD (aCons (aCB (bIsE G.k.K c_ a_) (aCons (aVar 0) (aCons (aC (.ref G.BadText)) aNil))) (aCons (aCB (bIsE G.k.K c_ a_) (aCons (aVar 0) (aCons (aC (.ref G.BadValue)) aNil))) (aCons (aCB (bIsE G.k.K c_ a_) (aCons (aVar 0) (aCons (aC (.ref G.Unknown)) aNil))) (aCons (aCB (bIsE G.k.K c_ a_) (aCons (aVar 0) (aCons (aC (.ref G.NoMove)) aNil))) aNil)))))) (aRet (aAndV (aBin oEq (aVar 2) (aLcN newD (iRng rng1 (aCons (aC (.int 4)) aNil)) (gN 3) aYes (aBin oEq (aVar 3) (aVar 1)) [3])) (aAndV (aCB (bIsE G.k.K c_ a_) (aCons (aVar 0) (aCons (aC (.ref G.PlayError)) aNil))) (aCB (bIsE G.k.K c_ a_) (aCons (aVar 0) (aCons (aC (.ty "ValueError")) aNil)))))))
theorem rd_law_is_only_611d9904 (G : Gx) (er : ErrK G G.BadValue G.BadText G.Unknown G.NoMove) : ReadsX 4 (sp_law_is_only_611d9904 G) (tb_law_is_only_611d9904 G) := by
  rintro D a ds L P R ⟨rfl, rfl, h⟩
  unfold tb_law_is_only_611d9904
  simp! [↓isE_self, ↓isE_of er.na, ↓isE_of er.nb, ↓isE_of er.nc, ↓isE_ty er.ve]
  refine ⟨by decide, lc_map (List.range 4) _ (fun i => .bl (decide (((i : Nat) : Int) = 1))) (by rw [sizeLine_eq]; decide) trivial (fun i hi K k => ?_) ?_⟩
  · simp! []
    exact k
  simp! []
  refine eqA_same (n := 1) (fun x hx => by simp at hx; rcases hx with rfl | rfl | rfl | rfl <;> trivial) ?_
  simp! [↓isE_of er.pe, ↓isE_ty er.ve]
  exact h
def tb_law_refused_79b82729 (G : Gx) : AS := (aSeq (aTryA G.k.K (.ref G.PlayError) 3 (fun c_ a_ => (aRet (aCall (sp_law_is_only_611d9904 G c_ a_) [] (aCons (aVar 3) (aCons (aC (.int 1)) aNil))))) (aIf (aTest (aBin oEq (aVar 1) (aC (.int 0)))) (aDrop (aMeth G.Wall (sp_Wall_at G) [] (aVar 0) (aCons (aMake (mk2_Dyadic_init G) (aCons (aVar 2) (aCons (aC (.int 10)) aNil))) aNil))) (aIf (aTest (aBin oEq (aVar 1) (aC (.int 1)))) (aDrop (aMeth G.Wall (sp_Wall_slope_at G) [] (aVar 0) (aCons (aMake (mk2_Dyadic_init G) (aCons (aVar 2) (aCons (aC (.int 10)) aNil))) aNil))) (aIf (aTest (aBin oEq (aVar 1) (aC (.int 2)))) (aDrop (aMeth G.Wall (sp_Wall_cut G) [] (aVar 0) (aCons (aMake (mk2_Dyadic_init G) (aCons (aVar 2) (aCons (aC (.int 10)) aNil))) aNil))) (aDrop (aMeth G.Wall (sp_Wall_tilted G) [] (aVar 0) (aCons (aVar 2) aNil))))))) (aRet (aC (.bl false))))
theorem rd_law_refused_79b82729 (G : Gx) (er : ErrK G G.BadValue G.BadText G.Unknown G.NoMove) : Reads 4 (sp_law_refused_79b82729 G) (tb_law_refused_79b82729 G) := by
  rintro ds L P R ⟨w, k, h, rfl, ow, hr, hp⟩
  unfold tb_law_refused_79b82729
  simp! []
  rcases hr with ⟨hk, hn, hb⟩ | ⟨rfl, ht, z, hz, hnr, hw⟩
  · have oh : okq (h * 2 ^ 30) := okq30 (by omega)
    have hn' : h * 2 ^ 30 < 0 := by omega
    have : k = 0 ∨ k = 1 ∨ k = 2 := by omega
    rcases this with rfl | rfl | rfl
    all_goals
      simp! []
      refine isC_wall (c_mk10 (by omega) ?_)
      simp! []
      refine ⟨w, _, rfl, ow, oh, fun _ => RS.of ⟨true, er.cP, fun _ a => ?_, ntf⟩, fun z => absurd z (by omega)⟩
      simp! []
      exact ⟨rfl, rfl, hp⟩
  · simp! []
    refine isC_wall ⟨w, h, z, rfl, ow, ht, hz, hnr, fun v hv => (by rw [hw] at hv; cases hv), fun _ => RS.of ⟨true, er.cP, fun _ a => ?_, ntf⟩⟩
    simp! []
    exact ⟨rfl, rfl, hp⟩
def tb_law_tilted_ff5ba2ea (G : Gx) : AS := (aSeq (aSet 4 (aLcN newD (iSeq (aBin oIx (aVar 1) (aC (.int 1)))) (gN 3) aYes (aBin (oAddN newD) (aVar 3) (aVar 2)) [3])) (aSeq (aIf (aOr (aTest (aBin oLt (aCB bMinL (aCons (aVar 4) aNil)) (aNeg (aC (.int 1))))) (aTest (aBin oGt (aCB bMaxL (aCons (aVar 4) aNil)) (aC (.int 1))))) (aRet (aCall (sp_law_refused_79b82729 G) [] (aCons (aVar 0) (aCons (aC (.int 3)) (aCons (aVar 2) aNil))))) aNext) (aRet (aCall (sp_law_told_74f31f6a G) [] (aCons (aMeth G.Wall (sp_Wall_tilted G) [] (aVar 0) (aCons (aVar 2) aNil)) (aCons (aTup (aCons (aLcN newD (iSeq (aBin oIx (aVar 1) (aC (.int 0)))) (gT [5, 6]) aYes (aTup (aCons (aVar 5) (aCons (aBin (oAddN newD) (aVar 6) (aBin (oMulT newD) (aVar 2) (aVar 5))) aNil))) [5, 6]) (aCons (aVar 4) aNil))) aNil))))))
theorem rd_law_tilted_ff5ba2ea (G : Gx) : Reads 7 (sp_law_tilted_ff5ba2ea G) (tb_law_tilted_ff5ba2ea G) := by
  rintro ds L P R ⟨ps, ss, t, rfl, o, ht, hp⟩
  unfold tb_law_tilted_ff5ba2ea
  have ol := o.len
  have of := o.few
  have r := o.raw
  have ow := r.wall (by decide)
  simp! [↓line_1]
  refine lc_map ss DV.int (fun s => .int (s + t)) (by rw [sizeLine_eq]; omega) trivial (fun s hs K k1 => ?_) ?_
  · simp! []
    exact k1
  simp! []
  have em : ss.map (fun s => DV.int (s + t)) = (ss.map fun s => s + t).map DV.int := by rw [List.map_map]; rfl
  have pos : 0 < (ss.map fun s => s + t).length := by rw [List.length_map]; exact List.length_pos_iff.mpr o.ne
  obtain ⟨z, hz⟩ := last_of (xs := wallR (ps.zip ss)) (thin_ne (by simpa using o.ne'))
  have e0 := wallL_R ps ss
  have con := (thin_con _ r.con.sc).1
  -- a slope that is too steep
  have bad : ∀ m : Int, m ∈ ss.map (fun s => s + t) → ¬ isSl m → ∀ {L : Led} {R : Addr → Led → Prop} {l1 l2}, P (.bl true) L → callA (sp_law_refused_79b82729 G) [wallD G (wallL ps ss), .int 3, .int t] L P R l1 l2 := fun m hm hs L R l1 l2 hp => by
    obtain ⟨s, hs1, rfl⟩ := List.mem_map.mp hm
    obtain ⟨j, hj⟩ := List.mem_iff_getElem?.mp hs1
    have hl := (List.getElem?_eq_some_iff.mp hj).1
    have hp1 : ps[j]? = some (ps[j]'(by omega)) := List.getElem?_eq_getElem (by omega)
    have hx : (ps[j]'(by omega), s) ∈ ps.zip ss := List.mem_of_getElem? (List.getElem?_zip_eq_some.mpr ⟨hp1, hj⟩)
    obtain ⟨y, hy, ey⟩ := thin_sl (l := (ps.zip ss).map scW) (List.mem_map_of_mem (f := scW) hx)
    have ey : y.2 = s := ey
    have st := wall_steep (l := (wallR (ps.zip ss)).map (tilF t)) (x := tilF t z) (con.map (til_chg t).h (til_chg t).on) (by rw [List.getLast?_map, hz]; rfl) (y := tilF t y) (List.mem_map_of_mem hy) (by show ¬ isSl (y.2 + t); rw [ey]; exact hs)
    refine ⟨wallL ps ss, 3, t, rfl, by rw [e0]; exact ow, .inr ⟨rfl, ht, z, by rw [e0]; exact hz, ?_, ?_⟩, hp⟩
    · have e : (wallR (ps.zip ss)).map (tilF t) = ((thinQ (ps.zip ss)).map (tilF t)).map scW := by
        rw [wallR_map, List.map_map, List.map_map]
        exact List.map_congr_left fun x _ => (til_chg t).sc x
      rw [e0, tiltP_W, e]
      refine near_raw fun x hx => ?_
      obtain ⟨q, hq, rfl⟩ := List.mem_map.mp hx
      have m := r.mem q (thin_mem hq)
      refine ⟨?_, ?_⟩
      · show q.1.1.natAbs ≤ _; omega
      · show (q.1.2 + t * q.1.1).natAbs ≤ _
        rcases ht with rfl | rfl | rfl <;> omega
    · rw [e0, tiltP_W]; exact st
  rw [em]
  refine ⟨_, rfl, pos, fun m hm hle => ?_⟩
  simp! []
  refine ⟨fun z1 => bad m hm (by unfold isSl; omega) hp, fun z1 => ⟨_, rfl, pos, fun m2 hm2 hge => ?_⟩⟩
  simp! []
  refine ⟨fun z2 => bad m2 hm2 (by unfold isSl; omega) hp, fun z2 => ?_⟩
  have sl : ∀ s ∈ ss, isSl (s + t) := fun s hs => by
    have h1 := hle (s + t) (List.mem_map_of_mem (f := fun s => s + t) hs)
    have h2 := hge (s + t) (List.mem_map_of_mem (f := fun s => s + t) hs)
    unfold isSl; omega
  have rt : ∀ x ∈ ps.zip ss, isSl (tilF t x).2 ∧ (tilF t x).1.2.natAbs ≤ 2 * 10 ^ 9 := fun x hx => by
    have m := r.mem x hx
    refine ⟨sl x.2 (List.of_mem_zip hx).2, ?_⟩
    show (x.1.2 + t * x.1.1).natAbs ≤ _
    rcases ht with rfl | rfl | rfl <;> omega
  obtain ⟨n1, n2⟩ := r.remade (til_chg t) rt ⟨by decide, by decide⟩ hz
  refine isC_wall ⟨wallL ps ss, t, z, rfl, by rw [e0]; exact ow, ht, by rw [e0]; exact hz, by rw [e0, tiltP_W]; exact n1, fun w' hw => ?_, fun hw => ?_⟩
  · rw [e0, tiltP_W] at hw
    have hw : wallQ (((wallR (ps.zip ss)).map (tilF t)).map Prod.fst) (tilF t z).2 = some w' := hw
    rw [n2] at hw
    cases hw
    simp! [↓line_0]
    refine lc_map ps ptI (fun p => ptI (p.1, p.2 + t * p.1)) (by rw [sizeLine_eq]; omega) trivial (fun p hp K k1 => ?_) ?_
    · have ep : ptI p = .tup [.int p.1, .int p.2] := rfl
      rw [ep]
      simp! []
      refine ⟨mulL (by rcases ht with rfl | rfl | rfl <;> decide), k1⟩
    simp! []
    have ez : (ps.zip ss).map (tilF t) = (ps.map fun p => (p.1, p.2 + t * p.1)).zip (ss.map fun s => s + t) := zip_map2 (f := tilF t) (f1 := fun p => (p.1, p.2 + t * p.1)) (f2 := fun s => s + t) (fun _ => rfl) ps ss
    refine ⟨ps.map fun p => (p.1, p.2 + t * p.1), ss.map fun s => s + t, .lst (ps.map fun p => ptI (p.1, p.2 + t * p.1)), _, ?_, .inl (by rw [List.map_map]; rfl), .inl rfl, by rw [List.length_map, List.length_map]; exact ol, by simpa using o.ne, by rw [List.length_map]; omega, hp⟩
    rw [wallL_R, ez]
  · rw [e0, tiltP_W] at hw
    have hw : wallQ (((wallR (ps.zip ss)).map (tilF t)).map Prod.fst) (tilF t z).2 = none := hw
    rw [n2] at hw
    cases hw
def tb_Wall_turned (G : Gx) : AS := (aRet (aMake (mk2_Wall_init G) (aCons (aLcN newD (iSeq (aFld "_points" 0 (aVar 0))) (gT [1, 2]) aYes (aTup (aCons (aVar 1) (aCons (aUnM G.Dyadic (sp_Dyadic_neg G) (aVar 2)) aNil))) [1, 2]) (aCons (aNeg (aProp G.Wall (sp_Wall_slope G) (aVar 0))) aNil))))
theorem rd_Wall_turned (G : Gx) : Reads 3 (sp_Wall_turned G) (tb_Wall_turned G) := by
  rintro ds L P R ⟨w, z, w', rfl, ow, hz, hn, hw, h⟩
  unfold tb_Wall_turned
  simp! [↓fldW_0]
  refine lc_map w (fun p => ptD G p.1) (fun x => ptD G (x.1.1, -x.1.2)) (by have := ow.few; rw [sizeLine_eq]; omega) trivial (fun x hx K k1 => ?_) ?_
  · have ep : ptD G x.1 = .tup [dq G x.1.1, dq G x.1.2] := rfl
    have ox := ow.ok x hx
    rw [ep]
    simp! []
    refine isC_dq (c_neg ox.2.1 ?_)
    simp! []
    exact k1
  simp! []
  refine isC_wall ⟨w, z, rfl, hz, ?_⟩
  simp! []
  exact ⟨_, _, rfl, turnP w, .inl (by unfold turnP; rw [List.map_map]; rfl), by unfold turnP; rw [List.length_map]; have := ow.few; omega, hn, fun v hv => (by rw [hw] at hv; cases hv; exact h), fun hv => (by rw [hw] at hv; cases hv)⟩
def tb_law_10e31170_15 (G : Gx) : AS := (aSeq (aFor (iRng rng1 (aCons (aC (.int 3)) aNil)) (gN 11) (aIf (aOr (aNot (aTru (aCall (sp_law_refused_79b82729 G) [] (aCons (aVar 2) (aCons (aVar 11) (aCons (aBin oSub (aNeg (aC (.int 1))) (aVar 5)) aNil)))))) (aNot (aTru (aCall (sp_law_refused_79b82729 G) [] (aCons (aVar 2) (aCons (aVar 11) (aCons (aBin oSub (aNeg (aC (.int 1))) (aCB bInt (aCons (aBin oIx (aVar 3) (aC (.int 1))) aNil))) aNil))))))) (aRet (aC (.bl false))) aNext)) (aRet (aCall (sp_law_told_74f31f6a G) [] (aCons (aVar 2) (aCons (aVar 1) aNil)))))
def tb_law_10e31170_12 (G : Gx) : AS := (aSeq (aSet 10 (aTup (aCons (aLcN newD (iSeq (aBin oIx (aVar 1) (aC (.int 0)))) (gT [7, 9]) aYes (aTup (aCons (aVar 7) (aCons (aNeg (aVar 9)) aNil))) [7, 9]) (aCons (aLcN newD (iSeq (aBin oIx (aVar 1) (aC (.int 1)))) (gN 8) aYes (aNeg (aVar 8)) [8]) aNil)))) (aSeq (aIf (aOr (aNot (aTru (aCall (sp_law_told_74f31f6a G) [] (aCons (aMeth G.Wall (sp_Wall_turned G) [] (aVar 2) aNil) (aCons (aVar 10) aNil))))) (aNot (aTru (aCall (sp_law_told_74f31f6a G) [] (aCons (aMeth G.Wall (sp_Wall_turned G) [] (aMeth G.Wall (sp_Wall_turned G) [] (aVar 2) aNil) aNil) (aCons (aVar 1) aNil)))))) (aRet (aC (.bl false))) aNext) (tb_law_10e31170_15 G)))
def tb_law_10e31170_9 (G : Gx) : AS := (aSeq (aFor (iSeq (aLstN newD (aCons (aBin oSub (aBin oMod (aCB bInt (aCons (aBin oIx (aVar 3) (aC (.int 3))) aNil)) (aC (.int 3))) (aC (.int 1))) (aCons (aC (.int 1)) (aCons (aC (.int 0)) (aCons (aNeg (aC (.int 1))) aNil)))))) (gN 8) (aIf (aNot (aTru (aCall (sp_law_tilted_ff5ba2ea G) [] (aCons (aVar 2) (aCons (aVar 1) (aCons (aVar 8) aNil)))))) (aRet (aC (.bl false))) aNext)) (tb_law_10e31170_12 G))
def tb_law_10e31170_6 (G : Gx) : AS := (aSeq (aFor (iSeq (aLstN newD (aCons (aC (.int 0)) (aCons (aVar 4) (aCons (aCB bMax2 (aCons (aC (.int 0)) (aCons (aBin oSub (aBin oSub (aVar 4) (aC (.int 1))) (aCB bInt (aCons (aBin oIx (aVar 3) (aC (.int 1))) aNil))) aNil))) (aCons (aBin (oAddN newD) (aBin (oAddN newD) (aVar 4) (aC (.int 1))) (aCB bInt (aCons (aBin oIx (aVar 3) (aC (.int 2))) aNil))) (aCons (aVar 6) (aCons (aBin (oAddN newD) (aBin (oAddN newD) (aVar 6) (aC (.int 1))) (aVar 5)) (aCons (aVar 5) aNil))))))))) (gN 7) (aIf (aNot (aTru (aCall (sp_law_asked_55bd0f0b G) [] (aCons (aVar 2) (aCons (aVar 1) (aCons (aVar 7) aNil)))))) (aRet (aC (.bl false))) aNext)) (tb_law_10e31170_9 G))
def tb_law_10e31170 (G : Gx) : AS := (aSeq (aSet 1 (aCall (sp_law_drawn_c20d4a75 G) [] (aCons (aCall (sp_law_cell_49a05b28 G) [] (aCons (aVar 0) (aCons (aC (.int 0)) aNil))) (aCons (aCall (sp_law_cell_49a05b28 G) [] (aCons (aVar 0) (aCons (aC (.int 1)) aNil))) aNil)))) (aSeq (aSet 2 (aMake (mk2_Wall_init G) (aCons (aCall (sp_law_pairs_7c2080d5 G) [] (aCons (aBin oIx (aVar 1) (aC (.int 0))) aNil)) (aCons (aBin oIx (aBin oIx (aVar 1) (aC (.int 1))) (aNeg (aC (.int 1)))) aNil)))) (aSeq (aSet 3 (aCall (sp_law_digits_6b3a3527 G) [] (aCons (aCall (sp_law_cell_49a05b28 G) [] (aCons (aVar 0) (aCons (aC (.int 3)) aNil))) (aCons (aC (.int 4)) aNil)))) (aSeq (aSet 4 (aBin oIx (aBin oIx (aBin oIx (aVar 1) (aC (.int 0))) (aBin oMod (aCB bInt (aCons (aBin oIx (aVar 3) (aC (.int 0))) aNil)) (aCB bLen (aCons (aBin oIx (aVar 1) (aC (.int 0))) aNil)))) (aC (.int 0)))) (aSeq (aSet 5 (aBin oMod (aCB bInt (aCons (aCall (sp_law_cell_49a05b28 G) [] (aCons (aVar 0) (aCons (aC (.int 2)) aNil))) aNil)) (aBin oPow (aC (.int 10)) (aC (.int 9))))) (aSeq (aSet 6 (aBin oIx (aBin oIx (aBin oIx (aVar 1) (aC (.int 0))) (aNeg (aC (.int 1)))) (aC (.int 0)))) (tb_law_10e31170_6 G)))))))
section
variable {G : Gx} {L : Led} {P : PD} {R : Addr → Led → Prop} {ns : List Int} {ps : List Pt} {ss : List Int} {xs : List Nat} {near free last : Int} {v7 v8 v9 v10 v11 : Option DV}
theorem t15_law47 (o : LineOk ps ss) (f : figs 4 xs) (hf : 0 ≤ free ∧ free < 10 ^ 9) (h : P (.bl true) L) :
    tb_law_10e31170_15 G ⟨fun _ L => P .non L, P, fun _ _ => False, fun _ _ => False, fun c _ L => R c L⟩ [some (.wl (ns.map DV.int)), some (lineD ps ss), some (wallD G (wallL ps ss)), some (.lst (xs.map fun x => .int ((x : Nat) : Int))), some (.int near), some (.int free), some (.int last), v7, v8, v9, v10, v11] L := by
  unfold tb_law_10e31170_15
  obtain ⟨d1, l1, x1⟩ := f.ix (m := 1) (by omega)
  have y1 : ∀ {L : Led} {P : PD} {lk : Lk P}, ixA (xs.map fun x => DV.int ((x : Nat) : Int)) 1 L P lk = P (.int ((d1 : Nat) : Int)) L := x1 1 rfl
  have ow : WallOk (wallL ps ss) := by rw [wallL_R]; exact o.raw.wall (by decide)
  simp! []
  refine ⟨by decide, for_rng 3 _ (fun i ρ' L' => L' = L ∧ ∃ (v : Option DV), ρ' = [some (.wl (ns.map DV.int)), some (lineD ps ss), some (wallD G (wallL ps ss)), some (.lst (xs.map fun x => .int ((x : Nat) : Int))), some (.int near), some (.int free), some (.int last), v7, v8, v9, v10, v]) ⟨rfl, _, rfl⟩ (fun _ _ _ _ => trivial) ?_ ?_⟩
  · rintro i ρ' L' hi ⟨rfl, v, rfl⟩
    simp! []
    refine ⟨_, i, _, rfl, ow, .inl ⟨hi, by omega, by omega⟩, ?_⟩
    simp! [↓y1]
    refine ⟨_, i, _, rfl, ow, .inl ⟨hi, by omega, by omega⟩, ?_⟩
    simp! []
    exact ⟨_, rfl⟩
  · rintro ρ' L' ⟨rfl, v, rfl⟩
    simp! []
    exact told_line rfl o.len o.ne (by have := o.few; omega) h
theorem t12_law47 (o : LineOk ps ss) (f : figs 4 xs) (hf : 0 ≤ free ∧ free < 10 ^ 9) (h : P (.bl true) L) :
    tb_law_10e31170_12 G ⟨fun _ L => P .non L, P, fun _ _ => False, fun _ _ => False, fun c _ L => R c L⟩ [some (.wl (ns.map DV.int)), some (lineD ps ss), some (wallD G (wallL ps ss)), some (.lst (xs.map fun x => .int ((x : Nat) : Int))), some (.int near), some (.int free), some (.int last), v7, v8, none, none, none] L := by
  unfold tb_law_10e31170_12
  have ol := o.len
  have of := o.few
  have r := o.raw
  have ow := r.wall (by decide)
  have lw : (ps.zip ss).length ≤ 13 := by rw [List.length_zip]; omega
  simp! [↓line_0]
  refine lc_map ps ptI (fun p => ptI (p.1, -p.2)) (by rw [sizeLine_eq]; omega) trivial (fun p hp K k1 => ?_) ?_
  · have ep : ptI p = .tup [.int p.1, .int p.2] := rfl
    rw [ep]
    simp! []
    exact k1
  simp! [↓line_1]
  refine lc_map ss DV.int (fun s => .int (-s)) (by rw [sizeLine_eq]; omega) trivial (fun p hp K k1 => ?_) ?_
  · simp! []
    exact k1
  simp! []
  have e0 := wallL_R ps ss
  have hs : ∀ x ∈ ps.zip ss, isSl (negF x).2 ∧ (negF x).1.2.natAbs ≤ 10 ^ 9 + 10 ^ 7 := fun x hx => by
    have m := r.mem x hx
    refine ⟨isSl_neg m.1, ?_⟩
    show (-x.1.2).natAbs ≤ _
    omega
  have rn := r.chg neg_chg hs
  have hs2 : ∀ x ∈ (ps.zip ss).map negF, isSl (negF x).2 ∧ (negF x).1.2.natAbs ≤ 10 ^ 9 + 10 ^ 7 := fun x hx => by
    have m := rn.mem x hx
    refine ⟨isSl_neg m.1, ?_⟩
    show (-x.1.2).natAbs ≤ _
    omega
  obtain ⟨z, hz⟩ := last_of (xs := wallR (ps.zip ss)) (thin_ne (by simpa using r.ne))
  obtain ⟨z2, hz2⟩ := last_of (xs := wallR ((ps.zip ss).map negF)) (thin_ne (by simpa using r.ne))
  obtain ⟨n1, n2⟩ := r.remade neg_chg hs ⟨by decide, by decide⟩ hz
  obtain ⟨n3, n4⟩ := rn.remade neg_chg hs2 ⟨by decide, by decide⟩ hz2
  have ez : (ps.zip ss).map negF = (ps.map fun p => (p.1, -p.2)).zip (ss.map fun s => -s) := zip_map2 (f := negF) (f1 := fun p => (p.1, -p.2)) (f2 := fun s => -s) (fun _ => rfl) ps ss
  have nn : ((ps.zip ss).map negF).map negF = ps.zip ss := by
    rw [List.map_map]
    conv => rhs; rw [← List.map_id (ps.zip ss)]
    refine List.map_congr_left fun x _ => ?_
    show ((x.1.1, - -x.1.2), - -x.2) = x
    rw [Int.neg_neg, Int.neg_neg]
  rw [nn] at n4
  rw [e0]
  have tn1 : ∀ {L : Led} {P : PD} {R : Addr → Led → Prop} {l1 l2}, P (wallD G (wallR ((ps.zip ss).map negF))) L → callA (sp_Wall_turned G) [wallD G (wallR (ps.zip ss))] L P R l1 l2 := fun h => ⟨_, z, _, rfl, ow, hz, by rw [turnP_W]; exact n1, by rw [turnP_W]; exact n2, h⟩
  have tn2 : ∀ {L : Led} {P : PD} {R : Addr → Led → Prop} {l1 l2}, P (wallD G (wallR (ps.zip ss))) L → callA (sp_Wall_turned G) [wallD G (wallR ((ps.zip ss).map negF))] L P R l1 l2 := fun h => ⟨_, z2, _, rfl, rn.wall (by decide), hz2, by rw [turnP_W]; exact n3, by rw [turnP_W]; exact n4, h⟩
  refine isC_wall (tn1 ?_)
  simp! []
  refine ⟨ps.map fun p => (p.1, -p.2), ss.map fun s => -s, _, _, by rw [wallL_R, ez], .inl (by rw [List.map_map]; rfl), .inl (by rw [List.map_map]; rfl), by rw [List.length_map, List.length_map]; exact ol, by simpa using o.ne, by rw [List.length_map]; omega, ?_⟩
  simp! []
  refine isC_wall (tn1 ?_)
  simp! []
  refine isC_wall ?_
  simp! []
  refine tn2 ?_
  simp! []
  refine told_line e0.symm ol o.ne (by omega) ?_
  simp! []
  rw [← e0]
  exact t15_law47 o f hf h
theorem t9_law47 (o : LineOk ps ss) (f : figs 4 xs) (hf : 0 ≤ free ∧ free < 10 ^ 9) (h : P (.bl true) L) :
    tb_law_10e31170_9 G ⟨fun _ L => P .non L, P, fun _ _ => False, fun _ _ => False, fun c _ L => R c L⟩ [some (.wl (ns.map DV.int)), some (lineD ps ss), some (wallD G (wallL ps ss)), some (.lst (xs.map fun x => .int ((x : Nat) : Int))), some (.int near), some (.int free), some (.int last), v7, none, none, none, none] L := by
  unfold tb_law_10e31170_9
  obtain ⟨d3, l3, x3⟩ := f.ix (m := 3) (by omega)
  have y3 : ∀ {L : Led} {P : PD} {lk : Lk P}, ixA (xs.map fun x => DV.int ((x : Nat) : Int)) 3 L P lk = P (.int ((d3 : Nat) : Int)) L := x3 3 rfl
  simp! [↓y3]
  refine for_same (fun ρ' L' => L' = L ∧ ∃ (v : Option DV), ρ' = [some (.wl (ns.map DV.int)), some (lineD ps ss), some (wallD G (wallL ps ss)), some (.lst (xs.map fun x => .int ((x : Nat) : Int))), some (.int near), some (.int free), some (.int last), v7, v, none, none, none]) ⟨rfl, _, rfl⟩ (fun _ _ _ => trivial) ?_ ?_
  · rintro d hd ρ' L' ⟨rfl, v, rfl⟩
    obtain ⟨t, rfl, ht⟩ : ∃ t, d = .int t ∧ isSl t := by
      simp at hd
      rcases hd with rfl | rfl | rfl | rfl
      · exact ⟨_, rfl, slope_sl d3⟩
      · exact ⟨_, rfl, .inr (.inr rfl)⟩
      · exact ⟨_, rfl, .inr (.inl rfl)⟩
      · exact ⟨_, rfl, .inl rfl⟩
    simp! []
    refine ⟨ps, ss, t, rfl, o, ht, ?_⟩
    simp! []
    exact ⟨_, rfl⟩
  · rintro ρ' L' ⟨rfl, v, rfl⟩
    exact t12_law47 o f hf h
theorem t6_law47 (o : LineOk ps ss) (f : figs 4 xs) (hn : 0 ≤ near ∧ near ≤ 10 ^ 7) (hl : 0 ≤ last ∧ last ≤ 10 ^ 7) (hf : 0 ≤ free ∧ free < 10 ^ 9) (h : P (.bl true) L) :
    tb_law_10e31170_6 G ⟨fun _ L => P .non L, P, fun _ _ => False, fun _ _ => False, fun c _ L => R c L⟩ [some (.wl (ns.map DV.int)), some (lineD ps ss), some (wallD G (wallL ps ss)), some (.lst (xs.map fun x => .int ((x : Nat) : Int))), some (.int near), some (.int free), some (.int last), none, none, none, none, none] L := by
  unfold tb_law_10e31170_6
  obtain ⟨d1, l1, x1⟩ := f.ix (m := 1) (by omega)
  obtain ⟨d2, l2, x2⟩ := f.ix (m := 2) (by omega)
  have y1 : ∀ {L : Led} {P : PD} {lk : Lk P}, ixA (xs.map fun x => DV.int ((x : Nat) : Int)) 1 L P lk = P (.int ((d1 : Nat) : Int)) L := x1 1 rfl
  have y2 : ∀ {L : Led} {P : PD} {lk : Lk P}, ixA (xs.map fun x => DV.int ((x : Nat) : Int)) 2 L P lk = P (.int ((d2 : Nat) : Int)) L := x2 2 rfl
  simp! [↓y1, ↓y2]
  refine for_same (fun ρ' L' => L' = L ∧ ∃ (v : Option DV), ρ' = [some (.wl (ns.map DV.int)), some (lineD ps ss), some (wallD G (wallL ps ss)), some (.lst (xs.map fun x => .int ((x : Nat) : Int))), some (.int near), some (.int free), some (.int last), v, none, none, none, none]) ⟨rfl, _, rfl⟩ (fun _ _ _ => trivial) ?_ ?_
  · rintro d hd ρ' L' ⟨rfl, v, rfl⟩
    obtain ⟨t, rfl, ht⟩ : ∃ t, d = .int t ∧ 0 ≤ t ∧ t ≤ 2 * 10 ^ 9 := by
      simp at hd
      rcases hd with rfl | rfl | rfl | rfl | rfl | rfl | rfl
      all_goals refine ⟨_, rfl, ?_⟩
      all_goals first | omega | (split <;> omega)
    simp! []
    refine ⟨ps, ss, t, rfl, o, ht.1, ht.2, ?_⟩
    simp! []
    exact ⟨_, rfl⟩
  · rintro ρ' L' ⟨rfl, v, rfl⟩
    exact t9_law47 o f hf h
end
theorem rd_law_10e31170 (G : Gx) : Reads 12 (sp_law_10e31170 G) (tb_law_10e31170 G) := by
  intro ds L P R h
  unfold sp_law_10e31170 spLawT at h
  split at h
  · rename_i xs
    obtain ⟨⟨ns, _, rfl⟩, h⟩ := h
    unfold tb_law_10e31170
    simp! []
    refine cell_ok4 (by decide) (by decide) fun c0 => ?_
    simp! []
    refine cell_ok4 (by decide) (by decide) fun c1 => ?_
    simp! []
    refine ⟨_, _, rfl, fun ps ss o l12 => ?_⟩
    have ol := o.len
    have of := o.few
    obtain ⟨s, hs⟩ : ∃ s, ss.getLast? = some s := ⟨_, List.getLast?_eq_some_getLast o.ne⟩
    have xl : ∀ {L : Led} {P : PD} {lk : Lk P}, ixA (ss.map DV.int) (-1) L P lk = P (.int s) L := ixLastD (by rw [List.getLast?_map, hs]; rfl)
    simp! [↓line_0]
    refine ⟨ps, _, rfl, .inl rfl, by omega, fun p hp => by have := o.small p hp; exact ⟨by omega, by omega⟩, .inr ?_⟩
    simp! [↓line_1, ↓xl]
    refine mk_wall o hs (.inl rfl) ?_
    simp! []
    refine cell_ok4 (by decide) (by decide) fun c3 => ?_
    simp! []
    refine dig_ok4 4 (by decide) rfl fun xs f => ?_
    obtain ⟨d0, l0, x0⟩ := f.ix (m := 0) (by omega)
    have y0 : ∀ {L : Led} {P : PD} {lk : Lk P}, ixA (xs.map fun x => DV.int ((x : Nat) : Int)) 0 L P lk = P (.int ((d0 : Nat) : Int)) L := x0 0 rfl
    simp! [↓y0, ↓line_0]
    have lp : 0 < ps.length := by rw [ol]; exact List.length_pos_iff.mpr o.ne
    obtain ⟨k, ek, hk⟩ : ∃ k : Nat, ((d0 : Nat) : Int) % ((ps.length : Nat) : Int) = ((k : Nat) : Int) ∧ k < ps.length := ⟨d0 % ps.length, by rw [Int.natCast_emod], Nat.mod_lt _ lp⟩
    obtain ⟨q, hq⟩ : ∃ q, ps[k]? = some q := ⟨_, List.getElem?_eq_getElem hk⟩
    obtain ⟨u, hu⟩ : ∃ u, ps.getLast? = some u := ⟨_, List.getLast?_eq_some_getLast (List.length_pos_iff.mp lp)⟩
    have bq := o.small q (List.mem_of_getElem? hq)
    have bu := o.small u (List.mem_of_getLast? hu)
    have xq : ∀ {L : Led} {P : PD} {lk : Lk P}, ixA (ps.map ptI) ((k : Nat) : Int) L P lk = P (.tup [.int q.1, .int q.2]) L := ixA_map hq
    have xu : ∀ {L : Led} {P : PD} {lk : Lk P}, ixA (ps.map ptI) (-1) L P lk = P (.tup [.int u.1, .int u.2]) L := ixLastD (by rw [List.getLast?_map, hu]; rfl)
    rw [ek]
    simp! [↓xq]
    refine ⟨by omega, cell_ok4 (by decide) (by decide) fun c2 => ?_⟩
    simp! [↓line_0, ↓xu]
    exact ⟨⟨by decide, by decide, by decide⟩, by decide, t6_law47 o f ⟨bq.1, bq.2.1⟩ ⟨bu.1, bu.2.1⟩ ⟨by omega, by omega⟩ h⟩
  · exact h.elim
abbrev lawPr : Program := PySem.Challenge.pw_sumsplay_k47_places_on_a_wall
def topS (i : Nat) : Stmt := lawPr.main.body.getD i (.Pass ⟨0, 0, 0, 0⟩)
abbrev s_law_digits_6b3a3527 : Stmt := (topS 19)
theorem sc_law_digits_6b3a3527 : FnScope ["_law_cell_here", "_law_count", "_law_digits_here", "_law_rest", "_law_seed", "_law_k"] ["_law_cell_here", "_law_count"] (defScope s_law_digits_6b3a3527) := ⟨rfl, rfl, rfl, by decide +kernel, rfl, by decide +kernel, by decide +kernel⟩
abbrev s_law_drawn_c20d4a75 : Stmt := (topS 22)
theorem sc_law_drawn_c20d4a75 : FnScope ["_law_cell_here", "_law_base", "_law_digits_here", "_law_count", "_law_points", "_law_slopes", "_law_k", "_law_slope", "_law_run"] ["_law_cell_here", "_law_base"] (defScope s_law_drawn_c20d4a75) := ⟨rfl, rfl, rfl, by decide +kernel, rfl, by decide +kernel, by decide +kernel⟩
abbrev s_law_cell_49a05b28 : Stmt := (topS 18)
theorem sc_law_cell_49a05b28 : FnScope ["_law_script", "_law_k", "_law_mixed", "_law_cell_here"] ["_law_script", "_law_k"] (defScope s_law_cell_49a05b28) := ⟨rfl, rfl, rfl, by decide +kernel, rfl, by decide +kernel, by decide +kernel⟩
abbrev s_Dyadic_top : Stmt := (inClass (topS 12) 1)
theorem sc_Dyadic_top : FnScope ["self"] ["self"] (defScope s_Dyadic_top) := ⟨rfl, rfl, rfl, by decide +kernel, rfl, by decide +kernel, by decide +kernel⟩
abbrev s_Dyadic_power : Stmt := (inClass (topS 12) 2)
theorem sc_Dyadic_power : FnScope ["self"] ["self"] (defScope s_Dyadic_power) := ⟨rfl, rfl, rfl, by decide +kernel, rfl, by decide +kernel, by decide +kernel⟩
abbrev s_Dyadic_less : Stmt := (inClass (topS 12) 6)
theorem sc_Dyadic_less : FnScope ["self", "other"] ["self", "other"] (defScope s_Dyadic_less) := ⟨rfl, rfl, rfl, by decide +kernel, rfl, by decide +kernel, by decide +kernel⟩
abbrev s_reduced : Stmt := (topS 11)
theorem sc_reduced : FnScope ["top", "power"] ["top", "power"] (defScope s_reduced) := ⟨rfl, rfl, rfl, by decide +kernel, rfl, by decide +kernel, by decide +kernel⟩
abbrev s_is_integer : Stmt := (topS 10)
theorem sc_is_integer : FnScope ["thing"] ["thing"] (defScope s_is_integer) := ⟨rfl, rfl, rfl, by decide +kernel, rfl, by decide +kernel, by decide +kernel⟩
abbrev s_Dyadic_init : Stmt := (inClass (topS 12) 0)
theorem sc_Dyadic_init : FnScope ["self", "top", "power", "plain"] ["self", "top", "power"] (defScope s_Dyadic_init) := ⟨rfl, rfl, rfl, by decide +kernel, rfl, by decide +kernel, by decide +kernel⟩
abbrev s_Dyadic_add : Stmt := (inClass (topS 12) 3)
theorem sc_Dyadic_add : FnScope ["self", "other", "power", "top", "plain"] ["self", "other"] (defScope s_Dyadic_add) := ⟨rfl, rfl, rfl, by decide +kernel, rfl, by decide +kernel, by decide +kernel⟩
abbrev s_Dyadic_neg : Stmt := (inClass (topS 12) 4)
theorem sc_Dyadic_neg : FnScope ["self"] ["self"] (defScope s_Dyadic_neg) := ⟨rfl, rfl, rfl, by decide +kernel, rfl, by decide +kernel, by decide +kernel⟩
abbrev s_Dyadic_sub : Stmt := (inClass (topS 12) 5)
theorem sc_Dyadic_sub : FnScope ["self", "other"] ["self", "other"] (defScope s_Dyadic_sub) := ⟨rfl, rfl, rfl, by decide +kernel, rfl, by decide +kernel, by decide +kernel⟩
abbrev s_Dyadic_same : Stmt := (inClass (topS 12) 7)
theorem sc_Dyadic_same : FnScope ["self", "other"] ["self", "other"] (defScope s_Dyadic_same) := ⟨rfl, rfl, rfl, by decide +kernel, rfl, by decide +kernel, by decide +kernel⟩
abbrev s_times : Stmt := (topS 15)
theorem sc_times : FnScope ["number", "slope"] ["number", "slope"] (defScope s_times) := ⟨rfl, rfl, rfl, by decide +kernel, rfl, by decide +kernel, by decide +kernel⟩
abbrev s_slope_between : Stmt := (topS 14)
theorem sc_slope_between : FnScope ["one", "other", "run", "rise", "slope"] ["one", "other"] (defScope s_slope_between) := ⟨rfl, rfl, rfl, by decide +kernel, rfl, by decide +kernel, by decide +kernel⟩
abbrev s_Wall_init : Stmt := (inClass (topS 16) 0)
theorem sc_Wall_init : FnScope ["self", "points", "slope", "slopes", "index"] ["self", "points", "slope"] (defScope s_Wall_init) := ⟨rfl, rfl, rfl, by decide +kernel, rfl, by decide +kernel, by decide +kernel⟩
abbrev s_law_pairs_7c2080d5 : Stmt := (topS 23)
theorem sc_law_pairs_7c2080d5 : FnScope ["_law_points", "_law_heat", "_law_place_here"] ["_law_points"] (defScope s_law_pairs_7c2080d5) := ⟨rfl, rfl, rfl, by decide +kernel, rfl, by decide +kernel, by decide +kernel⟩
abbrev s_law_is_integer_fcf59962 : Stmt := (topS 20)
theorem sc_law_is_integer_fcf59962 : FnScope ["_law_thing"] ["_law_thing"] (defScope s_law_is_integer_fcf59962) := ⟨rfl, rfl, rfl, by decide +kernel, rfl, by decide +kernel, by decide +kernel⟩
abbrev s_law_plain_41305dcc : Stmt := (topS 21)
theorem sc_law_plain_41305dcc : FnScope ["_law_top", "_law_power", "_law_k"] ["_law_top", "_law_power"] (defScope s_law_plain_41305dcc) := ⟨rfl, rfl, rfl, by decide +kernel, rfl, by decide +kernel, by decide +kernel⟩
abbrev s_law_is_d09be0d2 : Stmt := (topS 24)
theorem sc_law_is_d09be0d2 : FnScope ["_law_number", "_law_due"] ["_law_number", "_law_due"] (defScope s_law_is_d09be0d2) := ⟨rfl, rfl, rfl, by decide +kernel, rfl, by decide +kernel, by decide +kernel⟩
abbrev s_law_place_8b093576 : Stmt := (topS 26)
theorem sc_law_place_8b093576 : FnScope ["_law_line", "_law_heat", "_law_k"] ["_law_line", "_law_heat"] (defScope s_law_place_8b093576) := ⟨rfl, rfl, rfl, by decide +kernel, rfl, by decide +kernel, by decide +kernel⟩
abbrev s_law_at_ade38b70 : Stmt := (topS 27)
theorem sc_law_at_ade38b70 : FnScope ["_law_line", "_law_heat", "_law_k"] ["_law_line", "_law_heat"] (defScope s_law_at_ade38b70) := ⟨rfl, rfl, rfl, by decide +kernel, rfl, by decide +kernel, by decide +kernel⟩
abbrev s_Wall_place : Stmt := (inClass (topS 16) 8)
theorem sc_Wall_place : FnScope ["self", "heat", "found", "index", "point"] ["self", "heat"] (defScope s_Wall_place) := ⟨rfl, rfl, rfl, by decide +kernel, rfl, by decide +kernel, by decide +kernel⟩
abbrev s_Wall_at : Stmt := (inClass (topS 16) 3)
theorem sc_Wall_at : FnScope ["self", "heat", "index", "point"] ["self", "heat"] (defScope s_Wall_at) := ⟨rfl, rfl, rfl, by decide +kernel, rfl, by decide +kernel, by decide +kernel⟩
abbrev s_Wall_slope_at : Stmt := (inClass (topS 16) 4)
theorem sc_Wall_slope_at : FnScope ["self", "heat"] ["self", "heat"] (defScope s_Wall_slope_at) := ⟨rfl, rfl, rfl, by decide +kernel, rfl, by decide +kernel, by decide +kernel⟩
abbrev s_law_cut_7d8ca634 : Stmt := (topS 30)
theorem sc_law_cut_7d8ca634 : FnScope ["_law_line", "_law_heat", "_law_point", "_law_points"] ["_law_line", "_law_heat"] (defScope s_law_cut_7d8ca634) := ⟨rfl, rfl, rfl, by decide +kernel, rfl, by decide +kernel, by decide +kernel⟩
abbrev s_Wall_cut : Stmt := (inClass (topS 16) 7)
theorem sc_Wall_cut : FnScope ["self", "heat", "place", "point", "points"] ["self", "heat"] (defScope s_Wall_cut) := ⟨rfl, rfl, rfl, by decide +kernel, rfl, by decide +kernel, by decide +kernel⟩
abbrev s_Wall_slope : Stmt := (inClass (topS 16) 2)
theorem sc_Wall_slope : FnScope ["self"] ["self"] (defScope s_Wall_slope) := ⟨rfl, rfl, rfl, by decide +kernel, rfl, by decide +kernel, by decide +kernel⟩
abbrev s_Wall_points : Stmt := (inClass (topS 16) 1)
theorem sc_Wall_points : FnScope ["self"] ["self"] (defScope s_Wall_points) := ⟨rfl, rfl, rfl, by decide +kernel, rfl, by decide +kernel, by decide +kernel⟩
abbrev s_law_told_74f31f6a : Stmt := (topS 25)
theorem sc_law_told_74f31f6a : FnScope ["_law_shut", "_law_line", "_law_k", "_law_kept", "_law_points", "_law_i", "_law_point", "_law_due"] ["_law_shut", "_law_line"] (defScope s_law_told_74f31f6a) := ⟨rfl, rfl, rfl, by decide +kernel, rfl, by decide +kernel, by decide +kernel⟩
abbrev s_law_asked_55bd0f0b : Stmt := (topS 32)
theorem sc_law_asked_55bd0f0b : FnScope ["_law_shut", "_law_line", "_law_heat", "_law_slope", "_law_cut_here", "_law_short", "_law_later"] ["_law_shut", "_law_line", "_law_heat"] (defScope s_law_asked_55bd0f0b) := ⟨rfl, rfl, rfl, by decide +kernel, rfl, by decide +kernel, by decide +kernel⟩
abbrev s_Wall_tilted : Stmt := (inClass (topS 16) 5)
theorem sc_Wall_tilted : FnScope ["self", "slope", "heat", "place", "points"] ["self", "slope"] (defScope s_Wall_tilted) := ⟨rfl, rfl, rfl, by decide +kernel, rfl, by decide +kernel, by decide +kernel⟩
abbrev s_law_is_only_611d9904 : Stmt := (topS 28)
theorem sc_law_is_only_611d9904 : FnScope ["_law_e", "_law_word", "_law_kinds", "_law_k"] ["_law_e", "_law_word"] (defScope s_law_is_only_611d9904) := ⟨rfl, rfl, rfl, by decide +kernel, rfl, by decide +kernel, by decide +kernel⟩
abbrev s_law_refused_79b82729 : Stmt := (topS 29)
theorem sc_law_refused_79b82729 : FnScope ["_law_shut", "_law_word", "_law_heat", "_law_e"] ["_law_shut", "_law_word", "_law_heat"] (defScope s_law_refused_79b82729) := ⟨rfl, rfl, rfl, by decide +kernel, rfl, by decide +kernel, by decide +kernel⟩
abbrev s_law_tilted_ff5ba2ea : Stmt := (topS 31)
theorem sc_law_tilted_ff5ba2ea : FnScope ["_law_shut", "_law_line", "_law_slope", "_law_piece", "_law_slopes", "_law_heat", "_law_place_here"] ["_law_shut", "_law_line", "_law_slope"] (defScope s_law_tilted_ff5ba2ea) := ⟨rfl, rfl, rfl, by decide +kernel, rfl, by decide +kernel, by decide +kernel⟩
abbrev s_Wall_turned : Stmt := (inClass (topS 16) 6)
theorem sc_Wall_turned : FnScope ["self", "heat", "place"] ["self"] (defScope s_Wall_turned) := ⟨rfl, rfl, rfl, by decide +kernel, rfl, by decide +kernel, by decide +kernel⟩
abbrev s_law_10e31170 : Stmt := (topS 33)
theorem sc_law_10e31170 : FnScope ["_law_script", "_law_line", "_law_shut", "_law_digits_here", "_law_near", "_law_free", "_law_last", "_law_heat", "_law_slope", "_law_place_here", "_law_turned", "_law_word"] ["_law_script"] (defScope s_law_10e31170) := ⟨rfl, rfl, rfl, by decide +kernel, rfl, by decide +kernel, by decide +kernel⟩
structure Ad where
  f_law_digits_6b3a3527 : Addr
  fd_law_digits_6b3a3527 : FuncData
  f_law_drawn_c20d4a75 : Addr
  fd_law_drawn_c20d4a75 : FuncData
  f_law_cell_49a05b28 : Addr
  fd_law_cell_49a05b28 : FuncData
  f_Dyadic_top : Addr
  fd_Dyadic_top : FuncData
  p_Dyadic_top : Addr
  f_Dyadic_power : Addr
  fd_Dyadic_power : FuncData
  p_Dyadic_power : Addr
  f_Dyadic_less : Addr
  fd_Dyadic_less : FuncData
  f_reduced : Addr
  fd_reduced : FuncData
  f_is_integer : Addr
  fd_is_integer : FuncData
  f_Dyadic_init : Addr
  fd_Dyadic_init : FuncData
  f_Dyadic_add : Addr
  fd_Dyadic_add : FuncData
  f_Dyadic_neg : Addr
  fd_Dyadic_neg : FuncData
  f_Dyadic_sub : Addr
  fd_Dyadic_sub : FuncData
  f_Dyadic_same : Addr
  fd_Dyadic_same : FuncData
  f_times : Addr
  fd_times : FuncData
  f_slope_between : Addr
  fd_slope_between : FuncData
  f_Wall_init : Addr
  fd_Wall_init : FuncData
  f_law_pairs_7c2080d5 : Addr
  fd_law_pairs_7c2080d5 : FuncData
  f_law_is_integer_fcf59962 : Addr
  fd_law_is_integer_fcf59962 : FuncData
  f_law_plain_41305dcc : Addr
  fd_law_plain_41305dcc : FuncData
  f_law_is_d09be0d2 : Addr
  fd_law_is_d09be0d2 : FuncData
  f_law_place_8b093576 : Addr
  fd_law_place_8b093576 : FuncData
  f_law_at_ade38b70 : Addr
  fd_law_at_ade38b70 : FuncData
  f_Wall_place : Addr
  fd_Wall_place : FuncData
  f_Wall_at : Addr
  fd_Wall_at : FuncData
  f_Wall_slope_at : Addr
  fd_Wall_slope_at : FuncData
  f_law_cut_7d8ca634 : Addr
  fd_law_cut_7d8ca634 : FuncData
  f_Wall_cut : Addr
  fd_Wall_cut : FuncData
  f_Wall_slope : Addr
  fd_Wall_slope : FuncData
  p_Wall_slope : Addr
  f_Wall_points : Addr
  fd_Wall_points : FuncData
  f_law_told_74f31f6a : Addr
  fd_law_told_74f31f6a : FuncData
  f_law_asked_55bd0f0b : Addr
  fd_law_asked_55bd0f0b : FuncData
  f_Wall_tilted : Addr
  fd_Wall_tilted : FuncData
  f_law_is_only_611d9904 : Addr
  fd_law_is_only_611d9904 : FuncData
  f_law_refused_79b82729 : Addr
  fd_law_refused_79b82729 : FuncData
  f_law_tilted_ff5ba2ea : Addr
  fd_law_tilted_ff5ba2ea : FuncData
  f_Wall_turned : Addr
  fd_Wall_turned : FuncData
  f_law_10e31170 : Addr
  fd_law_10e31170 : FuncData
structure Txt (G : Gx) (mg : Str → Option Value) (A : Ad) : Prop where
  g_Dyadic : mg "Dyadic" = some (.ref G.Dyadic)
  cl_Dyadic : Cls G.k.K G.Dyadic
  fo_Dyadic : FOk G.k.K G.Dyadic []
  sf_Dyadic : PySem.W.selfFirst G.k.K G.Dyadic = true
  no_Dyadic__top : NoAttr G.k.K G.Dyadic "_top"
  no_Dyadic__power : NoAttr G.k.K G.Dyadic "_power"
  mk_Dyadic : Mk G.k.K G.Dyadic A.f_Dyadic_init
  g_Wall : mg "Wall" = some (.ref G.Wall)
  cl_Wall : Cls G.k.K G.Wall
  fo_Wall : FOk G.k.K G.Wall []
  no_Wall__points : NoAttr G.k.K G.Wall "_points"
  no_Wall__slopes : NoAttr G.k.K G.Wall "_slopes"
  mk_Wall : Mk G.k.K G.Wall A.f_Wall_init
  g_BadText : mg "BadText" = some (.ref G.BadText)
  g_BadValue : mg "BadValue" = some (.ref G.BadValue)
  x_BadValue : PySem.W.excIn G.k.K G.BadValue [.type "ValueError", .type "Exception", .type "BaseException", .type "object"] "ValueError.__new__" = true
  k_BadValue : PySem.W.keepIn G.k.K (.ref G.BadValue) = true
  eb_BadValue : PySem.W.subIn G.k.K (.ref G.BadValue) (.type "BaseException") = some true
  et_BadValue : PySem.W.typeIn G.k.K (.ref G.BadValue) = some (.type "type")
  g_NoMove : mg "NoMove" = some (.ref G.NoMove)
  g_PlayError : mg "PlayError" = some (.ref G.PlayError)
  g_Unknown : mg "Unknown" = some (.ref G.Unknown)
  er_BadValue : ErrK G G.BadValue G.BadText G.Unknown G.NoMove
  g_POWER_MOST : ∃ tk_POWER_MOST : Tok, mg "POWER_MOST" = some (.int 40 tk_POWER_MOST)
  g_TOP_MOST : ∃ tk_TOP_MOST : Tok, mg "TOP_MOST" = some (.int 1000000000000 tk_TOP_MOST)
  n_ValueError : mg "ValueError" = none
  n_bool : mg "bool" = none
  n_enumerate : mg "enumerate" = none
  n_int : mg "int" = none
  n_isinstance : mg "isinstance" = none
  n_len : mg "len" = none
  n_list : mg "list" = none
  n_max : mg "max" = none
  n_min : mg "min" = none
  n_range : mg "range" = none
  n_tuple : mg "tuple" = none
  m_law_digits_6b3a3527 : mg "_law_digits" = some (.ref A.f_law_digits_6b3a3527)
  F_law_digits_6b3a3527 : Fun G.k.K "_law_digits" "_law_digits" s_law_digits_6b3a3527 A.f_law_digits_6b3a3527 A.fd_law_digits_6b3a3527
  b_law_digits_6b3a3527 : Binds G.k.K A.fd_law_digits_6b3a3527 ["_law_cell_here", "_law_count"] []
  m_law_drawn_c20d4a75 : mg "_law_drawn" = some (.ref A.f_law_drawn_c20d4a75)
  F_law_drawn_c20d4a75 : Fun G.k.K "_law_drawn" "_law_drawn" s_law_drawn_c20d4a75 A.f_law_drawn_c20d4a75 A.fd_law_drawn_c20d4a75
  b_law_drawn_c20d4a75 : Binds G.k.K A.fd_law_drawn_c20d4a75 ["_law_cell_here", "_law_base"] []
  m_law_cell_49a05b28 : mg "_law_cell" = some (.ref A.f_law_cell_49a05b28)
  F_law_cell_49a05b28 : Fun G.k.K "_law_cell" "_law_cell" s_law_cell_49a05b28 A.f_law_cell_49a05b28 A.fd_law_cell_49a05b28
  b_law_cell_49a05b28 : Binds G.k.K A.fd_law_cell_49a05b28 ["_law_script", "_law_k"] []
  P_Dyadic_top : PropOf G.k.K G.Dyadic "top" A.p_Dyadic_top A.f_Dyadic_top
  F_Dyadic_top : Fun G.k.K "top" "Dyadic.top" s_Dyadic_top A.f_Dyadic_top A.fd_Dyadic_top
  b_Dyadic_top : Binds G.k.K A.fd_Dyadic_top ["self"] []
  P_Dyadic_power : PropOf G.k.K G.Dyadic "power" A.p_Dyadic_power A.f_Dyadic_power
  F_Dyadic_power : Fun G.k.K "power" "Dyadic.power" s_Dyadic_power A.f_Dyadic_power A.fd_Dyadic_power
  b_Dyadic_power : Binds G.k.K A.fd_Dyadic_power ["self"] []
  Mt_Dyadic_less : Meth G.k.K G.Dyadic "less" A.f_Dyadic_less
  F_Dyadic_less : Fun G.k.K "less" "Dyadic.less" s_Dyadic_less A.f_Dyadic_less A.fd_Dyadic_less
  b_Dyadic_less : Binds G.k.K A.fd_Dyadic_less ["self", "other"] []
  m_reduced : mg "reduced" = some (.ref A.f_reduced)
  F_reduced : Fun G.k.K "reduced" "reduced" s_reduced A.f_reduced A.fd_reduced
  b_reduced : Binds G.k.K A.fd_reduced ["top", "power"] []
  m_is_integer : mg "is_integer" = some (.ref A.f_is_integer)
  F_is_integer : Fun G.k.K "is_integer" "is_integer" s_is_integer A.f_is_integer A.fd_is_integer
  b_is_integer : Binds G.k.K A.fd_is_integer ["thing"] []
  F_Dyadic_init : FunD G.k.K "__init__" "Dyadic.__init__" (defArgs s_Dyadic_init) (defBody s_Dyadic_init) (defScope s_Dyadic_init) [V.int 0] [] A.f_Dyadic_init A.fd_Dyadic_init
  b1_Dyadic_init : ∃ ds, Vals ([V.int 0].drop 0) ds ∧ Binds G.k.K A.fd_Dyadic_init ["self", "top", "power"] ds
  b2_Dyadic_init : ∃ ds, Vals ([V.int 0].drop 1) ds ∧ Binds G.k.K A.fd_Dyadic_init ["self", "top", "power"] ds
  Mt_Dyadic_add : Meth G.k.K G.Dyadic "__add__" A.f_Dyadic_add
  F_Dyadic_add : Fun G.k.K "__add__" "Dyadic.__add__" s_Dyadic_add A.f_Dyadic_add A.fd_Dyadic_add
  b_Dyadic_add : Binds G.k.K A.fd_Dyadic_add ["self", "other"] []
  Mt_Dyadic_neg : Meth G.k.K G.Dyadic "__neg__" A.f_Dyadic_neg
  F_Dyadic_neg : Fun G.k.K "__neg__" "Dyadic.__neg__" s_Dyadic_neg A.f_Dyadic_neg A.fd_Dyadic_neg
  b_Dyadic_neg : Binds G.k.K A.fd_Dyadic_neg ["self"] []
  Mt_Dyadic_sub : Meth G.k.K G.Dyadic "__sub__" A.f_Dyadic_sub
  F_Dyadic_sub : Fun G.k.K "__sub__" "Dyadic.__sub__" s_Dyadic_sub A.f_Dyadic_sub A.fd_Dyadic_sub
  b_Dyadic_sub : Binds G.k.K A.fd_Dyadic_sub ["self", "other"] []
  Mt_Dyadic_same : Meth G.k.K G.Dyadic "same" A.f_Dyadic_same
  F_Dyadic_same : Fun G.k.K "same" "Dyadic.same" s_Dyadic_same A.f_Dyadic_same A.fd_Dyadic_same
  b_Dyadic_same : Binds G.k.K A.fd_Dyadic_same ["self", "other"] []
  m_times : mg "times" = some (.ref A.f_times)
  F_times : Fun G.k.K "times" "times" s_times A.f_times A.fd_times
  b_times : Binds G.k.K A.fd_times ["number", "slope"] []
  m_slope_between : mg "slope_between" = some (.ref A.f_slope_between)
  F_slope_between : Fun G.k.K "slope_between" "slope_between" s_slope_between A.f_slope_between A.fd_slope_between
  b_slope_between : Binds G.k.K A.fd_slope_between ["one", "other"] []
  F_Wall_init : Fun G.k.K "__init__" "Wall.__init__" s_Wall_init A.f_Wall_init A.fd_Wall_init
  b_Wall_init : Binds G.k.K A.fd_Wall_init ["self", "points", "slope"] []
  m_law_pairs_7c2080d5 : mg "_law_pairs" = some (.ref A.f_law_pairs_7c2080d5)
  F_law_pairs_7c2080d5 : Fun G.k.K "_law_pairs" "_law_pairs" s_law_pairs_7c2080d5 A.f_law_pairs_7c2080d5 A.fd_law_pairs_7c2080d5
  b_law_pairs_7c2080d5 : Binds G.k.K A.fd_law_pairs_7c2080d5 ["_law_points"] []
  m_law_is_integer_fcf59962 : mg "_law_is_integer" = some (.ref A.f_law_is_integer_fcf59962)
  F_law_is_integer_fcf59962 : Fun G.k.K "_law_is_integer" "_law_is_integer" s_law_is_integer_fcf59962 A.f_law_is_integer_fcf59962 A.fd_law_is_integer_fcf59962
  b_law_is_integer_fcf59962 : Binds G.k.K A.fd_law_is_integer_fcf59962 ["_law_thing"] []
  m_law_plain_41305dcc : mg "_law_plain" = some (.ref A.f_law_plain_41305dcc)
  F_law_plain_41305dcc : Fun G.k.K "_law_plain" "_law_plain" s_law_plain_41305dcc A.f_law_plain_41305dcc A.fd_law_plain_41305dcc
  b_law_plain_41305dcc : Binds G.k.K A.fd_law_plain_41305dcc ["_law_top", "_law_power"] []
  m_law_is_d09be0d2 : mg "_law_is" = some (.ref A.f_law_is_d09be0d2)
  F_law_is_d09be0d2 : Fun G.k.K "_law_is" "_law_is" s_law_is_d09be0d2 A.f_law_is_d09be0d2 A.fd_law_is_d09be0d2
  b_law_is_d09be0d2 : Binds G.k.K A.fd_law_is_d09be0d2 ["_law_number", "_law_due"] []
  m_law_place_8b093576 : mg "_law_place" = some (.ref A.f_law_place_8b093576)
  F_law_place_8b093576 : Fun G.k.K "_law_place" "_law_place" s_law_place_8b093576 A.f_law_place_8b093576 A.fd_law_place_8b093576
  b_law_place_8b093576 : Binds G.k.K A.fd_law_place_8b093576 ["_law_line", "_law_heat"] []
  m_law_at_ade38b70 : mg "_law_at" = some (.ref A.f_law_at_ade38b70)
  F_law_at_ade38b70 : Fun G.k.K "_law_at" "_law_at" s_law_at_ade38b70 A.f_law_at_ade38b70 A.fd_law_at_ade38b70
  b_law_at_ade38b70 : Binds G.k.K A.fd_law_at_ade38b70 ["_law_line", "_law_heat"] []
  Mt_Wall_place : Meth G.k.K G.Wall "_place" A.f_Wall_place
  F_Wall_place : Fun G.k.K "_place" "Wall._place" s_Wall_place A.f_Wall_place A.fd_Wall_place
  b_Wall_place : Binds G.k.K A.fd_Wall_place ["self", "heat"] []
  Mt_Wall_at : Meth G.k.K G.Wall "at" A.f_Wall_at
  F_Wall_at : Fun G.k.K "at" "Wall.at" s_Wall_at A.f_Wall_at A.fd_Wall_at
  b_Wall_at : Binds G.k.K A.fd_Wall_at ["self", "heat"] []
  Mt_Wall_slope_at : Meth G.k.K G.Wall "slope_at" A.f_Wall_slope_at
  F_Wall_slope_at : Fun G.k.K "slope_at" "Wall.slope_at" s_Wall_slope_at A.f_Wall_slope_at A.fd_Wall_slope_at
  b_Wall_slope_at : Binds G.k.K A.fd_Wall_slope_at ["self", "heat"] []
  m_law_cut_7d8ca634 : mg "_law_cut" = some (.ref A.f_law_cut_7d8ca634)
  F_law_cut_7d8ca634 : Fun G.k.K "_law_cut" "_law_cut" s_law_cut_7d8ca634 A.f_law_cut_7d8ca634 A.fd_law_cut_7d8ca634
  b_law_cut_7d8ca634 : Binds G.k.K A.fd_law_cut_7d8ca634 ["_law_line", "_law_heat"] []
  Mt_Wall_cut : Meth G.k.K G.Wall "cut" A.f_Wall_cut
  F_Wall_cut : Fun G.k.K "cut" "Wall.cut" s_Wall_cut A.f_Wall_cut A.fd_Wall_cut
  b_Wall_cut : Binds G.k.K A.fd_Wall_cut ["self", "heat"] []
  P_Wall_slope : PropOf G.k.K G.Wall "slope" A.p_Wall_slope A.f_Wall_slope
  F_Wall_slope : Fun G.k.K "slope" "Wall.slope" s_Wall_slope A.f_Wall_slope A.fd_Wall_slope
  b_Wall_slope : Binds G.k.K A.fd_Wall_slope ["self"] []
  Mt_Wall_points : Meth G.k.K G.Wall "points" A.f_Wall_points
  F_Wall_points : Fun G.k.K "points" "Wall.points" s_Wall_points A.f_Wall_points A.fd_Wall_points
  b_Wall_points : Binds G.k.K A.fd_Wall_points ["self"] []
  m_law_told_74f31f6a : mg "_law_told" = some (.ref A.f_law_told_74f31f6a)
  F_law_told_74f31f6a : Fun G.k.K "_law_told" "_law_told" s_law_told_74f31f6a A.f_law_told_74f31f6a A.fd_law_told_74f31f6a
  b_law_told_74f31f6a : Binds G.k.K A.fd_law_told_74f31f6a ["_law_shut", "_law_line"] []
  m_law_asked_55bd0f0b : mg "_law_asked" = some (.ref A.f_law_asked_55bd0f0b)
  F_law_asked_55bd0f0b : Fun G.k.K "_law_asked" "_law_asked" s_law_asked_55bd0f0b A.f_law_asked_55bd0f0b A.fd_law_asked_55bd0f0b
  b_law_asked_55bd0f0b : Binds G.k.K A.fd_law_asked_55bd0f0b ["_law_shut", "_law_line", "_law_heat"] []
  Mt_Wall_tilted : Meth G.k.K G.Wall "tilted" A.f_Wall_tilted
  F_Wall_tilted : Fun G.k.K "tilted" "Wall.tilted" s_Wall_tilted A.f_Wall_tilted A.fd_Wall_tilted
  b_Wall_tilted : Binds G.k.K A.fd_Wall_tilted ["self", "slope"] []
  m_law_is_only_611d9904 : mg "_law_is_only" = some (.ref A.f_law_is_only_611d9904)
  F_law_is_only_611d9904 : Fun G.k.K "_law_is_only" "_law_is_only" s_law_is_only_611d9904 A.f_law_is_only_611d9904 A.fd_law_is_only_611d9904
  b_law_is_only_611d9904 : Binds G.k.K A.fd_law_is_only_611d9904 ["_law_e", "_law_word"] []
  m_law_refused_79b82729 : mg "_law_refused" = some (.ref A.f_law_refused_79b82729)
  F_law_refused_79b82729 : Fun G.k.K "_law_refused" "_law_refused" s_law_refused_79b82729 A.f_law_refused_79b82729 A.fd_law_refused_79b82729
  b_law_refused_79b82729 : Binds G.k.K A.fd_law_refused_79b82729 ["_law_shut", "_law_word", "_law_heat"] []
  m_law_tilted_ff5ba2ea : mg "_law_tilted" = some (.ref A.f_law_tilted_ff5ba2ea)
  F_law_tilted_ff5ba2ea : Fun G.k.K "_law_tilted" "_law_tilted" s_law_tilted_ff5ba2ea A.f_law_tilted_ff5ba2ea A.fd_law_tilted_ff5ba2ea
  b_law_tilted_ff5ba2ea : Binds G.k.K A.fd_law_tilted_ff5ba2ea ["_law_shut", "_law_line", "_law_slope"] []
  Mt_Wall_turned : Meth G.k.K G.Wall "turned" A.f_Wall_turned
  F_Wall_turned : Fun G.k.K "turned" "Wall.turned" s_Wall_turned A.f_Wall_turned A.fd_Wall_turned
  b_Wall_turned : Binds G.k.K A.fd_Wall_turned ["self"] []
  m_law_10e31170 : mg "law" = some (.ref A.f_law_10e31170)
  F_law_10e31170 : Fun G.k.K "law" "law" s_law_10e31170 A.f_law_10e31170 A.fd_law_10e31170
  b_law_10e31170 : Binds G.k.K A.fd_law_10e31170 ["_law_script"] []
theorem ok_law_digits_6b3a3527 {G : Gx} {mg : Str → Option Value} {A : Ad} {base : Heap} (T : Txt G mg A) : FnOk G.k.P G.k.w G.k.K mg base (L2N.CX G.k.P G.k.w) 1 A.f_law_digits_6b3a3527 A.fd_law_digits_6b3a3527 ["_law_cell_here", "_law_count"] (liftSp G.k (sp_law_digits_6b3a3527 G)) :=
  fun_ok (k := 0) (tb := tb_law_digits_6b3a3527 G) T.F_law_digits_6b3a3527 sc_law_digits_6b3a3527 (by intro ds L Q R h; unfold sp_law_digits_6b3a3527 at h; first | (rcases h with h | h <;> (first | (obtain ⟨rfl, _⟩ := h; rfl) | (obtain ⟨_, _, _, rfl, _, _, rfl, _⟩ := h; rfl) | (obtain ⟨_, _, _, rfl, _, _, _, rfl, _⟩ := h; rfl) | (obtain ⟨_, rfl, _⟩ := h; rfl) | (obtain ⟨_, _, rfl, _⟩ := h; rfl) | (obtain ⟨_, _, _, rfl, _⟩ := h; rfl) | (obtain ⟨_, _, _, _, rfl, _⟩ := h; rfl) | (obtain ⟨_, _, _, _, _, rfl, _⟩ := h; rfl) | (obtain ⟨_, _, _, _, _, _, rfl, _⟩ := h; rfl) | (obtain ⟨_, _, _, _, _, _, _, rfl, _⟩ := h; rfl) | (obtain ⟨_, _, _, _, _, _, _, _, rfl, _⟩ := h; rfl) | (obtain ⟨_, _, _, _, _, _, _, _, _, rfl, _⟩ := h; rfl) | (obtain ⟨_, _, _, _, _, _, _, _, _, _, rfl, _⟩ := h; rfl) | (obtain ⟨_, _, _, _, _, _, _, _, _, _, _, rfl, _⟩ := h; rfl) | (obtain ⟨_, _, _, _, _, _, _, _, _, _, _, _, rfl, _⟩ := h; rfl) | (obtain ⟨_, _, _, _, _, _, _, _, _, _, _, _, _, rfl, _⟩ := h; rfl) | (obtain ⟨_, _, _, _, _, _, _, _, _, _, _, _, _, _, rfl, _⟩ := h; rfl) | (obtain ⟨_, _, _, _, _, _, _, _, _, _, _, _, _, _, _, rfl, _⟩ := h; rfl) | (split at h <;> first | rfl | exact h.elim)); done) | (first | (obtain ⟨rfl, _⟩ := h; rfl) | (obtain ⟨_, _, _, rfl, _, _, rfl, _⟩ := h; rfl) | (obtain ⟨_, _, _, rfl, _, _, _, rfl, _⟩ := h; rfl) | (obtain ⟨_, rfl, _⟩ := h; rfl) | (obtain ⟨_, _, rfl, _⟩ := h; rfl) | (obtain ⟨_, _, _, rfl, _⟩ := h; rfl) | (obtain ⟨_, _, _, _, rfl, _⟩ := h; rfl) | (obtain ⟨_, _, _, _, _, rfl, _⟩ := h; rfl) | (obtain ⟨_, _, _, _, _, _, rfl, _⟩ := h; rfl) | (obtain ⟨_, _, _, _, _, _, _, rfl, _⟩ := h; rfl) | (obtain ⟨_, _, _, _, _, _, _, _, rfl, _⟩ := h; rfl) | (obtain ⟨_, _, _, _, _, _, _, _, _, rfl, _⟩ := h; rfl) | (obtain ⟨_, _, _, _, _, _, _, _, _, _, rfl, _⟩ := h; rfl) | (obtain ⟨_, _, _, _, _, _, _, _, _, _, _, rfl, _⟩ := h; rfl) | (obtain ⟨_, _, _, _, _, _, _, _, _, _, _, _, rfl, _⟩ := h; rfl) | (obtain ⟨_, _, _, _, _, _, _, _, _, _, _, _, _, rfl, _⟩ := h; rfl) | (obtain ⟨_, _, _, _, _, _, _, _, _, _, _, _, _, _, rfl, _⟩ := h; rfl) | (obtain ⟨_, _, _, _, _, _, _, _, _, _, _, _, _, _, _, rfl, _⟩ := h; rfl) | (split at h <;> first | rfl | exact h.elim))) (fun cdv A_ outer s H E hr => by
    have sc := sc_law_digits_6b3a3527
    exact (b_cons (s_set (i := 2) sc.nd (a_lstN newR_ok g_nil)) (b_cons (s_set (i := 3) sc.nd (av 0)) (b_cons (s_set (i := 4) sc.nd (a_mod (a_intc rfl T.n_int (g_cons (a_addN newD_ok (a_mulT newD_ok (av 0) a_int) a_int) g_nil)) a_int)) (b_cons (s_for (passes_of rfl) rfl (i_rng1 rfl T.n_range (g_cons (av 1) g_nil)) (g_name 5 sc.nd) (gok_name 5) (b_one (s_if (PW.pt (w_and (t_ge (av 0) (a_pow a_int a_int)) (w_and1 (t_gt (av 3) a_int)))) (b_cons (s_expr (a_append (av 2) (g_cons (a_mod (a_intc rfl T.n_int (g_cons (av 3) g_nil)) a_int) g_nil))) (b_one (s_set (i := 3) sc.nd (a_div (av 3) a_int)))) (b_cons (s_set (i := 4) sc.nd (a_mod (a_intc rfl T.n_int (g_cons (a_addN newD_ok (a_addN newD_ok (a_mulT newD_ok (av 4) a_int) (a_mulT newD_ok a_int (av 5))) a_int) g_nil)) a_int)) (b_one (s_expr (a_append (av 2) (g_cons (a_mod (a_intc rfl T.n_int (g_cons (a_div (a_mod (a_intc rfl T.n_int (g_cons (a_addN newD_ok (a_mulT newD_ok (av 4) a_int) a_int) g_nil)) a_int) a_int) g_nil)) a_int) g_nil)))))))) (b_one (s_ret (a_frz (av 2))))))))) (rd_law_digits_6b3a3527 G)
theorem ok_law_drawn_c20d4a75 {G : Gx} {mg : Str → Option Value} {A : Ad} {base : Heap} (T : Txt G mg A) : FnOk G.k.P G.k.w G.k.K mg base (L2N.CX G.k.P G.k.w) 2 A.f_law_drawn_c20d4a75 A.fd_law_drawn_c20d4a75 ["_law_cell_here", "_law_base"] (liftSp G.k (sp_law_drawn_c20d4a75 G)) :=
  fun_ok (k := 1) (tb := tb_law_drawn_c20d4a75 G) T.F_law_drawn_c20d4a75 sc_law_drawn_c20d4a75 (by intro ds L Q R h; unfold sp_law_drawn_c20d4a75 at h; first | (rcases h with h | h <;> (first | (obtain ⟨rfl, _⟩ := h; rfl) | (obtain ⟨_, _, _, rfl, _, _, rfl, _⟩ := h; rfl) | (obtain ⟨_, _, _, rfl, _, _, _, rfl, _⟩ := h; rfl) | (obtain ⟨_, rfl, _⟩ := h; rfl) | (obtain ⟨_, _, rfl, _⟩ := h; rfl) | (obtain ⟨_, _, _, rfl, _⟩ := h; rfl) | (obtain ⟨_, _, _, _, rfl, _⟩ := h; rfl) | (obtain ⟨_, _, _, _, _, rfl, _⟩ := h; rfl) | (obtain ⟨_, _, _, _, _, _, rfl, _⟩ := h; rfl) | (obtain ⟨_, _, _, _, _, _, _, rfl, _⟩ := h; rfl) | (obtain ⟨_, _, _, _, _, _, _, _, rfl, _⟩ := h; rfl) | (obtain ⟨_, _, _, _, _, _, _, _, _, rfl, _⟩ := h; rfl) | (obtain ⟨_, _, _, _, _, _, _, _, _, _, rfl, _⟩ := h; rfl) | (obtain ⟨_, _, _, _, _, _, _, _, _, _, _, rfl, _⟩ := h; rfl) | (obtain ⟨_, _, _, _, _, _, _, _, _, _, _, _, rfl, _⟩ := h; rfl) | (obtain ⟨_, _, _, _, _, _, _, _, _, _, _, _, _, rfl, _⟩ := h; rfl) | (obtain ⟨_, _, _, _, _, _, _, _, _, _, _, _, _, _, rfl, _⟩ := h; rfl) | (obtain ⟨_, _, _, _, _, _, _, _, _, _, _, _, _, _, _, rfl, _⟩ := h; rfl) | (split at h <;> first | rfl | exact h.elim)); done) | (first | (obtain ⟨rfl, _⟩ := h; rfl) | (obtain ⟨_, _, _, rfl, _, _, rfl, _⟩ := h; rfl) | (obtain ⟨_, _, _, rfl, _, _, _, rfl, _⟩ := h; rfl) | (obtain ⟨_, rfl, _⟩ := h; rfl) | (obtain ⟨_, _, rfl, _⟩ := h; rfl) | (obtain ⟨_, _, _, rfl, _⟩ := h; rfl) | (obtain ⟨_, _, _, _, rfl, _⟩ := h; rfl) | (obtain ⟨_, _, _, _, _, rfl, _⟩ := h; rfl) | (obtain ⟨_, _, _, _, _, _, rfl, _⟩ := h; rfl) | (obtain ⟨_, _, _, _, _, _, _, rfl, _⟩ := h; rfl) | (obtain ⟨_, _, _, _, _, _, _, _, rfl, _⟩ := h; rfl) | (obtain ⟨_, _, _, _, _, _, _, _, _, rfl, _⟩ := h; rfl) | (obtain ⟨_, _, _, _, _, _, _, _, _, _, rfl, _⟩ := h; rfl) | (obtain ⟨_, _, _, _, _, _, _, _, _, _, _, rfl, _⟩ := h; rfl) | (obtain ⟨_, _, _, _, _, _, _, _, _, _, _, _, rfl, _⟩ := h; rfl) | (obtain ⟨_, _, _, _, _, _, _, _, _, _, _, _, _, rfl, _⟩ := h; rfl) | (obtain ⟨_, _, _, _, _, _, _, _, _, _, _, _, _, _, rfl, _⟩ := h; rfl) | (obtain ⟨_, _, _, _, _, _, _, _, _, _, _, _, _, _, _, rfl, _⟩ := h; rfl) | (split at h <;> first | rfl | exact h.elim))) (fun cdv A_ outer s H E hr => by
    have sc := sc_law_drawn_c20d4a75
    exact (b_cons (s_set (i := 2) sc.nd (a_call (ok_law_digits_6b3a3527 T) (hr.mono (by decide)) rfl T.m_law_digits_6b3a3527 T.F_law_digits_6b3a3527.kp T.b_law_digits_6b3a3527 .nil (fun _ => .nil) (L2N.takes_of rfl rfl rfl rfl) (args1 (g_cons (av 0) (g_cons a_int g_nil))))) (b_cons (s_set (i := 3) sc.nd (a_addN newD_ok a_int (a_mod (a_intc rfl T.n_int (g_cons (a_item (av 2) a_int) g_nil)) a_int))) (b_cons (s_if (t_eq hr.units (a_mod (a_div (a_intc rfl T.n_int (g_cons (a_item (av 2) a_int) g_nil)) a_int) a_int) a_int) (b_one (s_set (i := 3) sc.nd (a_addN newD_ok a_int (a_mod (a_intc rfl T.n_int (g_cons (a_item (av 2) a_int) g_nil)) a_int)))) b_nil) (b_cons (s_set (i := 4) sc.nd (a_lstN newR_ok (g_cons (a_tup (g_cons a_int (g_cons (a_sub (a_mod (a_intc rfl T.n_int (g_cons (av 1) g_nil)) (a_addN newD_ok (a_mulT newD_ok a_int (a_pow a_int a_int)) a_int)) (a_pow a_int a_int)) g_nil))) g_nil))) (b_cons (s_set (i := 5) sc.nd (a_lstN newR_ok g_nil)) (b_cons (s_for (passes_of rfl) rfl (i_rng1 rfl T.n_range (g_cons (a_sub (av 3) a_int) g_nil)) (g_name 6 sc.nd) (gok_name 6) (b_cons (s_set (i := 7) sc.nd (a_sub (a_mod (a_intc rfl T.n_int (g_cons (a_item (av 2) (a_addN newD_ok (a_mulT newD_ok a_int (av 6)) a_int)) g_nil)) a_int) a_int)) (b_cons (s_set (i := 8) sc.nd (a_shl (a_addN newD_ok a_int (a_intc rfl T.n_int (g_cons (a_item (av 2) (a_addN newD_ok (a_mulT newD_ok a_int (av 6)) a_int)) g_nil))) (a_mod (a_intc rfl T.n_int (g_cons (a_item (av 2) (a_addN newD_ok (a_mulT newD_ok a_int (av 6)) a_int)) g_nil)) a_int))) (b_cons (s_expr (a_append (av 5) (g_cons (av 7) g_nil))) (b_one (s_expr (a_append (av 4) (g_cons (a_tup (g_cons (a_addN newD_ok (a_item (a_item (av 4) (a_neg a_int)) a_int) (av 8)) (g_cons (a_addN newD_ok (a_item (a_item (av 4) (a_neg a_int)) a_int) (a_mulT newD_ok (av 7) (av 8))) g_nil))) g_nil)))))))) (b_cons (s_expr (a_append (av 5) (g_cons (a_sub (a_mod (a_div (a_intc rfl T.n_int (g_cons (a_item (av 2) a_int) g_nil)) a_int) a_int) a_int) g_nil))) (b_one (s_ret (a_frz (a_tup (g_cons (av 4) (g_cons (av 5) g_nil)))))))))))))) (rd_law_drawn_c20d4a75 G)
theorem ok_law_cell_49a05b28 {G : Gx} {mg : Str → Option Value} {A : Ad} {base : Heap} (T : Txt G mg A) : FnOk G.k.P G.k.w G.k.K mg base (L2N.CX G.k.P G.k.w) 1 A.f_law_cell_49a05b28 A.fd_law_cell_49a05b28 ["_law_script", "_law_k"] (liftSp G.k (sp_law_cell_49a05b28 G)) :=
  fun_ok (k := 0) (tb := tb_law_cell_49a05b28 G) T.F_law_cell_49a05b28 sc_law_cell_49a05b28 (by intro ds L Q R h; unfold sp_law_cell_49a05b28 at h; first | (rcases h with h | h <;> (first | (obtain ⟨rfl, _⟩ := h; rfl) | (obtain ⟨_, _, _, rfl, _, _, rfl, _⟩ := h; rfl) | (obtain ⟨_, _, _, rfl, _, _, _, rfl, _⟩ := h; rfl) | (obtain ⟨_, rfl, _⟩ := h; rfl) | (obtain ⟨_, _, rfl, _⟩ := h; rfl) | (obtain ⟨_, _, _, rfl, _⟩ := h; rfl) | (obtain ⟨_, _, _, _, rfl, _⟩ := h; rfl) | (obtain ⟨_, _, _, _, _, rfl, _⟩ := h; rfl) | (obtain ⟨_, _, _, _, _, _, rfl, _⟩ := h; rfl) | (obtain ⟨_, _, _, _, _, _, _, rfl, _⟩ := h; rfl) | (obtain ⟨_, _, _, _, _, _, _, _, rfl, _⟩ := h; rfl) | (obtain ⟨_, _, _, _, _, _, _, _, _, rfl, _⟩ := h; rfl) | (obtain ⟨_, _, _, _, _, _, _, _, _, _, rfl, _⟩ := h; rfl) | (obtain ⟨_, _, _, _, _, _, _, _, _, _, _, rfl, _⟩ := h; rfl) | (obtain ⟨_, _, _, _, _, _, _, _, _, _, _, _, rfl, _⟩ := h; rfl) | (obtain ⟨_, _, _, _, _, _, _, _, _, _, _, _, _, rfl, _⟩ := h; rfl) | (obtain ⟨_, _, _, _, _, _, _, _, _, _, _, _, _, _, rfl, _⟩ := h; rfl) | (obtain ⟨_, _, _, _, _, _, _, _, _, _, _, _, _, _, _, rfl, _⟩ := h; rfl) | (split at h <;> first | rfl | exact h.elim)); done) | (first | (obtain ⟨rfl, _⟩ := h; rfl) | (obtain ⟨_, _, _, rfl, _, _, rfl, _⟩ := h; rfl) | (obtain ⟨_, _, _, rfl, _, _, _, rfl, _⟩ := h; rfl) | (obtain ⟨_, rfl, _⟩ := h; rfl) | (obtain ⟨_, _, rfl, _⟩ := h; rfl) | (obtain ⟨_, _, _, rfl, _⟩ := h; rfl) | (obtain ⟨_, _, _, _, rfl, _⟩ := h; rfl) | (obtain ⟨_, _, _, _, _, rfl, _⟩ := h; rfl) | (obtain ⟨_, _, _, _, _, _, rfl, _⟩ := h; rfl) | (obtain ⟨_, _, _, _, _, _, _, rfl, _⟩ := h; rfl) | (obtain ⟨_, _, _, _, _, _, _, _, rfl, _⟩ := h; rfl) | (obtain ⟨_, _, _, _, _, _, _, _, _, rfl, _⟩ := h; rfl) | (obtain ⟨_, _, _, _, _, _, _, _, _, _, rfl, _⟩ := h; rfl) | (obtain ⟨_, _, _, _, _, _, _, _, _, _, _, rfl, _⟩ := h; rfl) | (obtain ⟨_, _, _, _, _, _, _, _, _, _, _, _, rfl, _⟩ := h; rfl) | (obtain ⟨_, _, _, _, _, _, _, _, _, _, _, _, _, rfl, _⟩ := h; rfl) | (obtain ⟨_, _, _, _, _, _, _, _, _, _, _, _, _, _, rfl, _⟩ := h; rfl) | (obtain ⟨_, _, _, _, _, _, _, _, _, _, _, _, _, _, _, rfl, _⟩ := h; rfl) | (split at h <;> first | rfl | exact h.elim))) (fun cdv A_ outer s H E hr => by
    have sc := sc_law_cell_49a05b28
    exact (b_cons (s_if (t_lt (av 1) (a_len rfl T.n_len (g_cons (av 0) g_nil))) (b_one (s_ret (a_item (av 0) (av 1)))) b_nil) (b_cons (s_set (i := 2) sc.nd (a_addN newD_ok (a_mulT newD_ok a_int (av 1)) a_int)) (b_cons (s_for (passes_of rfl) rfl (i_seq (av 0)) (g_name 3 sc.nd) (gok_name 3) (b_one (s_set (i := 2) sc.nd (a_mod (a_intc rfl T.n_int (g_cons (a_addN newD_ok (a_mulT newD_ok (av 2) a_int) (av 3)) g_nil)) a_int)))) (b_one (s_ret (av 2))))))) (rd_law_cell_49a05b28 G)
theorem ok_Dyadic_top {G : Gx} {mg : Str → Option Value} {A : Ad} {base : Heap} (T : Txt G mg A) : FnOk G.k.P G.k.w G.k.K mg base (L2N.CX G.k.P G.k.w) 1 A.f_Dyadic_top A.fd_Dyadic_top ["self"] (liftSp G.k (sp_Dyadic_top G)) :=
  fun_ok (k := 0) (tb := tb_Dyadic_top G) T.F_Dyadic_top sc_Dyadic_top (by intro ds L Q R h; unfold sp_Dyadic_top at h; first | (rcases h with h | h <;> (first | (obtain ⟨rfl, _⟩ := h; rfl) | (obtain ⟨_, _, _, rfl, _, _, rfl, _⟩ := h; rfl) | (obtain ⟨_, _, _, rfl, _, _, _, rfl, _⟩ := h; rfl) | (obtain ⟨_, rfl, _⟩ := h; rfl) | (obtain ⟨_, _, rfl, _⟩ := h; rfl) | (obtain ⟨_, _, _, rfl, _⟩ := h; rfl) | (obtain ⟨_, _, _, _, rfl, _⟩ := h; rfl) | (obtain ⟨_, _, _, _, _, rfl, _⟩ := h; rfl) | (obtain ⟨_, _, _, _, _, _, rfl, _⟩ := h; rfl) | (obtain ⟨_, _, _, _, _, _, _, rfl, _⟩ := h; rfl) | (obtain ⟨_, _, _, _, _, _, _, _, rfl, _⟩ := h; rfl) | (obtain ⟨_, _, _, _, _, _, _, _, _, rfl, _⟩ := h; rfl) | (obtain ⟨_, _, _, _, _, _, _, _, _, _, rfl, _⟩ := h; rfl) | (obtain ⟨_, _, _, _, _, _, _, _, _, _, _, rfl, _⟩ := h; rfl) | (obtain ⟨_, _, _, _, _, _, _, _, _, _, _, _, rfl, _⟩ := h; rfl) | (obtain ⟨_, _, _, _, _, _, _, _, _, _, _, _, _, rfl, _⟩ := h; rfl) | (obtain ⟨_, _, _, _, _, _, _, _, _, _, _, _, _, _, rfl, _⟩ := h; rfl) | (obtain ⟨_, _, _, _, _, _, _, _, _, _, _, _, _, _, _, rfl, _⟩ := h; rfl) | (split at h <;> first | rfl | exact h.elim)); done) | (first | (obtain ⟨rfl, _⟩ := h; rfl) | (obtain ⟨_, _, _, rfl, _, _, rfl, _⟩ := h; rfl) | (obtain ⟨_, _, _, rfl, _, _, _, rfl, _⟩ := h; rfl) | (obtain ⟨_, rfl, _⟩ := h; rfl) | (obtain ⟨_, _, rfl, _⟩ := h; rfl) | (obtain ⟨_, _, _, rfl, _⟩ := h; rfl) | (obtain ⟨_, _, _, _, rfl, _⟩ := h; rfl) | (obtain ⟨_, _, _, _, _, rfl, _⟩ := h; rfl) | (obtain ⟨_, _, _, _, _, _, rfl, _⟩ := h; rfl) | (obtain ⟨_, _, _, _, _, _, _, rfl, _⟩ := h; rfl) | (obtain ⟨_, _, _, _, _, _, _, _, rfl, _⟩ := h; rfl) | (obtain ⟨_, _, _, _, _, _, _, _, _, rfl, _⟩ := h; rfl) | (obtain ⟨_, _, _, _, _, _, _, _, _, _, rfl, _⟩ := h; rfl) | (obtain ⟨_, _, _, _, _, _, _, _, _, _, _, rfl, _⟩ := h; rfl) | (obtain ⟨_, _, _, _, _, _, _, _, _, _, _, _, rfl, _⟩ := h; rfl) | (obtain ⟨_, _, _, _, _, _, _, _, _, _, _, _, _, rfl, _⟩ := h; rfl) | (obtain ⟨_, _, _, _, _, _, _, _, _, _, _, _, _, _, rfl, _⟩ := h; rfl) | (obtain ⟨_, _, _, _, _, _, _, _, _, _, _, _, _, _, _, rfl, _⟩ := h; rfl) | (split at h <;> first | rfl | exact h.elim))) (fun cdv A_ outer s H E hr => by
    have sc := sc_Dyadic_top
    exact (b_one (s_ret (a_fld 0 (av 0))))) (rd_Dyadic_top G)
theorem ok_Dyadic_power {G : Gx} {mg : Str → Option Value} {A : Ad} {base : Heap} (T : Txt G mg A) : FnOk G.k.P G.k.w G.k.K mg base (L2N.CX G.k.P G.k.w) 1 A.f_Dyadic_power A.fd_Dyadic_power ["self"] (liftSp G.k (sp_Dyadic_power G)) :=
  fun_ok (k := 0) (tb := tb_Dyadic_power G) T.F_Dyadic_power sc_Dyadic_power (by intro ds L Q R h; unfold sp_Dyadic_power at h; first | (rcases h with h | h <;> (first | (obtain ⟨rfl, _⟩ := h; rfl) | (obtain ⟨_, _, _, rfl, _, _, rfl, _⟩ := h; rfl) | (obtain ⟨_, _, _, rfl, _, _, _, rfl, _⟩ := h; rfl) | (obtain ⟨_, rfl, _⟩ := h; rfl) | (obtain ⟨_, _, rfl, _⟩ := h; rfl) | (obtain ⟨_, _, _, rfl, _⟩ := h; rfl) | (obtain ⟨_, _, _, _, rfl, _⟩ := h; rfl) | (obtain ⟨_, _, _, _, _, rfl, _⟩ := h; rfl) | (obtain ⟨_, _, _, _, _, _, rfl, _⟩ := h; rfl) | (obtain ⟨_, _, _, _, _, _, _, rfl, _⟩ := h; rfl) | (obtain ⟨_, _, _, _, _, _, _, _, rfl, _⟩ := h; rfl) | (obtain ⟨_, _, _, _, _, _, _, _, _, rfl, _⟩ := h; rfl) | (obtain ⟨_, _, _, _, _, _, _, _, _, _, rfl, _⟩ := h; rfl) | (obtain ⟨_, _, _, _, _, _, _, _, _, _, _, rfl, _⟩ := h; rfl) | (obtain ⟨_, _, _, _, _, _, _, _, _, _, _, _, rfl, _⟩ := h; rfl) | (obtain ⟨_, _, _, _, _, _, _, _, _, _, _, _, _, rfl, _⟩ := h; rfl) | (obtain ⟨_, _, _, _, _, _, _, _, _, _, _, _, _, _, rfl, _⟩ := h; rfl) | (obtain ⟨_, _, _, _, _, _, _, _, _, _, _, _, _, _, _, rfl, _⟩ := h; rfl) | (split at h <;> first | rfl | exact h.elim)); done) | (first | (obtain ⟨rfl, _⟩ := h; rfl) | (obtain ⟨_, _, _, rfl, _, _, rfl, _⟩ := h; rfl) | (obtain ⟨_, _, _, rfl, _, _, _, rfl, _⟩ := h; rfl) | (obtain ⟨_, rfl, _⟩ := h; rfl) | (obtain ⟨_, _, rfl, _⟩ := h; rfl) | (obtain ⟨_, _, _, rfl, _⟩ := h; rfl) | (obtain ⟨_, _, _, _, rfl, _⟩ := h; rfl) | (obtain ⟨_, _, _, _, _, rfl, _⟩ := h; rfl) | (obtain ⟨_, _, _, _, _, _, rfl, _⟩ := h; rfl) | (obtain ⟨_, _, _, _, _, _, _, rfl, _⟩ := h; rfl) | (obtain ⟨_, _, _, _, _, _, _, _, rfl, _⟩ := h; rfl) | (obtain ⟨_, _, _, _, _, _, _, _, _, rfl, _⟩ := h; rfl) | (obtain ⟨_, _, _, _, _, _, _, _, _, _, rfl, _⟩ := h; rfl) | (obtain ⟨_, _, _, _, _, _, _, _, _, _, _, rfl, _⟩ := h; rfl) | (obtain ⟨_, _, _, _, _, _, _, _, _, _, _, _, rfl, _⟩ := h; rfl) | (obtain ⟨_, _, _, _, _, _, _, _, _, _, _, _, _, rfl, _⟩ := h; rfl) | (obtain ⟨_, _, _, _, _, _, _, _, _, _, _, _, _, _, rfl, _⟩ := h; rfl) | (obtain ⟨_, _, _, _, _, _, _, _, _, _, _, _, _, _, _, rfl, _⟩ := h; rfl) | (split at h <;> first | rfl | exact h.elim))) (fun cdv A_ outer s H E hr => by
    have sc := sc_Dyadic_power
    exact (b_one (s_ret (a_fld 1 (av 0))))) (rd_Dyadic_power G)
theorem ok_Dyadic_less {G : Gx} {mg : Str → Option Value} {A : Ad} {base : Heap} (T : Txt G mg A) : FnOk G.k.P G.k.w G.k.K mg base (L2N.CX G.k.P G.k.w) 3 A.f_Dyadic_less A.fd_Dyadic_less ["self", "other"] (liftSp G.k (sp_Dyadic_less G)) :=
  fun_ok (k := 2) (tb := tb_Dyadic_less G) T.F_Dyadic_less sc_Dyadic_less (by intro ds L Q R h; unfold sp_Dyadic_less at h; first | (rcases h with h | h <;> (first | (obtain ⟨rfl, _⟩ := h; rfl) | (obtain ⟨_, _, _, rfl, _, _, rfl, _⟩ := h; rfl) | (obtain ⟨_, _, _, rfl, _, _, _, rfl, _⟩ := h; rfl) | (obtain ⟨_, rfl, _⟩ := h; rfl) | (obtain ⟨_, _, rfl, _⟩ := h; rfl) | (obtain ⟨_, _, _, rfl, _⟩ := h; rfl) | (obtain ⟨_, _, _, _, rfl, _⟩ := h; rfl) | (obtain ⟨_, _, _, _, _, rfl, _⟩ := h; rfl) | (obtain ⟨_, _, _, _, _, _, rfl, _⟩ := h; rfl) | (obtain ⟨_, _, _, _, _, _, _, rfl, _⟩ := h; rfl) | (obtain ⟨_, _, _, _, _, _, _, _, rfl, _⟩ := h; rfl) | (obtain ⟨_, _, _, _, _, _, _, _, _, rfl, _⟩ := h; rfl) | (obtain ⟨_, _, _, _, _, _, _, _, _, _, rfl, _⟩ := h; rfl) | (obtain ⟨_, _, _, _, _, _, _, _, _, _, _, rfl, _⟩ := h; rfl) | (obtain ⟨_, _, _, _, _, _, _, _, _, _, _, _, rfl, _⟩ := h; rfl) | (obtain ⟨_, _, _, _, _, _, _, _, _, _, _, _, _, rfl, _⟩ := h; rfl) | (obtain ⟨_, _, _, _, _, _, _, _, _, _, _, _, _, _, rfl, _⟩ := h; rfl) | (obtain ⟨_, _, _, _, _, _, _, _, _, _, _, _, _, _, _, rfl, _⟩ := h; rfl) | (split at h <;> first | rfl | exact h.elim)); done) | (first | (obtain ⟨rfl, _⟩ := h; rfl) | (obtain ⟨_, _, _, rfl, _, _, rfl, _⟩ := h; rfl) | (obtain ⟨_, _, _, rfl, _, _, _, rfl, _⟩ := h; rfl) | (obtain ⟨_, rfl, _⟩ := h; rfl) | (obtain ⟨_, _, rfl, _⟩ := h; rfl) | (obtain ⟨_, _, _, rfl, _⟩ := h; rfl) | (obtain ⟨_, _, _, _, rfl, _⟩ := h; rfl) | (obtain ⟨_, _, _, _, _, rfl, _⟩ := h; rfl) | (obtain ⟨_, _, _, _, _, _, rfl, _⟩ := h; rfl) | (obtain ⟨_, _, _, _, _, _, _, rfl, _⟩ := h; rfl) | (obtain ⟨_, _, _, _, _, _, _, _, rfl, _⟩ := h; rfl) | (obtain ⟨_, _, _, _, _, _, _, _, _, rfl, _⟩ := h; rfl) | (obtain ⟨_, _, _, _, _, _, _, _, _, _, rfl, _⟩ := h; rfl) | (obtain ⟨_, _, _, _, _, _, _, _, _, _, _, rfl, _⟩ := h; rfl) | (obtain ⟨_, _, _, _, _, _, _, _, _, _, _, _, rfl, _⟩ := h; rfl) | (obtain ⟨_, _, _, _, _, _, _, _, _, _, _, _, _, rfl, _⟩ := h; rfl) | (obtain ⟨_, _, _, _, _, _, _, _, _, _, _, _, _, _, rfl, _⟩ := h; rfl) | (obtain ⟨_, _, _, _, _, _, _, _, _, _, _, _, _, _, _, rfl, _⟩ := h; rfl) | (split at h <;> first | rfl | exact h.elim))) (fun cdv A_ outer s H E hr => by
    have sc := sc_Dyadic_less
    exact (b_one (s_ret (a_lt (a_shl (a_fld 0 (av 0)) (a_prop (av 1) T.cl_Dyadic T.P_Dyadic_power (ok_Dyadic_power T) (hr.mono (by decide)) T.b_Dyadic_power)) (a_shl (a_prop (av 1) T.cl_Dyadic T.P_Dyadic_top (ok_Dyadic_top T) (hr.mono (by decide)) T.b_Dyadic_top) (a_fld 1 (av 0))))))) (rd_Dyadic_less G)
theorem ok_reduced {G : Gx} {mg : Str → Option Value} {A : Ad} {base : Heap} (T : Txt G mg A) : FnOk G.k.P G.k.w G.k.K mg base (L2N.CX G.k.P G.k.w) 1 A.f_reduced A.fd_reduced ["top", "power"] (liftSp G.k (sp_reduced G)) :=
  fun_ok (k := 0) (tb := tb_reduced G) T.F_reduced sc_reduced (by intro ds L Q R h; unfold sp_reduced at h; first | (rcases h with h | h <;> (first | (obtain ⟨rfl, _⟩ := h; rfl) | (obtain ⟨_, _, _, rfl, _, _, rfl, _⟩ := h; rfl) | (obtain ⟨_, _, _, rfl, _, _, _, rfl, _⟩ := h; rfl) | (obtain ⟨_, rfl, _⟩ := h; rfl) | (obtain ⟨_, _, rfl, _⟩ := h; rfl) | (obtain ⟨_, _, _, rfl, _⟩ := h; rfl) | (obtain ⟨_, _, _, _, rfl, _⟩ := h; rfl) | (obtain ⟨_, _, _, _, _, rfl, _⟩ := h; rfl) | (obtain ⟨_, _, _, _, _, _, rfl, _⟩ := h; rfl) | (obtain ⟨_, _, _, _, _, _, _, rfl, _⟩ := h; rfl) | (obtain ⟨_, _, _, _, _, _, _, _, rfl, _⟩ := h; rfl) | (obtain ⟨_, _, _, _, _, _, _, _, _, rfl, _⟩ := h; rfl) | (obtain ⟨_, _, _, _, _, _, _, _, _, _, rfl, _⟩ := h; rfl) | (obtain ⟨_, _, _, _, _, _, _, _, _, _, _, rfl, _⟩ := h; rfl) | (obtain ⟨_, _, _, _, _, _, _, _, _, _, _, _, rfl, _⟩ := h; rfl) | (obtain ⟨_, _, _, _, _, _, _, _, _, _, _, _, _, rfl, _⟩ := h; rfl) | (obtain ⟨_, _, _, _, _, _, _, _, _, _, _, _, _, _, rfl, _⟩ := h; rfl) | (obtain ⟨_, _, _, _, _, _, _, _, _, _, _, _, _, _, _, rfl, _⟩ := h; rfl) | (split at h <;> first | rfl | exact h.elim)); done) | (first | (obtain ⟨rfl, _⟩ := h; rfl) | (obtain ⟨_, _, _, rfl, _, _, rfl, _⟩ := h; rfl) | (obtain ⟨_, _, _, rfl, _, _, _, rfl, _⟩ := h; rfl) | (obtain ⟨_, rfl, _⟩ := h; rfl) | (obtain ⟨_, _, rfl, _⟩ := h; rfl) | (obtain ⟨_, _, _, rfl, _⟩ := h; rfl) | (obtain ⟨_, _, _, _, rfl, _⟩ := h; rfl) | (obtain ⟨_, _, _, _, _, rfl, _⟩ := h; rfl) | (obtain ⟨_, _, _, _, _, _, rfl, _⟩ := h; rfl) | (obtain ⟨_, _, _, _, _, _, _, rfl, _⟩ := h; rfl) | (obtain ⟨_, _, _, _, _, _, _, _, rfl, _⟩ := h; rfl) | (obtain ⟨_, _, _, _, _, _, _, _, _, rfl, _⟩ := h; rfl) | (obtain ⟨_, _, _, _, _, _, _, _, _, _, rfl, _⟩ := h; rfl) | (obtain ⟨_, _, _, _, _, _, _, _, _, _, _, rfl, _⟩ := h; rfl) | (obtain ⟨_, _, _, _, _, _, _, _, _, _, _, _, rfl, _⟩ := h; rfl) | (obtain ⟨_, _, _, _, _, _, _, _, _, _, _, _, _, rfl, _⟩ := h; rfl) | (obtain ⟨_, _, _, _, _, _, _, _, _, _, _, _, _, _, rfl, _⟩ := h; rfl) | (obtain ⟨_, _, _, _, _, _, _, _, _, _, _, _, _, _, _, rfl, _⟩ := h; rfl) | (split at h <;> first | rfl | exact h.elim))) (fun cdv A_ outer s H E hr => by
    have sc := sc_reduced
    exact (b_cons (s_while (passes_of rfl) (PW.pt (w_and (t_gt (av 1) a_int) (w_and1 (t_eq hr.units (a_mod (av 0) a_int) a_int)))) (b_cons (s_set (i := 0) sc.nd (a_div (av 0) a_int)) (b_one (s_set (i := 1) sc.nd (a_sub (av 1) a_int))))) (b_one (s_ret (a_tup (g_cons (av 0) (g_cons (av 1) g_nil))))))) (rd_reduced G)
theorem ok_is_integer {G : Gx} {mg : Str → Option Value} {A : Ad} {base : Heap} (T : Txt G mg A) : FnOk G.k.P G.k.w G.k.K mg base (L2N.CX G.k.P G.k.w) 1 A.f_is_integer A.fd_is_integer ["thing"] (liftSp G.k (sp_is_integer G)) :=
  fun_ok (k := 0) (tb := tb_is_integer G) T.F_is_integer sc_is_integer (by intro ds L Q R h; unfold sp_is_integer at h; first | (rcases h with h | h <;> (first | (obtain ⟨rfl, _⟩ := h; rfl) | (obtain ⟨_, _, _, rfl, _, _, rfl, _⟩ := h; rfl) | (obtain ⟨_, _, _, rfl, _, _, _, rfl, _⟩ := h; rfl) | (obtain ⟨_, rfl, _⟩ := h; rfl) | (obtain ⟨_, _, rfl, _⟩ := h; rfl) | (obtain ⟨_, _, _, rfl, _⟩ := h; rfl) | (obtain ⟨_, _, _, _, rfl, _⟩ := h; rfl) | (obtain ⟨_, _, _, _, _, rfl, _⟩ := h; rfl) | (obtain ⟨_, _, _, _, _, _, rfl, _⟩ := h; rfl) | (obtain ⟨_, _, _, _, _, _, _, rfl, _⟩ := h; rfl) | (obtain ⟨_, _, _, _, _, _, _, _, rfl, _⟩ := h; rfl) | (obtain ⟨_, _, _, _, _, _, _, _, _, rfl, _⟩ := h; rfl) | (obtain ⟨_, _, _, _, _, _, _, _, _, _, rfl, _⟩ := h; rfl) | (obtain ⟨_, _, _, _, _, _, _, _, _, _, _, rfl, _⟩ := h; rfl) | (obtain ⟨_, _, _, _, _, _, _, _, _, _, _, _, rfl, _⟩ := h; rfl) | (obtain ⟨_, _, _, _, _, _, _, _, _, _, _, _, _, rfl, _⟩ := h; rfl) | (obtain ⟨_, _, _, _, _, _, _, _, _, _, _, _, _, _, rfl, _⟩ := h; rfl) | (obtain ⟨_, _, _, _, _, _, _, _, _, _, _, _, _, _, _, rfl, _⟩ := h; rfl) | (split at h <;> first | rfl | exact h.elim)); done) | (first | (obtain ⟨rfl, _⟩ := h; rfl) | (obtain ⟨_, _, _, rfl, _, _, rfl, _⟩ := h; rfl) | (obtain ⟨_, _, _, rfl, _, _, _, rfl, _⟩ := h; rfl) | (obtain ⟨_, rfl, _⟩ := h; rfl) | (obtain ⟨_, _, rfl, _⟩ := h; rfl) | (obtain ⟨_, _, _, rfl, _⟩ := h; rfl) | (obtain ⟨_, _, _, _, rfl, _⟩ := h; rfl) | (obtain ⟨_, _, _, _, _, rfl, _⟩ := h; rfl) | (obtain ⟨_, _, _, _, _, _, rfl, _⟩ := h; rfl) | (obtain ⟨_, _, _, _, _, _, _, rfl, _⟩ := h; rfl) | (obtain ⟨_, _, _, _, _, _, _, _, rfl, _⟩ := h; rfl) | (obtain ⟨_, _, _, _, _, _, _, _, _, rfl, _⟩ := h; rfl) | (obtain ⟨_, _, _, _, _, _, _, _, _, _, rfl, _⟩ := h; rfl) | (obtain ⟨_, _, _, _, _, _, _, _, _, _, _, rfl, _⟩ := h; rfl) | (obtain ⟨_, _, _, _, _, _, _, _, _, _, _, _, rfl, _⟩ := h; rfl) | (obtain ⟨_, _, _, _, _, _, _, _, _, _, _, _, _, rfl, _⟩ := h; rfl) | (obtain ⟨_, _, _, _, _, _, _, _, _, _, _, _, _, _, rfl, _⟩ := h; rfl) | (obtain ⟨_, _, _, _, _, _, _, _, _, _, _, _, _, _, _, rfl, _⟩ := h; rfl) | (split at h <;> first | rfl | exact h.elim))) (fun cdv A_ outer s H E hr => by
    have sc := sc_is_integer
    exact (b_one (s_ret (a_and (a_isi rfl T.n_isinstance (g_cons (av 0) (g_cons (a_bltn rfl T.n_int (by decide +kernel)) g_nil))) (a_one (a_notB (a_isi rfl T.n_isinstance (g_cons (av 0) (g_cons (a_bltn rfl T.n_bool (by decide +kernel)) g_nil))))))))) (rd_is_integer G)
theorem ok_Dyadic_init {G : Gx} {mg : Str → Option Value} {A : Ad} {base : Heap} (T : Txt G mg A) : FnOk G.k.P G.k.w G.k.K mg base (L2N.CX G.k.P G.k.w) 2 A.f_Dyadic_init A.fd_Dyadic_init ["self", "top", "power"] (liftSp G.k (sp_Dyadic_init G)) :=
  fun_okD (k := 1) (tb := tb_Dyadic_init G) T.F_Dyadic_init sc_Dyadic_init (by intro ds L Q R h; unfold sp_Dyadic_init at h; first | (rcases h with h | h <;> (first | (obtain ⟨rfl, _⟩ := h; rfl) | (obtain ⟨_, _, _, rfl, _, _, rfl, _⟩ := h; rfl) | (obtain ⟨_, _, _, rfl, _, _, _, rfl, _⟩ := h; rfl) | (obtain ⟨_, rfl, _⟩ := h; rfl) | (obtain ⟨_, _, rfl, _⟩ := h; rfl) | (obtain ⟨_, _, _, rfl, _⟩ := h; rfl) | (obtain ⟨_, _, _, _, rfl, _⟩ := h; rfl) | (obtain ⟨_, _, _, _, _, rfl, _⟩ := h; rfl) | (obtain ⟨_, _, _, _, _, _, rfl, _⟩ := h; rfl) | (obtain ⟨_, _, _, _, _, _, _, rfl, _⟩ := h; rfl) | (obtain ⟨_, _, _, _, _, _, _, _, rfl, _⟩ := h; rfl) | (obtain ⟨_, _, _, _, _, _, _, _, _, rfl, _⟩ := h; rfl) | (obtain ⟨_, _, _, _, _, _, _, _, _, _, rfl, _⟩ := h; rfl) | (obtain ⟨_, _, _, _, _, _, _, _, _, _, _, rfl, _⟩ := h; rfl) | (obtain ⟨_, _, _, _, _, _, _, _, _, _, _, _, rfl, _⟩ := h; rfl) | (obtain ⟨_, _, _, _, _, _, _, _, _, _, _, _, _, rfl, _⟩ := h; rfl) | (obtain ⟨_, _, _, _, _, _, _, _, _, _, _, _, _, _, rfl, _⟩ := h; rfl) | (obtain ⟨_, _, _, _, _, _, _, _, _, _, _, _, _, _, _, rfl, _⟩ := h; rfl) | (split at h <;> first | rfl | exact h.elim)); done) | (first | (obtain ⟨rfl, _⟩ := h; rfl) | (obtain ⟨_, _, _, rfl, _, _, rfl, _⟩ := h; rfl) | (obtain ⟨_, _, _, rfl, _, _, _, rfl, _⟩ := h; rfl) | (obtain ⟨_, rfl, _⟩ := h; rfl) | (obtain ⟨_, _, rfl, _⟩ := h; rfl) | (obtain ⟨_, _, _, rfl, _⟩ := h; rfl) | (obtain ⟨_, _, _, _, rfl, _⟩ := h; rfl) | (obtain ⟨_, _, _, _, _, rfl, _⟩ := h; rfl) | (obtain ⟨_, _, _, _, _, _, rfl, _⟩ := h; rfl) | (obtain ⟨_, _, _, _, _, _, _, rfl, _⟩ := h; rfl) | (obtain ⟨_, _, _, _, _, _, _, _, rfl, _⟩ := h; rfl) | (obtain ⟨_, _, _, _, _, _, _, _, _, rfl, _⟩ := h; rfl) | (obtain ⟨_, _, _, _, _, _, _, _, _, _, rfl, _⟩ := h; rfl) | (obtain ⟨_, _, _, _, _, _, _, _, _, _, _, rfl, _⟩ := h; rfl) | (obtain ⟨_, _, _, _, _, _, _, _, _, _, _, _, rfl, _⟩ := h; rfl) | (obtain ⟨_, _, _, _, _, _, _, _, _, _, _, _, _, rfl, _⟩ := h; rfl) | (obtain ⟨_, _, _, _, _, _, _, _, _, _, _, _, _, _, rfl, _⟩ := h; rfl) | (obtain ⟨_, _, _, _, _, _, _, _, _, _, _, _, _, _, _, rfl, _⟩ := h; rfl) | (split at h <;> first | rfl | exact h.elim))) (fun cdv A_ outer s H E hr => by
    have sc := sc_Dyadic_init
    exact (b_cons (s_if (PW.pt (w_or (t_not (t_tru (a_call (ok_is_integer T) (hr.mono (by decide)) rfl T.m_is_integer T.F_is_integer.kp T.b_is_integer .nil (fun _ => .nil) (L2N.takes_of rfl rfl rfl rfl) (args1 (g_cons (av 1) g_nil))))) (w_or1 (t_not (t_leLe (a_neg (a_glob rfl T.g_TOP_MOST.choose_spec rel_int (fun _ => .int _))) (av 1) (a_glob rfl T.g_TOP_MOST.choose_spec rel_int (fun _ => .int _))))))) (b_one (s_raise rfl (L2N.takes_of rfl rfl rfl rfl) PySem.F.excBase_ValueError T.x_BadValue T.g_BadValue T.k_BadValue (raises_own T.eb_BadValue T.et_BadValue) rfl)) b_nil) (b_cons (s_if (PW.pt (w_or (t_not (t_tru (a_call (ok_is_integer T) (hr.mono (by decide)) rfl T.m_is_integer T.F_is_integer.kp T.b_is_integer .nil (fun _ => .nil) (L2N.takes_of rfl rfl rfl rfl) (args1 (g_cons (av 2) g_nil))))) (w_or1 (t_not (t_leLe a_int (av 2) (a_glob rfl T.g_POWER_MOST.choose_spec rel_int (fun _ => .int _))))))) (b_one (s_raise rfl (L2N.takes_of rfl rfl rfl rfl) PySem.F.excBase_ValueError T.x_BadValue T.g_BadValue T.k_BadValue (raises_own T.eb_BadValue T.et_BadValue) rfl)) b_nil) (b_cons (s_set (i := 3) sc.nd (a_call (ok_reduced T) (hr.mono (by decide)) rfl T.m_reduced T.F_reduced.kp T.b_reduced .nil (fun _ => .nil) (L2N.takes_of rfl rfl rfl rfl) (args1 (g_cons (av 1) (g_cons (av 2) g_nil))))) (b_cons (s_fnew (av 0) (a_item (av 3) a_int) T.no_Dyadic__top) (b_one (s_fnew (av 0) (a_item (av 3) a_int) T.no_Dyadic__power))))))) (rd_Dyadic_init G)
theorem ok_Dyadic_add {G : Gx} {mg : Str → Option Value} {A : Ad} {base : Heap} (T : Txt G mg A) : FnOk G.k.P G.k.w G.k.K mg base (L2N.CX G.k.P G.k.w) 4 A.f_Dyadic_add A.fd_Dyadic_add ["self", "other"] (liftSp G.k (sp_Dyadic_add G)) :=
  fun_ok (k := 3) (tb := tb_Dyadic_add G) T.F_Dyadic_add sc_Dyadic_add (by intro ds L Q R h; unfold sp_Dyadic_add at h; first | (rcases h with h | h <;> (first | (obtain ⟨rfl, _⟩ := h; rfl) | (obtain ⟨_, _, _, rfl, _, _, rfl, _⟩ := h; rfl) | (obtain ⟨_, _, _, rfl, _, _, _, rfl, _⟩ := h; rfl) | (obtain ⟨_, rfl, _⟩ := h; rfl) | (obtain ⟨_, _, rfl, _⟩ := h; rfl) | (obtain ⟨_, _, _, rfl, _⟩ := h; rfl) | (obtain ⟨_, _, _, _, rfl, _⟩ := h; rfl) | (obtain ⟨_, _, _, _, _, rfl, _⟩ := h; rfl) | (obtain ⟨_, _, _, _, _, _, rfl, _⟩ := h; rfl) | (obtain ⟨_, _, _, _, _, _, _, rfl, _⟩ := h; rfl) | (obtain ⟨_, _, _, _, _, _, _, _, rfl, _⟩ := h; rfl) | (obtain ⟨_, _, _, _, _, _, _, _, _, rfl, _⟩ := h; rfl) | (obtain ⟨_, _, _, _, _, _, _, _, _, _, rfl, _⟩ := h; rfl) | (obtain ⟨_, _, _, _, _, _, _, _, _, _, _, rfl, _⟩ := h; rfl) | (obtain ⟨_, _, _, _, _, _, _, _, _, _, _, _, rfl, _⟩ := h; rfl) | (obtain ⟨_, _, _, _, _, _, _, _, _, _, _, _, _, rfl, _⟩ := h; rfl) | (obtain ⟨_, _, _, _, _, _, _, _, _, _, _, _, _, _, rfl, _⟩ := h; rfl) | (obtain ⟨_, _, _, _, _, _, _, _, _, _, _, _, _, _, _, rfl, _⟩ := h; rfl) | (split at h <;> first | rfl | exact h.elim)); done) | (first | (obtain ⟨rfl, _⟩ := h; rfl) | (obtain ⟨_, _, _, rfl, _, _, rfl, _⟩ := h; rfl) | (obtain ⟨_, _, _, rfl, _, _, _, rfl, _⟩ := h; rfl) | (obtain ⟨_, rfl, _⟩ := h; rfl) | (obtain ⟨_, _, rfl, _⟩ := h; rfl) | (obtain ⟨_, _, _, rfl, _⟩ := h; rfl) | (obtain ⟨_, _, _, _, rfl, _⟩ := h; rfl) | (obtain ⟨_, _, _, _, _, rfl, _⟩ := h; rfl) | (obtain ⟨_, _, _, _, _, _, rfl, _⟩ := h; rfl) | (obtain ⟨_, _, _, _, _, _, _, rfl, _⟩ := h; rfl) | (obtain ⟨_, _, _, _, _, _, _, _, rfl, _⟩ := h; rfl) | (obtain ⟨_, _, _, _, _, _, _, _, _, rfl, _⟩ := h; rfl) | (obtain ⟨_, _, _, _, _, _, _, _, _, _, rfl, _⟩ := h; rfl) | (obtain ⟨_, _, _, _, _, _, _, _, _, _, _, rfl, _⟩ := h; rfl) | (obtain ⟨_, _, _, _, _, _, _, _, _, _, _, _, rfl, _⟩ := h; rfl) | (obtain ⟨_, _, _, _, _, _, _, _, _, _, _, _, _, rfl, _⟩ := h; rfl) | (obtain ⟨_, _, _, _, _, _, _, _, _, _, _, _, _, _, rfl, _⟩ := h; rfl) | (obtain ⟨_, _, _, _, _, _, _, _, _, _, _, _, _, _, _, rfl, _⟩ := h; rfl) | (split at h <;> first | rfl | exact h.elim))) (fun cdv A_ outer s H E hr => by
    have sc := sc_Dyadic_add
    exact (b_cons (s_set (i := 2) sc.nd (a_max2 rfl rfl T.n_max (g_cons (a_fld 1 (av 0)) (g_cons (a_prop (av 1) T.cl_Dyadic T.P_Dyadic_power (ok_Dyadic_power T) (hr.mono (by decide)) T.b_Dyadic_power) g_nil)))) (b_cons (s_set (i := 3) sc.nd (a_add (a_shl (a_fld 0 (av 0)) (a_sub (av 2) (a_fld 1 (av 0)))) (a_shl (a_prop (av 1) T.cl_Dyadic T.P_Dyadic_top (ok_Dyadic_top T) (hr.mono (by decide)) T.b_Dyadic_top) (a_sub (av 2) (a_prop (av 1) T.cl_Dyadic T.P_Dyadic_power (ok_Dyadic_power T) (hr.mono (by decide)) T.b_Dyadic_power))))) (b_cons (s_set (i := 4) sc.nd (a_call (ok_reduced T) (hr.mono (by decide)) rfl T.m_reduced T.F_reduced.kp T.b_reduced .nil (fun _ => .nil) (L2N.takes_of rfl rfl rfl rfl) (args1 (g_cons (av 3) (g_cons (av 2) g_nil))))) (b_one (s_ret (a_make T.mk_Dyadic T.fo_Dyadic (ok_Dyadic_init T) (mkok2_Dyadic_init G) (hr.mono (by decide)) rfl T.g_Dyadic T.b2_Dyadic_init.choose_spec.2 T.b2_Dyadic_init.choose_spec.1 (fun _ => .nil) (L2N.takes_of rfl rfl rfl rfl) (args1 (g_cons (a_item (av 4) a_int) (g_cons (a_item (av 4) a_int) g_nil)))))))))) (rd_Dyadic_add G)
theorem ok_Dyadic_neg {G : Gx} {mg : Str → Option Value} {A : Ad} {base : Heap} (T : Txt G mg A) : FnOk G.k.P G.k.w G.k.K mg base (L2N.CX G.k.P G.k.w) 4 A.f_Dyadic_neg A.fd_Dyadic_neg ["self"] (liftSp G.k (sp_Dyadic_neg G)) :=
  fun_ok (k := 3) (tb := tb_Dyadic_neg G) T.F_Dyadic_neg sc_Dyadic_neg (by intro ds L Q R h; unfold sp_Dyadic_neg at h; first | (rcases h with h | h <;> (first | (obtain ⟨rfl, _⟩ := h; rfl) | (obtain ⟨_, _, _, rfl, _, _, rfl, _⟩ := h; rfl) | (obtain ⟨_, _, _, rfl, _, _, _, rfl, _⟩ := h; rfl) | (obtain ⟨_, rfl, _⟩ := h; rfl) | (obtain ⟨_, _, rfl, _⟩ := h; rfl) | (obtain ⟨_, _, _, rfl, _⟩ := h; rfl) | (obtain ⟨_, _, _, _, rfl, _⟩ := h; rfl) | (obtain ⟨_, _, _, _, _, rfl, _⟩ := h; rfl) | (obtain ⟨_, _, _, _, _, _, rfl, _⟩ := h; rfl) | (obtain ⟨_, _, _, _, _, _, _, rfl, _⟩ := h; rfl) | (obtain ⟨_, _, _, _, _, _, _, _, rfl, _⟩ := h; rfl) | (obtain ⟨_, _, _, _, _, _, _, _, _, rfl, _⟩ := h; rfl) | (obtain ⟨_, _, _, _, _, _, _, _, _, _, rfl, _⟩ := h; rfl) | (obtain ⟨_, _, _, _, _, _, _, _, _, _, _, rfl, _⟩ := h; rfl) | (obtain ⟨_, _, _, _, _, _, _, _, _, _, _, _, rfl, _⟩ := h; rfl) | (obtain ⟨_, _, _, _, _, _, _, _, _, _, _, _, _, rfl, _⟩ := h; rfl) | (obtain ⟨_, _, _, _, _, _, _, _, _, _, _, _, _, _, rfl, _⟩ := h; rfl) | (obtain ⟨_, _, _, _, _, _, _, _, _, _, _, _, _, _, _, rfl, _⟩ := h; rfl) | (split at h <;> first | rfl | exact h.elim)); done) | (first | (obtain ⟨rfl, _⟩ := h; rfl) | (obtain ⟨_, _, _, rfl, _, _, rfl, _⟩ := h; rfl) | (obtain ⟨_, _, _, rfl, _, _, _, rfl, _⟩ := h; rfl) | (obtain ⟨_, rfl, _⟩ := h; rfl) | (obtain ⟨_, _, rfl, _⟩ := h; rfl) | (obtain ⟨_, _, _, rfl, _⟩ := h; rfl) | (obtain ⟨_, _, _, _, rfl, _⟩ := h; rfl) | (obtain ⟨_, _, _, _, _, rfl, _⟩ := h; rfl) | (obtain ⟨_, _, _, _, _, _, rfl, _⟩ := h; rfl) | (obtain ⟨_, _, _, _, _, _, _, rfl, _⟩ := h; rfl) | (obtain ⟨_, _, _, _, _, _, _, _, rfl, _⟩ := h; rfl) | (obtain ⟨_, _, _, _, _, _, _, _, _, rfl, _⟩ := h; rfl) | (obtain ⟨_, _, _, _, _, _, _, _, _, _, rfl, _⟩ := h; rfl) | (obtain ⟨_, _, _, _, _, _, _, _, _, _, _, rfl, _⟩ := h; rfl) | (obtain ⟨_, _, _, _, _, _, _, _, _, _, _, _, rfl, _⟩ := h; rfl) | (obtain ⟨_, _, _, _, _, _, _, _, _, _, _, _, _, rfl, _⟩ := h; rfl) | (obtain ⟨_, _, _, _, _, _, _, _, _, _, _, _, _, _, rfl, _⟩ := h; rfl) | (obtain ⟨_, _, _, _, _, _, _, _, _, _, _, _, _, _, _, rfl, _⟩ := h; rfl) | (split at h <;> first | rfl | exact h.elim))) (fun cdv A_ outer s H E hr => by
    have sc := sc_Dyadic_neg
    exact (b_one (s_ret (a_make T.mk_Dyadic T.fo_Dyadic (ok_Dyadic_init T) (mkok2_Dyadic_init G) (hr.mono (by decide)) rfl T.g_Dyadic T.b2_Dyadic_init.choose_spec.2 T.b2_Dyadic_init.choose_spec.1 (fun _ => .nil) (L2N.takes_of rfl rfl rfl rfl) (args1 (g_cons (a_neg (a_fld 0 (av 0))) (g_cons (a_fld 1 (av 0)) g_nil))))))) (rd_Dyadic_neg G)
theorem ok_Dyadic_sub {G : Gx} {mg : Str → Option Value} {A : Ad} {base : Heap} (T : Txt G mg A) : FnOk G.k.P G.k.w G.k.K mg base (L2N.CX G.k.P G.k.w) 5 A.f_Dyadic_sub A.fd_Dyadic_sub ["self", "other"] (liftSp G.k (sp_Dyadic_sub G)) :=
  fun_ok (k := 4) (tb := tb_Dyadic_sub G) T.F_Dyadic_sub sc_Dyadic_sub (by intro ds L Q R h; unfold sp_Dyadic_sub at h; first | (rcases h with h | h <;> (first | (obtain ⟨rfl, _⟩ := h; rfl) | (obtain ⟨_, _, _, rfl, _, _, rfl, _⟩ := h; rfl) | (obtain ⟨_, _, _, rfl, _, _, _, rfl, _⟩ := h; rfl) | (obtain ⟨_, rfl, _⟩ := h; rfl) | (obtain ⟨_, _, rfl, _⟩ := h; rfl) | (obtain ⟨_, _, _, rfl, _⟩ := h; rfl) | (obtain ⟨_, _, _, _, rfl, _⟩ := h; rfl) | (obtain ⟨_, _, _, _, _, rfl, _⟩ := h; rfl) | (obtain ⟨_, _, _, _, _, _, rfl, _⟩ := h; rfl) | (obtain ⟨_, _, _, _, _, _, _, rfl, _⟩ := h; rfl) | (obtain ⟨_, _, _, _, _, _, _, _, rfl, _⟩ := h; rfl) | (obtain ⟨_, _, _, _, _, _, _, _, _, rfl, _⟩ := h; rfl) | (obtain ⟨_, _, _, _, _, _, _, _, _, _, rfl, _⟩ := h; rfl) | (obtain ⟨_, _, _, _, _, _, _, _, _, _, _, rfl, _⟩ := h; rfl) | (obtain ⟨_, _, _, _, _, _, _, _, _, _, _, _, rfl, _⟩ := h; rfl) | (obtain ⟨_, _, _, _, _, _, _, _, _, _, _, _, _, rfl, _⟩ := h; rfl) | (obtain ⟨_, _, _, _, _, _, _, _, _, _, _, _, _, _, rfl, _⟩ := h; rfl) | (obtain ⟨_, _, _, _, _, _, _, _, _, _, _, _, _, _, _, rfl, _⟩ := h; rfl) | (split at h <;> first | rfl | exact h.elim)); done) | (first | (obtain ⟨rfl, _⟩ := h; rfl) | (obtain ⟨_, _, _, rfl, _, _, rfl, _⟩ := h; rfl) | (obtain ⟨_, _, _, rfl, _, _, _, rfl, _⟩ := h; rfl) | (obtain ⟨_, rfl, _⟩ := h; rfl) | (obtain ⟨_, _, rfl, _⟩ := h; rfl) | (obtain ⟨_, _, _, rfl, _⟩ := h; rfl) | (obtain ⟨_, _, _, _, rfl, _⟩ := h; rfl) | (obtain ⟨_, _, _, _, _, rfl, _⟩ := h; rfl) | (obtain ⟨_, _, _, _, _, _, rfl, _⟩ := h; rfl) | (obtain ⟨_, _, _, _, _, _, _, rfl, _⟩ := h; rfl) | (obtain ⟨_, _, _, _, _, _, _, _, rfl, _⟩ := h; rfl) | (obtain ⟨_, _, _, _, _, _, _, _, _, rfl, _⟩ := h; rfl) | (obtain ⟨_, _, _, _, _, _, _, _, _, _, rfl, _⟩ := h; rfl) | (obtain ⟨_, _, _, _, _, _, _, _, _, _, _, rfl, _⟩ := h; rfl) | (obtain ⟨_, _, _, _, _, _, _, _, _, _, _, _, rfl, _⟩ := h; rfl) | (obtain ⟨_, _, _, _, _, _, _, _, _, _, _, _, _, rfl, _⟩ := h; rfl) | (obtain ⟨_, _, _, _, _, _, _, _, _, _, _, _, _, _, rfl, _⟩ := h; rfl) | (obtain ⟨_, _, _, _, _, _, _, _, _, _, _, _, _, _, _, rfl, _⟩ := h; rfl) | (split at h <;> first | rfl | exact h.elim))) (fun cdv A_ outer s H E hr => by
    have sc := sc_Dyadic_sub
    exact (b_one (s_ret (a_opM (av 0) (a_unM (av 1) T.Mt_Dyadic_neg (ok_Dyadic_neg T) (hr.mono (by decide)) T.b_Dyadic_neg (L2N.takes_of rfl rfl rfl rfl)) T.sf_Dyadic T.Mt_Dyadic_add (ok_Dyadic_add T) (hr.mono (by decide)) T.b_Dyadic_add (L2N.takes_of rfl rfl rfl rfl))))) (rd_Dyadic_sub G)
theorem ok_Dyadic_same {G : Gx} {mg : Str → Option Value} {A : Ad} {base : Heap} (T : Txt G mg A) : FnOk G.k.P G.k.w G.k.K mg base (L2N.CX G.k.P G.k.w) 3 A.f_Dyadic_same A.fd_Dyadic_same ["self", "other"] (liftSp G.k (sp_Dyadic_same G)) :=
  fun_ok (k := 2) (tb := tb_Dyadic_same G) T.F_Dyadic_same sc_Dyadic_same (by intro ds L Q R h; unfold sp_Dyadic_same at h; first | (rcases h with h | h <;> (first | (obtain ⟨rfl, _⟩ := h; rfl) | (obtain ⟨_, _, _, rfl, _, _, rfl, _⟩ := h; rfl) | (obtain ⟨_, _, _, rfl, _, _, _, rfl, _⟩ := h; rfl) | (obtain ⟨_, rfl, _⟩ := h; rfl) | (obtain ⟨_, _, rfl, _⟩ := h; rfl) | (obtain ⟨_, _, _, rfl, _⟩ := h; rfl) | (obtain ⟨_, _, _, _, rfl, _⟩ := h; rfl) | (obtain ⟨_, _, _, _, _, rfl, _⟩ := h; rfl) | (obtain ⟨_, _, _, _, _, _, rfl, _⟩ := h; rfl) | (obtain ⟨_, _, _, _, _, _, _, rfl, _⟩ := h; rfl) | (obtain ⟨_, _, _, _, _, _, _, _, rfl, _⟩ := h; rfl) | (obtain ⟨_, _, _, _, _, _, _, _, _, rfl, _⟩ := h; rfl) | (obtain ⟨_, _, _, _, _, _, _, _, _, _, rfl, _⟩ := h; rfl) | (obtain ⟨_, _, _, _, _, _, _, _, _, _, _, rfl, _⟩ := h; rfl) | (obtain ⟨_, _, _, _, _, _, _, _, _, _, _, _, rfl, _⟩ := h; rfl) | (obtain ⟨_, _, _, _, _, _, _, _, _, _, _, _, _, rfl, _⟩ := h; rfl) | (obtain ⟨_, _, _, _, _, _, _, _, _, _, _, _, _, _, rfl, _⟩ := h; rfl) | (obtain ⟨_, _, _, _, _, _, _, _, _, _, _, _, _, _, _, rfl, _⟩ := h; rfl) | (split at h <;> first | rfl | exact h.elim)); done) | (first | (obtain ⟨rfl, _⟩ := h; rfl) | (obtain ⟨_, _, _, rfl, _, _, rfl, _⟩ := h; rfl) | (obtain ⟨_, _, _, rfl, _, _, _, rfl, _⟩ := h; rfl) | (obtain ⟨_, rfl, _⟩ := h; rfl) | (obtain ⟨_, _, rfl, _⟩ := h; rfl) | (obtain ⟨_, _, _, rfl, _⟩ := h; rfl) | (obtain ⟨_, _, _, _, rfl, _⟩ := h; rfl) | (obtain ⟨_, _, _, _, _, rfl, _⟩ := h; rfl) | (obtain ⟨_, _, _, _, _, _, rfl, _⟩ := h; rfl) | (obtain ⟨_, _, _, _, _, _, _, rfl, _⟩ := h; rfl) | (obtain ⟨_, _, _, _, _, _, _, _, rfl, _⟩ := h; rfl) | (obtain ⟨_, _, _, _, _, _, _, _, _, rfl, _⟩ := h; rfl) | (obtain ⟨_, _, _, _, _, _, _, _, _, _, rfl, _⟩ := h; rfl) | (obtain ⟨_, _, _, _, _, _, _, _, _, _, _, rfl, _⟩ := h; rfl) | (obtain ⟨_, _, _, _, _, _, _, _, _, _, _, _, rfl, _⟩ := h; rfl) | (obtain ⟨_, _, _, _, _, _, _, _, _, _, _, _, _, rfl, _⟩ := h; rfl) | (obtain ⟨_, _, _, _, _, _, _, _, _, _, _, _, _, _, rfl, _⟩ := h; rfl) | (obtain ⟨_, _, _, _, _, _, _, _, _, _, _, _, _, _, _, rfl, _⟩ := h; rfl) | (split at h <;> first | rfl | exact h.elim))) (fun cdv A_ outer s H E hr => by
    have sc := sc_Dyadic_same
    exact (b_one (s_ret (a_and (a_eq hr.units (a_fld 0 (av 0)) (a_prop (av 1) T.cl_Dyadic T.P_Dyadic_top (ok_Dyadic_top T) (hr.mono (by decide)) T.b_Dyadic_top)) (a_one (a_eq hr.units (a_fld 1 (av 0)) (a_prop (av 1) T.cl_Dyadic T.P_Dyadic_power (ok_Dyadic_power T) (hr.mono (by decide)) T.b_Dyadic_power))))))) (rd_Dyadic_same G)
theorem ok_times {G : Gx} {mg : Str → Option Value} {A : Ad} {base : Heap} (T : Txt G mg A) : FnOk G.k.P G.k.w G.k.K mg base (L2N.CX G.k.P G.k.w) 5 A.f_times A.fd_times ["number", "slope"] (liftSp G.k (sp_times G)) :=
  fun_ok (k := 4) (tb := tb_times G) T.F_times sc_times (by intro ds L Q R h; unfold sp_times at h; first | (rcases h with h | h <;> (first | (obtain ⟨rfl, _⟩ := h; rfl) | (obtain ⟨_, _, _, rfl, _, _, rfl, _⟩ := h; rfl) | (obtain ⟨_, _, _, rfl, _, _, _, rfl, _⟩ := h; rfl) | (obtain ⟨_, rfl, _⟩ := h; rfl) | (obtain ⟨_, _, rfl, _⟩ := h; rfl) | (obtain ⟨_, _, _, rfl, _⟩ := h; rfl) | (obtain ⟨_, _, _, _, rfl, _⟩ := h; rfl) | (obtain ⟨_, _, _, _, _, rfl, _⟩ := h; rfl) | (obtain ⟨_, _, _, _, _, _, rfl, _⟩ := h; rfl) | (obtain ⟨_, _, _, _, _, _, _, rfl, _⟩ := h; rfl) | (obtain ⟨_, _, _, _, _, _, _, _, rfl, _⟩ := h; rfl) | (obtain ⟨_, _, _, _, _, _, _, _, _, rfl, _⟩ := h; rfl) | (obtain ⟨_, _, _, _, _, _, _, _, _, _, rfl, _⟩ := h; rfl) | (obtain ⟨_, _, _, _, _, _, _, _, _, _, _, rfl, _⟩ := h; rfl) | (obtain ⟨_, _, _, _, _, _, _, _, _, _, _, _, rfl, _⟩ := h; rfl) | (obtain ⟨_, _, _, _, _, _, _, _, _, _, _, _, _, rfl, _⟩ := h; rfl) | (obtain ⟨_, _, _, _, _, _, _, _, _, _, _, _, _, _, rfl, _⟩ := h; rfl) | (obtain ⟨_, _, _, _, _, _, _, _, _, _, _, _, _, _, _, rfl, _⟩ := h; rfl) | (split at h <;> first | rfl | exact h.elim)); done) | (first | (obtain ⟨rfl, _⟩ := h; rfl) | (obtain ⟨_, _, _, rfl, _, _, rfl, _⟩ := h; rfl) | (obtain ⟨_, _, _, rfl, _, _, _, rfl, _⟩ := h; rfl) | (obtain ⟨_, rfl, _⟩ := h; rfl) | (obtain ⟨_, _, rfl, _⟩ := h; rfl) | (obtain ⟨_, _, _, rfl, _⟩ := h; rfl) | (obtain ⟨_, _, _, _, rfl, _⟩ := h; rfl) | (obtain ⟨_, _, _, _, _, rfl, _⟩ := h; rfl) | (obtain ⟨_, _, _, _, _, _, rfl, _⟩ := h; rfl) | (obtain ⟨_, _, _, _, _, _, _, rfl, _⟩ := h; rfl) | (obtain ⟨_, _, _, _, _, _, _, _, rfl, _⟩ := h; rfl) | (obtain ⟨_, _, _, _, _, _, _, _, _, rfl, _⟩ := h; rfl) | (obtain ⟨_, _, _, _, _, _, _, _, _, _, rfl, _⟩ := h; rfl) | (obtain ⟨_, _, _, _, _, _, _, _, _, _, _, rfl, _⟩ := h; rfl) | (obtain ⟨_, _, _, _, _, _, _, _, _, _, _, _, rfl, _⟩ := h; rfl) | (obtain ⟨_, _, _, _, _, _, _, _, _, _, _, _, _, rfl, _⟩ := h; rfl) | (obtain ⟨_, _, _, _, _, _, _, _, _, _, _, _, _, _, rfl, _⟩ := h; rfl) | (obtain ⟨_, _, _, _, _, _, _, _, _, _, _, _, _, _, _, rfl, _⟩ := h; rfl) | (split at h <;> first | rfl | exact h.elim))) (fun cdv A_ outer s H E hr => by
    have sc := sc_times
    exact (b_cons (s_if (t_lt (av 1) a_int) (b_one (s_ret (a_unM (av 0) T.Mt_Dyadic_neg (ok_Dyadic_neg T) (hr.mono (by decide)) T.b_Dyadic_neg (L2N.takes_of rfl rfl rfl rfl)))) b_nil) (b_cons (s_if (t_gt (av 1) a_int) (b_one (s_ret (av 0))) b_nil) (b_one (s_ret (a_make T.mk_Dyadic T.fo_Dyadic (ok_Dyadic_init T) (mkok1_Dyadic_init G) (hr.mono (by decide)) rfl T.g_Dyadic T.b1_Dyadic_init.choose_spec.2 T.b1_Dyadic_init.choose_spec.1 (fun _ => dflt_Dyadic_init _) (L2N.takes_of rfl rfl rfl rfl) (args1 (g_cons a_int g_nil)))))))) (rd_times G)
theorem ok_slope_between {G : Gx} {mg : Str → Option Value} {A : Ad} {base : Heap} (T : Txt G mg A) : FnOk G.k.P G.k.w G.k.K mg base (L2N.CX G.k.P G.k.w) 6 A.f_slope_between A.fd_slope_between ["one", "other"] (liftSp G.k (sp_slope_between G)) :=
  fun_ok (k := 5) (tb := tb_slope_between G) T.F_slope_between sc_slope_between (by intro ds L Q R h; unfold sp_slope_between at h; first | (rcases h with h | h <;> (first | (obtain ⟨rfl, _⟩ := h; rfl) | (obtain ⟨_, _, _, rfl, _, _, rfl, _⟩ := h; rfl) | (obtain ⟨_, _, _, rfl, _, _, _, rfl, _⟩ := h; rfl) | (obtain ⟨_, rfl, _⟩ := h; rfl) | (obtain ⟨_, _, rfl, _⟩ := h; rfl) | (obtain ⟨_, _, _, rfl, _⟩ := h; rfl) | (obtain ⟨_, _, _, _, rfl, _⟩ := h; rfl) | (obtain ⟨_, _, _, _, _, rfl, _⟩ := h; rfl) | (obtain ⟨_, _, _, _, _, _, rfl, _⟩ := h; rfl) | (obtain ⟨_, _, _, _, _, _, _, rfl, _⟩ := h; rfl) | (obtain ⟨_, _, _, _, _, _, _, _, rfl, _⟩ := h; rfl) | (obtain ⟨_, _, _, _, _, _, _, _, _, rfl, _⟩ := h; rfl) | (obtain ⟨_, _, _, _, _, _, _, _, _, _, rfl, _⟩ := h; rfl) | (obtain ⟨_, _, _, _, _, _, _, _, _, _, _, rfl, _⟩ := h; rfl) | (obtain ⟨_, _, _, _, _, _, _, _, _, _, _, _, rfl, _⟩ := h; rfl) | (obtain ⟨_, _, _, _, _, _, _, _, _, _, _, _, _, rfl, _⟩ := h; rfl) | (obtain ⟨_, _, _, _, _, _, _, _, _, _, _, _, _, _, rfl, _⟩ := h; rfl) | (obtain ⟨_, _, _, _, _, _, _, _, _, _, _, _, _, _, _, rfl, _⟩ := h; rfl) | (split at h <;> first | rfl | exact h.elim)); done) | (first | (obtain ⟨rfl, _⟩ := h; rfl) | (obtain ⟨_, _, _, rfl, _, _, rfl, _⟩ := h; rfl) | (obtain ⟨_, _, _, rfl, _, _, _, rfl, _⟩ := h; rfl) | (obtain ⟨_, rfl, _⟩ := h; rfl) | (obtain ⟨_, _, rfl, _⟩ := h; rfl) | (obtain ⟨_, _, _, rfl, _⟩ := h; rfl) | (obtain ⟨_, _, _, _, rfl, _⟩ := h; rfl) | (obtain ⟨_, _, _, _, _, rfl, _⟩ := h; rfl) | (obtain ⟨_, _, _, _, _, _, rfl, _⟩ := h; rfl) | (obtain ⟨_, _, _, _, _, _, _, rfl, _⟩ := h; rfl) | (obtain ⟨_, _, _, _, _, _, _, _, rfl, _⟩ := h; rfl) | (obtain ⟨_, _, _, _, _, _, _, _, _, rfl, _⟩ := h; rfl) | (obtain ⟨_, _, _, _, _, _, _, _, _, _, rfl, _⟩ := h; rfl) | (obtain ⟨_, _, _, _, _, _, _, _, _, _, _, rfl, _⟩ := h; rfl) | (obtain ⟨_, _, _, _, _, _, _, _, _, _, _, _, rfl, _⟩ := h; rfl) | (obtain ⟨_, _, _, _, _, _, _, _, _, _, _, _, _, rfl, _⟩ := h; rfl) | (obtain ⟨_, _, _, _, _, _, _, _, _, _, _, _, _, _, rfl, _⟩ := h; rfl) | (obtain ⟨_, _, _, _, _, _, _, _, _, _, _, _, _, _, _, rfl, _⟩ := h; rfl) | (split at h <;> first | rfl | exact h.elim))) (fun cdv A_ outer s H E hr => by
    have sc := sc_slope_between
    exact (b_cons (s_set (i := 2) sc.nd (a_opM (a_item (av 1) a_int) (a_item (av 0) a_int) T.sf_Dyadic T.Mt_Dyadic_sub (ok_Dyadic_sub T) (hr.mono (by decide)) T.b_Dyadic_sub (L2N.takes_of rfl rfl rfl rfl))) (b_cons (s_set (i := 3) sc.nd (a_opM (a_item (av 1) a_int) (a_item (av 0) a_int) T.sf_Dyadic T.Mt_Dyadic_sub (ok_Dyadic_sub T) (hr.mono (by decide)) T.b_Dyadic_sub (L2N.takes_of rfl rfl rfl rfl))) (b_cons (s_for (passes_of rfl) rfl (i_seq (a_tup (g_cons (a_neg a_int) (g_cons a_int (g_cons a_int g_nil))))) (g_name 4 sc.nd) (gok_name 4) (b_one (s_if (t_tru (a_meth (av 3) T.cl_Dyadic T.Mt_Dyadic_same (ok_Dyadic_same T) (hr.mono (by decide)) T.b_Dyadic_same .nil (fun _ => .nil) (L2N.takes_of rfl rfl rfl rfl) (args1 (g_cons (a_call (ok_times T) (hr.mono (by decide)) rfl T.m_times T.F_times.kp T.b_times .nil (fun _ => .nil) (L2N.takes_of rfl rfl rfl rfl) (args1 (g_cons (av 2) (g_cons (av 4) g_nil)))) g_nil)))) (b_one (s_ret (av 4))) b_nil))) (b_one (s_raise rfl (L2N.takes_of rfl rfl rfl rfl) PySem.F.excBase_ValueError T.x_BadValue T.g_BadValue T.k_BadValue (raises_own T.eb_BadValue T.et_BadValue) rfl)))))) (rd_slope_between G)
theorem ok_Wall_init {G : Gx} {mg : Str → Option Value} {A : Ad} {base : Heap} (T : Txt G mg A) : FnOk G.k.P G.k.w G.k.K mg base (L2N.CX G.k.P G.k.w) 7 A.f_Wall_init A.fd_Wall_init ["self", "points", "slope"] (liftSp G.k (sp_Wall_init G)) :=
  fun_ok (k := 6) (tb := tb_Wall_init G) T.F_Wall_init sc_Wall_init (by intro ds L Q R h; unfold sp_Wall_init at h; first | (rcases h with h | h <;> (first | (obtain ⟨rfl, _⟩ := h; rfl) | (obtain ⟨_, _, _, rfl, _, _, rfl, _⟩ := h; rfl) | (obtain ⟨_, _, _, rfl, _, _, _, rfl, _⟩ := h; rfl) | (obtain ⟨_, rfl, _⟩ := h; rfl) | (obtain ⟨_, _, rfl, _⟩ := h; rfl) | (obtain ⟨_, _, _, rfl, _⟩ := h; rfl) | (obtain ⟨_, _, _, _, rfl, _⟩ := h; rfl) | (obtain ⟨_, _, _, _, _, rfl, _⟩ := h; rfl) | (obtain ⟨_, _, _, _, _, _, rfl, _⟩ := h; rfl) | (obtain ⟨_, _, _, _, _, _, _, rfl, _⟩ := h; rfl) | (obtain ⟨_, _, _, _, _, _, _, _, rfl, _⟩ := h; rfl) | (obtain ⟨_, _, _, _, _, _, _, _, _, rfl, _⟩ := h; rfl) | (obtain ⟨_, _, _, _, _, _, _, _, _, _, rfl, _⟩ := h; rfl) | (obtain ⟨_, _, _, _, _, _, _, _, _, _, _, rfl, _⟩ := h; rfl) | (obtain ⟨_, _, _, _, _, _, _, _, _, _, _, _, rfl, _⟩ := h; rfl) | (obtain ⟨_, _, _, _, _, _, _, _, _, _, _, _, _, rfl, _⟩ := h; rfl) | (obtain ⟨_, _, _, _, _, _, _, _, _, _, _, _, _, _, rfl, _⟩ := h; rfl) | (obtain ⟨_, _, _, _, _, _, _, _, _, _, _, _, _, _, _, rfl, _⟩ := h; rfl) | (split at h <;> first | rfl | exact h.elim)); done) | (first | (obtain ⟨rfl, _⟩ := h; rfl) | (obtain ⟨_, _, _, rfl, _, _, rfl, _⟩ := h; rfl) | (obtain ⟨_, _, _, rfl, _, _, _, rfl, _⟩ := h; rfl) | (obtain ⟨_, rfl, _⟩ := h; rfl) | (obtain ⟨_, _, rfl, _⟩ := h; rfl) | (obtain ⟨_, _, _, rfl, _⟩ := h; rfl) | (obtain ⟨_, _, _, _, rfl, _⟩ := h; rfl) | (obtain ⟨_, _, _, _, _, rfl, _⟩ := h; rfl) | (obtain ⟨_, _, _, _, _, _, rfl, _⟩ := h; rfl) | (obtain ⟨_, _, _, _, _, _, _, rfl, _⟩ := h; rfl) | (obtain ⟨_, _, _, _, _, _, _, _, rfl, _⟩ := h; rfl) | (obtain ⟨_, _, _, _, _, _, _, _, _, rfl, _⟩ := h; rfl) | (obtain ⟨_, _, _, _, _, _, _, _, _, _, rfl, _⟩ := h; rfl) | (obtain ⟨_, _, _, _, _, _, _, _, _, _, _, rfl, _⟩ := h; rfl) | (obtain ⟨_, _, _, _, _, _, _, _, _, _, _, _, rfl, _⟩ := h; rfl) | (obtain ⟨_, _, _, _, _, _, _, _, _, _, _, _, _, rfl, _⟩ := h; rfl) | (obtain ⟨_, _, _, _, _, _, _, _, _, _, _, _, _, _, rfl, _⟩ := h; rfl) | (obtain ⟨_, _, _, _, _, _, _, _, _, _, _, _, _, _, _, rfl, _⟩ := h; rfl) | (split at h <;> first | rfl | exact h.elim))) (fun cdv A_ outer s H E hr => by
    have sc := sc_Wall_init
    exact (b_cons (s_if (PW.pt (w_or (t_not (t_tru (av 1))) (w_or (t_ne hr.units (a_prop (a_item (a_item (av 1) a_int) a_int) T.cl_Dyadic T.P_Dyadic_top (ok_Dyadic_top T) (hr.mono (by decide)) T.b_Dyadic_top) a_int) (w_or1 (t_nin (av 2) (a_tup (g_cons (a_neg a_int) (g_cons a_int (g_cons a_int g_nil))))))))) (b_one (s_raise rfl (L2N.takes_of rfl rfl rfl rfl) PySem.F.excBase_ValueError T.x_BadValue T.g_BadValue T.k_BadValue (raises_own T.eb_BadValue T.et_BadValue) rfl)) b_nil) (b_cons (s_set (i := 3) sc.nd (a_lstN newR_ok g_nil)) (b_cons (s_for (passes_of rfl) rfl (i_rng2 rfl T.n_range (g_cons a_int (g_cons (a_len rfl T.n_len (g_cons (av 1) g_nil)) g_nil))) (g_name 4 sc.nd) (gok_name 4) (b_cons (s_if (t_not (t_tru (a_meth (a_item (a_item (av 1) (a_sub (av 4) a_int)) a_int) T.cl_Dyadic T.Mt_Dyadic_less (ok_Dyadic_less T) (hr.mono (by decide)) T.b_Dyadic_less .nil (fun _ => .nil) (L2N.takes_of rfl rfl rfl rfl) (args1 (g_cons (a_item (a_item (av 1) (av 4)) a_int) g_nil))))) (b_one (s_raise rfl (L2N.takes_of rfl rfl rfl rfl) PySem.F.excBase_ValueError T.x_BadValue T.g_BadValue T.k_BadValue (raises_own T.eb_BadValue T.et_BadValue) rfl)) b_nil) (b_one (s_expr (a_append (av 3) (g_cons (a_call (ok_slope_between T) (hr.mono (by decide)) rfl T.m_slope_between T.F_slope_between.kp T.b_slope_between .nil (fun _ => .nil) (L2N.takes_of rfl rfl rfl rfl) (args1 (g_cons (a_item (av 1) (a_sub (av 4) a_int)) (g_cons (a_item (av 1) (av 4)) g_nil)))) g_nil)))))) (b_cons (s_expr (a_append (av 3) (g_cons (av 2) g_nil))) (b_cons (s_fnew (av 0) (a_lstN newR_ok (g_cons (a_item (av 1) a_int) g_nil)) T.no_Wall__points) (b_cons (s_fnew (av 0) (a_lstN newR_ok (g_cons (a_item (av 3) a_int) g_nil)) T.no_Wall__slopes) (b_one (s_for (passes_of rfl) rfl (i_rng2 rfl T.n_range (g_cons a_int (g_cons (a_len rfl T.n_len (g_cons (av 1) g_nil)) g_nil))) (g_name 4 sc.nd) (gok_name 4) (b_one (s_if (t_ne hr.units (a_item (av 3) (av 4)) (a_item (av 3) (a_sub (av 4) a_int))) (b_cons (s_expr (a_append (a_fld 0 (av 0)) (g_cons (a_item (av 1) (av 4)) g_nil))) (b_one (s_expr (a_append (a_fld 1 (av 0)) (g_cons (a_item (av 3) (av 4)) g_nil))))) b_nil))))))))))) (rd_Wall_init G)
theorem ok_law_pairs_7c2080d5 {G : Gx} {mg : Str → Option Value} {A : Ad} {base : Heap} (T : Txt G mg A) : FnOk G.k.P G.k.w G.k.K mg base (L2N.CX G.k.P G.k.w) 4 A.f_law_pairs_7c2080d5 A.fd_law_pairs_7c2080d5 ["_law_points"] (liftSp G.k (sp_law_pairs_7c2080d5 G)) :=
  fun_ok (k := 3) (tb := tb_law_pairs_7c2080d5 G) T.F_law_pairs_7c2080d5 sc_law_pairs_7c2080d5 (by intro ds L Q R h; unfold sp_law_pairs_7c2080d5 at h; first | (rcases h with h | h <;> (first | (obtain ⟨rfl, _⟩ := h; rfl) | (obtain ⟨_, _, _, rfl, _, _, rfl, _⟩ := h; rfl) | (obtain ⟨_, _, _, rfl, _, _, _, rfl, _⟩ := h; rfl) | (obtain ⟨_, rfl, _⟩ := h; rfl) | (obtain ⟨_, _, rfl, _⟩ := h; rfl) | (obtain ⟨_, _, _, rfl, _⟩ := h; rfl) | (obtain ⟨_, _, _, _, rfl, _⟩ := h; rfl) | (obtain ⟨_, _, _, _, _, rfl, _⟩ := h; rfl) | (obtain ⟨_, _, _, _, _, _, rfl, _⟩ := h; rfl) | (obtain ⟨_, _, _, _, _, _, _, rfl, _⟩ := h; rfl) | (obtain ⟨_, _, _, _, _, _, _, _, rfl, _⟩ := h; rfl) | (obtain ⟨_, _, _, _, _, _, _, _, _, rfl, _⟩ := h; rfl) | (obtain ⟨_, _, _, _, _, _, _, _, _, _, rfl, _⟩ := h; rfl) | (obtain ⟨_, _, _, _, _, _, _, _, _, _, _, rfl, _⟩ := h; rfl) | (obtain ⟨_, _, _, _, _, _, _, _, _, _, _, _, rfl, _⟩ := h; rfl) | (obtain ⟨_, _, _, _, _, _, _, _, _, _, _, _, _, rfl, _⟩ := h; rfl) | (obtain ⟨_, _, _, _, _, _, _, _, _, _, _, _, _, _, rfl, _⟩ := h; rfl) | (obtain ⟨_, _, _, _, _, _, _, _, _, _, _, _, _, _, _, rfl, _⟩ := h; rfl) | (split at h <;> first | rfl | exact h.elim)); done) | (first | (obtain ⟨rfl, _⟩ := h; rfl) | (obtain ⟨_, _, _, rfl, _, _, rfl, _⟩ := h; rfl) | (obtain ⟨_, _, _, rfl, _, _, _, rfl, _⟩ := h; rfl) | (obtain ⟨_, rfl, _⟩ := h; rfl) | (obtain ⟨_, _, rfl, _⟩ := h; rfl) | (obtain ⟨_, _, _, rfl, _⟩ := h; rfl) | (obtain ⟨_, _, _, _, rfl, _⟩ := h; rfl) | (obtain ⟨_, _, _, _, _, rfl, _⟩ := h; rfl) | (obtain ⟨_, _, _, _, _, _, rfl, _⟩ := h; rfl) | (obtain ⟨_, _, _, _, _, _, _, rfl, _⟩ := h; rfl) | (obtain ⟨_, _, _, _, _, _, _, _, rfl, _⟩ := h; rfl) | (obtain ⟨_, _, _, _, _, _, _, _, _, rfl, _⟩ := h; rfl) | (obtain ⟨_, _, _, _, _, _, _, _, _, _, rfl, _⟩ := h; rfl) | (obtain ⟨_, _, _, _, _, _, _, _, _, _, _, rfl, _⟩ := h; rfl) | (obtain ⟨_, _, _, _, _, _, _, _, _, _, _, _, rfl, _⟩ := h; rfl) | (obtain ⟨_, _, _, _, _, _, _, _, _, _, _, _, _, rfl, _⟩ := h; rfl) | (obtain ⟨_, _, _, _, _, _, _, _, _, _, _, _, _, _, rfl, _⟩ := h; rfl) | (obtain ⟨_, _, _, _, _, _, _, _, _, _, _, _, _, _, _, rfl, _⟩ := h; rfl) | (split at h <;> first | rfl | exact h.elim))) (fun cdv A_ outer s H E hr => by
    have sc := sc_law_pairs_7c2080d5
    exact (b_one (s_ret (a_lcN (own := [("_law_heat", 1), ("_law_place_here", 2)]) newS_ok rfl sc.nd (i_seq (av 0)) (blkOk_by (N := ["_law_points", "_law_heat", "_law_place_here"]) (sc := defScope s_law_pairs_7c2080d5) (own := [("_law_heat", 1), ("_law_place_here", 2)]) (by decide +kernel)) (gok_tup [1, 2]) (by decide) (fun _ _ _ _ _ => (pg_tup rfl (pgs_cons (g_name 1 sc.nd) (pgs_cons (g_name 2 sc.nd) pgs_nil)))) (fun _ _ _ _ _ => t_yes) (fun _ _ _ _ _ => (a_tup (g_cons (a_make T.mk_Dyadic T.fo_Dyadic (ok_Dyadic_init T) (mkok2_Dyadic_init G) (hr.mono (by decide)) rfl T.g_Dyadic T.b2_Dyadic_init.choose_spec.2 T.b2_Dyadic_init.choose_spec.1 (fun _ => .nil) takesN (args1 (g_cons (av 1) (g_cons a_int g_nil)))) (g_cons (a_make T.mk_Dyadic T.fo_Dyadic (ok_Dyadic_init T) (mkok2_Dyadic_init G) (hr.mono (by decide)) rfl T.g_Dyadic T.b2_Dyadic_init.choose_spec.2 T.b2_Dyadic_init.choose_spec.1 (fun _ => .nil) takesN (args1 (g_cons (av 2) (g_cons a_int g_nil)))) g_nil)))))))) (rd_law_pairs_7c2080d5 G)
theorem ok_law_is_integer_fcf59962 {G : Gx} {mg : Str → Option Value} {A : Ad} {base : Heap} (T : Txt G mg A) : FnOk G.k.P G.k.w G.k.K mg base (L2N.CX G.k.P G.k.w) 1 A.f_law_is_integer_fcf59962 A.fd_law_is_integer_fcf59962 ["_law_thing"] (liftSp G.k (sp_law_is_integer_fcf59962 G)) :=
  fun_ok (k := 0) (tb := tb_law_is_integer_fcf59962 G) T.F_law_is_integer_fcf59962 sc_law_is_integer_fcf59962 (by intro ds L Q R h; unfold sp_law_is_integer_fcf59962 at h; first | (rcases h with h | h <;> (first | (obtain ⟨rfl, _⟩ := h; rfl) | (obtain ⟨_, _, _, rfl, _, _, rfl, _⟩ := h; rfl) | (obtain ⟨_, _, _, rfl, _, _, _, rfl, _⟩ := h; rfl) | (obtain ⟨_, rfl, _⟩ := h; rfl) | (obtain ⟨_, _, rfl, _⟩ := h; rfl) | (obtain ⟨_, _, _, rfl, _⟩ := h; rfl) | (obtain ⟨_, _, _, _, rfl, _⟩ := h; rfl) | (obtain ⟨_, _, _, _, _, rfl, _⟩ := h; rfl) | (obtain ⟨_, _, _, _, _, _, rfl, _⟩ := h; rfl) | (obtain ⟨_, _, _, _, _, _, _, rfl, _⟩ := h; rfl) | (obtain ⟨_, _, _, _, _, _, _, _, rfl, _⟩ := h; rfl) | (obtain ⟨_, _, _, _, _, _, _, _, _, rfl, _⟩ := h; rfl) | (obtain ⟨_, _, _, _, _, _, _, _, _, _, rfl, _⟩ := h; rfl) | (obtain ⟨_, _, _, _, _, _, _, _, _, _, _, rfl, _⟩ := h; rfl) | (obtain ⟨_, _, _, _, _, _, _, _, _, _, _, _, rfl, _⟩ := h; rfl) | (obtain ⟨_, _, _, _, _, _, _, _, _, _, _, _, _, rfl, _⟩ := h; rfl) | (obtain ⟨_, _, _, _, _, _, _, _, _, _, _, _, _, _, rfl, _⟩ := h; rfl) | (obtain ⟨_, _, _, _, _, _, _, _, _, _, _, _, _, _, _, rfl, _⟩ := h; rfl) | (split at h <;> first | rfl | exact h.elim)); done) | (first | (obtain ⟨rfl, _⟩ := h; rfl) | (obtain ⟨_, _, _, rfl, _, _, rfl, _⟩ := h; rfl) | (obtain ⟨_, _, _, rfl, _, _, _, rfl, _⟩ := h; rfl) | (obtain ⟨_, rfl, _⟩ := h; rfl) | (obtain ⟨_, _, rfl, _⟩ := h; rfl) | (obtain ⟨_, _, _, rfl, _⟩ := h; rfl) | (obtain ⟨_, _, _, _, rfl, _⟩ := h; rfl) | (obtain ⟨_, _, _, _, _, rfl, _⟩ := h; rfl) | (obtain ⟨_, _, _, _, _, _, rfl, _⟩ := h; rfl) | (obtain ⟨_, _, _, _, _, _, _, rfl, _⟩ := h; rfl) | (obtain ⟨_, _, _, _, _, _, _, _, rfl, _⟩ := h; rfl) | (obtain ⟨_, _, _, _, _, _, _, _, _, rfl, _⟩ := h; rfl) | (obtain ⟨_, _, _, _, _, _, _, _, _, _, rfl, _⟩ := h; rfl) | (obtain ⟨_, _, _, _, _, _, _, _, _, _, _, rfl, _⟩ := h; rfl) | (obtain ⟨_, _, _, _, _, _, _, _, _, _, _, _, rfl, _⟩ := h; rfl) | (obtain ⟨_, _, _, _, _, _, _, _, _, _, _, _, _, rfl, _⟩ := h; rfl) | (obtain ⟨_, _, _, _, _, _, _, _, _, _, _, _, _, _, rfl, _⟩ := h; rfl) | (obtain ⟨_, _, _, _, _, _, _, _, _, _, _, _, _, _, _, rfl, _⟩ := h; rfl) | (split at h <;> first | rfl | exact h.elim))) (fun cdv A_ outer s H E hr => by
    have sc := sc_law_is_integer_fcf59962
    exact (b_one (s_ret (a_and (a_isi rfl T.n_isinstance (g_cons (av 0) (g_cons (a_bltn rfl T.n_int (by decide +kernel)) g_nil))) (a_one (a_notB (a_isi rfl T.n_isinstance (g_cons (av 0) (g_cons (a_bltn rfl T.n_bool (by decide +kernel)) g_nil))))))))) (rd_law_is_integer_fcf59962 G)
theorem ok_law_plain_41305dcc {G : Gx} {mg : Str → Option Value} {A : Ad} {base : Heap} (T : Txt G mg A) : FnOk G.k.P G.k.w G.k.K mg base (L2N.CX G.k.P G.k.w) 1 A.f_law_plain_41305dcc A.fd_law_plain_41305dcc ["_law_top", "_law_power"] (liftSp G.k (sp_law_plain_41305dcc G)) :=
  fun_ok (k := 0) (tb := tb_law_plain_41305dcc G) T.F_law_plain_41305dcc sc_law_plain_41305dcc (by intro ds L Q R h; unfold sp_law_plain_41305dcc at h; first | (rcases h with h | h <;> (first | (obtain ⟨rfl, _⟩ := h; rfl) | (obtain ⟨_, _, _, rfl, _, _, rfl, _⟩ := h; rfl) | (obtain ⟨_, _, _, rfl, _, _, _, rfl, _⟩ := h; rfl) | (obtain ⟨_, rfl, _⟩ := h; rfl) | (obtain ⟨_, _, rfl, _⟩ := h; rfl) | (obtain ⟨_, _, _, rfl, _⟩ := h; rfl) | (obtain ⟨_, _, _, _, rfl, _⟩ := h; rfl) | (obtain ⟨_, _, _, _, _, rfl, _⟩ := h; rfl) | (obtain ⟨_, _, _, _, _, _, rfl, _⟩ := h; rfl) | (obtain ⟨_, _, _, _, _, _, _, rfl, _⟩ := h; rfl) | (obtain ⟨_, _, _, _, _, _, _, _, rfl, _⟩ := h; rfl) | (obtain ⟨_, _, _, _, _, _, _, _, _, rfl, _⟩ := h; rfl) | (obtain ⟨_, _, _, _, _, _, _, _, _, _, rfl, _⟩ := h; rfl) | (obtain ⟨_, _, _, _, _, _, _, _, _, _, _, rfl, _⟩ := h; rfl) | (obtain ⟨_, _, _, _, _, _, _, _, _, _, _, _, rfl, _⟩ := h; rfl) | (obtain ⟨_, _, _, _, _, _, _, _, _, _, _, _, _, rfl, _⟩ := h; rfl) | (obtain ⟨_, _, _, _, _, _, _, _, _, _, _, _, _, _, rfl, _⟩ := h; rfl) | (obtain ⟨_, _, _, _, _, _, _, _, _, _, _, _, _, _, _, rfl, _⟩ := h; rfl) | (split at h <;> first | rfl | exact h.elim)); done) | (first | (obtain ⟨rfl, _⟩ := h; rfl) | (obtain ⟨_, _, _, rfl, _, _, rfl, _⟩ := h; rfl) | (obtain ⟨_, _, _, rfl, _, _, _, rfl, _⟩ := h; rfl) | (obtain ⟨_, rfl, _⟩ := h; rfl) | (obtain ⟨_, _, rfl, _⟩ := h; rfl) | (obtain ⟨_, _, _, rfl, _⟩ := h; rfl) | (obtain ⟨_, _, _, _, rfl, _⟩ := h; rfl) | (obtain ⟨_, _, _, _, _, rfl, _⟩ := h; rfl) | (obtain ⟨_, _, _, _, _, _, rfl, _⟩ := h; rfl) | (obtain ⟨_, _, _, _, _, _, _, rfl, _⟩ := h; rfl) | (obtain ⟨_, _, _, _, _, _, _, _, rfl, _⟩ := h; rfl) | (obtain ⟨_, _, _, _, _, _, _, _, _, rfl, _⟩ := h; rfl) | (obtain ⟨_, _, _, _, _, _, _, _, _, _, rfl, _⟩ := h; rfl) | (obtain ⟨_, _, _, _, _, _, _, _, _, _, _, rfl, _⟩ := h; rfl) | (obtain ⟨_, _, _, _, _, _, _, _, _, _, _, _, rfl, _⟩ := h; rfl) | (obtain ⟨_, _, _, _, _, _, _, _, _, _, _, _, _, rfl, _⟩ := h; rfl) | (obtain ⟨_, _, _, _, _, _, _, _, _, _, _, _, _, _, rfl, _⟩ := h; rfl) | (obtain ⟨_, _, _, _, _, _, _, _, _, _, _, _, _, _, _, rfl, _⟩ := h; rfl) | (split at h <;> first | rfl | exact h.elim))) (fun cdv A_ outer s H E hr => by
    have sc := sc_law_plain_41305dcc
    exact (b_cons (s_for (passes_of rfl) rfl (i_rng1 rfl T.n_range (g_cons (av 1) g_nil)) (g_name 2 sc.nd) (gok_name 2) (b_one (s_if (t_eq hr.units (a_mod (a_intc rfl T.n_int (g_cons (av 0) g_nil)) a_int) a_int) (b_cons (s_set (i := 0) sc.nd (a_div (av 0) a_int)) (b_one (s_set (i := 1) sc.nd (a_sub (av 1) a_int)))) b_nil))) (b_one (s_ret (a_tup (g_cons (av 0) (g_cons (av 1) g_nil))))))) (rd_law_plain_41305dcc G)
theorem ok_law_is_d09be0d2 {G : Gx} {mg : Str → Option Value} {A : Ad} {base : Heap} (T : Txt G mg A) : FnOk G.k.P G.k.w G.k.K mg base (L2N.CX G.k.P G.k.w) 3 A.f_law_is_d09be0d2 A.fd_law_is_d09be0d2 ["_law_number", "_law_due"] (liftSp G.k (sp_law_is_d09be0d2 G)) :=
  fun_ok (k := 2) (tb := tb_law_is_d09be0d2 G) T.F_law_is_d09be0d2 sc_law_is_d09be0d2 (by intro ds L Q R h; unfold sp_law_is_d09be0d2 at h; first | (rcases h with h | h <;> (first | (obtain ⟨rfl, _⟩ := h; rfl) | (obtain ⟨_, _, _, rfl, _, _, rfl, _⟩ := h; rfl) | (obtain ⟨_, _, _, rfl, _, _, _, rfl, _⟩ := h; rfl) | (obtain ⟨_, rfl, _⟩ := h; rfl) | (obtain ⟨_, _, rfl, _⟩ := h; rfl) | (obtain ⟨_, _, _, rfl, _⟩ := h; rfl) | (obtain ⟨_, _, _, _, rfl, _⟩ := h; rfl) | (obtain ⟨_, _, _, _, _, rfl, _⟩ := h; rfl) | (obtain ⟨_, _, _, _, _, _, rfl, _⟩ := h; rfl) | (obtain ⟨_, _, _, _, _, _, _, rfl, _⟩ := h; rfl) | (obtain ⟨_, _, _, _, _, _, _, _, rfl, _⟩ := h; rfl) | (obtain ⟨_, _, _, _, _, _, _, _, _, rfl, _⟩ := h; rfl) | (obtain ⟨_, _, _, _, _, _, _, _, _, _, rfl, _⟩ := h; rfl) | (obtain ⟨_, _, _, _, _, _, _, _, _, _, _, rfl, _⟩ := h; rfl) | (obtain ⟨_, _, _, _, _, _, _, _, _, _, _, _, rfl, _⟩ := h; rfl) | (obtain ⟨_, _, _, _, _, _, _, _, _, _, _, _, _, rfl, _⟩ := h; rfl) | (obtain ⟨_, _, _, _, _, _, _, _, _, _, _, _, _, _, rfl, _⟩ := h; rfl) | (obtain ⟨_, _, _, _, _, _, _, _, _, _, _, _, _, _, _, rfl, _⟩ := h; rfl) | (split at h <;> first | rfl | exact h.elim)); done) | (first | (obtain ⟨rfl, _⟩ := h; rfl) | (obtain ⟨_, _, _, rfl, _, _, rfl, _⟩ := h; rfl) | (obtain ⟨_, _, _, rfl, _, _, _, rfl, _⟩ := h; rfl) | (obtain ⟨_, rfl, _⟩ := h; rfl) | (obtain ⟨_, _, rfl, _⟩ := h; rfl) | (obtain ⟨_, _, _, rfl, _⟩ := h; rfl) | (obtain ⟨_, _, _, _, rfl, _⟩ := h; rfl) | (obtain ⟨_, _, _, _, _, rfl, _⟩ := h; rfl) | (obtain ⟨_, _, _, _, _, _, rfl, _⟩ := h; rfl) | (obtain ⟨_, _, _, _, _, _, _, rfl, _⟩ := h; rfl) | (obtain ⟨_, _, _, _, _, _, _, _, rfl, _⟩ := h; rfl) | (obtain ⟨_, _, _, _, _, _, _, _, _, rfl, _⟩ := h; rfl) | (obtain ⟨_, _, _, _, _, _, _, _, _, _, rfl, _⟩ := h; rfl) | (obtain ⟨_, _, _, _, _, _, _, _, _, _, _, rfl, _⟩ := h; rfl) | (obtain ⟨_, _, _, _, _, _, _, _, _, _, _, _, rfl, _⟩ := h; rfl) | (obtain ⟨_, _, _, _, _, _, _, _, _, _, _, _, _, rfl, _⟩ := h; rfl) | (obtain ⟨_, _, _, _, _, _, _, _, _, _, _, _, _, _, rfl, _⟩ := h; rfl) | (obtain ⟨_, _, _, _, _, _, _, _, _, _, _, _, _, _, _, rfl, _⟩ := h; rfl) | (split at h <;> first | rfl | exact h.elim))) (fun cdv A_ outer s H E hr => by
    have sc := sc_law_is_d09be0d2
    exact (b_cons (s_if (PW.pt (w_or (t_not (t_tru (a_isi rfl T.n_isinstance (g_cons (av 0) (g_cons (a_glob rfl T.g_Dyadic rel_ref (fun _ => .ref _)) g_nil))))) (w_or (t_not (t_tru (a_call (ok_law_is_integer_fcf59962 T) (hr.mono (by decide)) rfl T.m_law_is_integer_fcf59962 T.F_law_is_integer_fcf59962.kp T.b_law_is_integer_fcf59962 .nil (fun _ => .nil) (L2N.takes_of rfl rfl rfl rfl) (args1 (g_cons (a_prop (av 0) T.cl_Dyadic T.P_Dyadic_top (ok_Dyadic_top T) (hr.mono (by decide)) T.b_Dyadic_top) g_nil))))) (w_or1 (t_not (t_tru (a_call (ok_law_is_integer_fcf59962 T) (hr.mono (by decide)) rfl T.m_law_is_integer_fcf59962 T.F_law_is_integer_fcf59962.kp T.b_law_is_integer_fcf59962 .nil (fun _ => .nil) (L2N.takes_of rfl rfl rfl rfl) (args1 (g_cons (a_prop (av 0) T.cl_Dyadic T.P_Dyadic_power (ok_Dyadic_power T) (hr.mono (by decide)) T.b_Dyadic_power) g_nil))))))))) (b_one (s_ret a_bl)) b_nil) (b_one (s_ret (a_eq hr.units (a_tup (g_cons (a_prop (av 0) T.cl_Dyadic T.P_Dyadic_top (ok_Dyadic_top T) (hr.mono (by decide)) T.b_Dyadic_top) (g_cons (a_prop (av 0) T.cl_Dyadic T.P_Dyadic_power (ok_Dyadic_power T) (hr.mono (by decide)) T.b_Dyadic_power) g_nil))) (a_call (ok_law_plain_41305dcc T) (hr.mono (by decide)) rfl T.m_law_plain_41305dcc T.F_law_plain_41305dcc.kp T.b_law_plain_41305dcc .nil (fun _ => .nil) (L2N.takes_of rfl rfl rfl rfl) (args1 (g_cons (av 1) (g_cons a_int g_nil))))))))) (rd_law_is_d09be0d2 G)
theorem ok_law_place_8b093576 {G : Gx} {mg : Str → Option Value} {A : Ad} {base : Heap} (T : Txt G mg A) : FnOk G.k.P G.k.w G.k.K mg base (L2N.CX G.k.P G.k.w) 1 A.f_law_place_8b093576 A.fd_law_place_8b093576 ["_law_line", "_law_heat"] (liftSp G.k (sp_law_place_8b093576 G)) :=
  fun_ok (k := 0) (tb := tb_law_place_8b093576 G) T.F_law_place_8b093576 sc_law_place_8b093576 (by intro ds L Q R h; unfold sp_law_place_8b093576 at h; first | (rcases h with h | h <;> (first | (obtain ⟨rfl, _⟩ := h; rfl) | (obtain ⟨_, _, _, rfl, _, _, rfl, _⟩ := h; rfl) | (obtain ⟨_, _, _, rfl, _, _, _, rfl, _⟩ := h; rfl) | (obtain ⟨_, rfl, _⟩ := h; rfl) | (obtain ⟨_, _, rfl, _⟩ := h; rfl) | (obtain ⟨_, _, _, rfl, _⟩ := h; rfl) | (obtain ⟨_, _, _, _, rfl, _⟩ := h; rfl) | (obtain ⟨_, _, _, _, _, rfl, _⟩ := h; rfl) | (obtain ⟨_, _, _, _, _, _, rfl, _⟩ := h; rfl) | (obtain ⟨_, _, _, _, _, _, _, rfl, _⟩ := h; rfl) | (obtain ⟨_, _, _, _, _, _, _, _, rfl, _⟩ := h; rfl) | (obtain ⟨_, _, _, _, _, _, _, _, _, rfl, _⟩ := h; rfl) | (obtain ⟨_, _, _, _, _, _, _, _, _, _, rfl, _⟩ := h; rfl) | (obtain ⟨_, _, _, _, _, _, _, _, _, _, _, rfl, _⟩ := h; rfl) | (obtain ⟨_, _, _, _, _, _, _, _, _, _, _, _, rfl, _⟩ := h; rfl) | (obtain ⟨_, _, _, _, _, _, _, _, _, _, _, _, _, rfl, _⟩ := h; rfl) | (obtain ⟨_, _, _, _, _, _, _, _, _, _, _, _, _, _, rfl, _⟩ := h; rfl) | (obtain ⟨_, _, _, _, _, _, _, _, _, _, _, _, _, _, _, rfl, _⟩ := h; rfl) | (split at h <;> first | rfl | exact h.elim)); done) | (first | (obtain ⟨rfl, _⟩ := h; rfl) | (obtain ⟨_, _, _, rfl, _, _, rfl, _⟩ := h; rfl) | (obtain ⟨_, _, _, rfl, _, _, _, rfl, _⟩ := h; rfl) | (obtain ⟨_, rfl, _⟩ := h; rfl) | (obtain ⟨_, _, rfl, _⟩ := h; rfl) | (obtain ⟨_, _, _, rfl, _⟩ := h; rfl) | (obtain ⟨_, _, _, _, rfl, _⟩ := h; rfl) | (obtain ⟨_, _, _, _, _, rfl, _⟩ := h; rfl) | (obtain ⟨_, _, _, _, _, _, rfl, _⟩ := h; rfl) | (obtain ⟨_, _, _, _, _, _, _, rfl, _⟩ := h; rfl) | (obtain ⟨_, _, _, _, _, _, _, _, rfl, _⟩ := h; rfl) | (obtain ⟨_, _, _, _, _, _, _, _, _, rfl, _⟩ := h; rfl) | (obtain ⟨_, _, _, _, _, _, _, _, _, _, rfl, _⟩ := h; rfl) | (obtain ⟨_, _, _, _, _, _, _, _, _, _, _, rfl, _⟩ := h; rfl) | (obtain ⟨_, _, _, _, _, _, _, _, _, _, _, _, rfl, _⟩ := h; rfl) | (obtain ⟨_, _, _, _, _, _, _, _, _, _, _, _, _, rfl, _⟩ := h; rfl) | (obtain ⟨_, _, _, _, _, _, _, _, _, _, _, _, _, _, rfl, _⟩ := h; rfl) | (obtain ⟨_, _, _, _, _, _, _, _, _, _, _, _, _, _, _, rfl, _⟩ := h; rfl) | (split at h <;> first | rfl | exact h.elim))) (fun cdv A_ outer s H E hr => by
    have sc := sc_law_place_8b093576
    exact (b_one (s_ret (a_maxL rfl rfl T.n_max (g_cons (a_lcN (own := [("_law_k", 2)]) newD_ok rfl sc.nd (i_rng1 rfl T.n_range (g_cons (a_len rfl T.n_len (g_cons (a_item (av 0) a_int) g_nil)) g_nil)) (blkOk_by (N := ["_law_line", "_law_heat", "_law_k"]) (sc := defScope s_law_place_8b093576) (own := [("_law_k", 2)]) (by decide +kernel)) (gok_name 2) (by decide) (fun _ _ _ _ _ => (g_name 2 sc.nd)) (fun _ _ _ _ _ => (t_one (t_le (a_item (a_item (a_item (av 0) a_int) (av 2)) a_int) (av 1)))) (fun _ _ _ _ _ => (av 2))) g_nil))))) (rd_law_place_8b093576 G)
theorem ok_law_at_ade38b70 {G : Gx} {mg : Str → Option Value} {A : Ad} {base : Heap} (T : Txt G mg A) : FnOk G.k.P G.k.w G.k.K mg base (L2N.CX G.k.P G.k.w) 2 A.f_law_at_ade38b70 A.fd_law_at_ade38b70 ["_law_line", "_law_heat"] (liftSp G.k (sp_law_at_ade38b70 G)) :=
  fun_ok (k := 1) (tb := tb_law_at_ade38b70 G) T.F_law_at_ade38b70 sc_law_at_ade38b70 (by intro ds L Q R h; unfold sp_law_at_ade38b70 at h; first | (rcases h with h | h <;> (first | (obtain ⟨rfl, _⟩ := h; rfl) | (obtain ⟨_, _, _, rfl, _, _, rfl, _⟩ := h; rfl) | (obtain ⟨_, _, _, rfl, _, _, _, rfl, _⟩ := h; rfl) | (obtain ⟨_, rfl, _⟩ := h; rfl) | (obtain ⟨_, _, rfl, _⟩ := h; rfl) | (obtain ⟨_, _, _, rfl, _⟩ := h; rfl) | (obtain ⟨_, _, _, _, rfl, _⟩ := h; rfl) | (obtain ⟨_, _, _, _, _, rfl, _⟩ := h; rfl) | (obtain ⟨_, _, _, _, _, _, rfl, _⟩ := h; rfl) | (obtain ⟨_, _, _, _, _, _, _, rfl, _⟩ := h; rfl) | (obtain ⟨_, _, _, _, _, _, _, _, rfl, _⟩ := h; rfl) | (obtain ⟨_, _, _, _, _, _, _, _, _, rfl, _⟩ := h; rfl) | (obtain ⟨_, _, _, _, _, _, _, _, _, _, rfl, _⟩ := h; rfl) | (obtain ⟨_, _, _, _, _, _, _, _, _, _, _, rfl, _⟩ := h; rfl) | (obtain ⟨_, _, _, _, _, _, _, _, _, _, _, _, rfl, _⟩ := h; rfl) | (obtain ⟨_, _, _, _, _, _, _, _, _, _, _, _, _, rfl, _⟩ := h; rfl) | (obtain ⟨_, _, _, _, _, _, _, _, _, _, _, _, _, _, rfl, _⟩ := h; rfl) | (obtain ⟨_, _, _, _, _, _, _, _, _, _, _, _, _, _, _, rfl, _⟩ := h; rfl) | (split at h <;> first | rfl | exact h.elim)); done) | (first | (obtain ⟨rfl, _⟩ := h; rfl) | (obtain ⟨_, _, _, rfl, _, _, rfl, _⟩ := h; rfl) | (obtain ⟨_, _, _, rfl, _, _, _, rfl, _⟩ := h; rfl) | (obtain ⟨_, rfl, _⟩ := h; rfl) | (obtain ⟨_, _, rfl, _⟩ := h; rfl) | (obtain ⟨_, _, _, rfl, _⟩ := h; rfl) | (obtain ⟨_, _, _, _, rfl, _⟩ := h; rfl) | (obtain ⟨_, _, _, _, _, rfl, _⟩ := h; rfl) | (obtain ⟨_, _, _, _, _, _, rfl, _⟩ := h; rfl) | (obtain ⟨_, _, _, _, _, _, _, rfl, _⟩ := h; rfl) | (obtain ⟨_, _, _, _, _, _, _, _, rfl, _⟩ := h; rfl) | (obtain ⟨_, _, _, _, _, _, _, _, _, rfl, _⟩ := h; rfl) | (obtain ⟨_, _, _, _, _, _, _, _, _, _, rfl, _⟩ := h; rfl) | (obtain ⟨_, _, _, _, _, _, _, _, _, _, _, rfl, _⟩ := h; rfl) | (obtain ⟨_, _, _, _, _, _, _, _, _, _, _, _, rfl, _⟩ := h; rfl) | (obtain ⟨_, _, _, _, _, _, _, _, _, _, _, _, _, rfl, _⟩ := h; rfl) | (obtain ⟨_, _, _, _, _, _, _, _, _, _, _, _, _, _, rfl, _⟩ := h; rfl) | (obtain ⟨_, _, _, _, _, _, _, _, _, _, _, _, _, _, _, rfl, _⟩ := h; rfl) | (split at h <;> first | rfl | exact h.elim))) (fun cdv A_ outer s H E hr => by
    have sc := sc_law_at_ade38b70
    exact (b_cons (s_set (i := 2) sc.nd (a_call (ok_law_place_8b093576 T) (hr.mono (by decide)) rfl T.m_law_place_8b093576 T.F_law_place_8b093576.kp T.b_law_place_8b093576 .nil (fun _ => .nil) (L2N.takes_of rfl rfl rfl rfl) (args1 (g_cons (av 0) (g_cons (av 1) g_nil))))) (b_one (s_ret (a_addN newS_ok (a_item (a_item (a_item (av 0) a_int) (av 2)) a_int) (a_mulT newD_ok (a_item (a_item (av 0) a_int) (av 2)) (a_sub (av 1) (a_item (a_item (a_item (av 0) a_int) (av 2)) a_int)))))))) (rd_law_at_ade38b70 G)
theorem ok_Wall_place {G : Gx} {mg : Str → Option Value} {A : Ad} {base : Heap} (T : Txt G mg A) : FnOk G.k.P G.k.w G.k.K mg base (L2N.CX G.k.P G.k.w) 4 A.f_Wall_place A.fd_Wall_place ["self", "heat"] (liftSp G.k (sp_Wall_place G)) :=
  fun_ok (k := 3) (tb := tb_Wall_place G) T.F_Wall_place sc_Wall_place (by intro ds L Q R h; unfold sp_Wall_place at h; first | (rcases h with h | h <;> (first | (obtain ⟨rfl, _⟩ := h; rfl) | (obtain ⟨_, _, _, rfl, _, _, rfl, _⟩ := h; rfl) | (obtain ⟨_, _, _, rfl, _, _, _, rfl, _⟩ := h; rfl) | (obtain ⟨_, rfl, _⟩ := h; rfl) | (obtain ⟨_, _, rfl, _⟩ := h; rfl) | (obtain ⟨_, _, _, rfl, _⟩ := h; rfl) | (obtain ⟨_, _, _, _, rfl, _⟩ := h; rfl) | (obtain ⟨_, _, _, _, _, rfl, _⟩ := h; rfl) | (obtain ⟨_, _, _, _, _, _, rfl, _⟩ := h; rfl) | (obtain ⟨_, _, _, _, _, _, _, rfl, _⟩ := h; rfl) | (obtain ⟨_, _, _, _, _, _, _, _, rfl, _⟩ := h; rfl) | (obtain ⟨_, _, _, _, _, _, _, _, _, rfl, _⟩ := h; rfl) | (obtain ⟨_, _, _, _, _, _, _, _, _, _, rfl, _⟩ := h; rfl) | (obtain ⟨_, _, _, _, _, _, _, _, _, _, _, rfl, _⟩ := h; rfl) | (obtain ⟨_, _, _, _, _, _, _, _, _, _, _, _, rfl, _⟩ := h; rfl) | (obtain ⟨_, _, _, _, _, _, _, _, _, _, _, _, _, rfl, _⟩ := h; rfl) | (obtain ⟨_, _, _, _, _, _, _, _, _, _, _, _, _, _, rfl, _⟩ := h; rfl) | (obtain ⟨_, _, _, _, _, _, _, _, _, _, _, _, _, _, _, rfl, _⟩ := h; rfl) | (split at h <;> first | rfl | exact h.elim)); done) | (first | (obtain ⟨rfl, _⟩ := h; rfl) | (obtain ⟨_, _, _, rfl, _, _, rfl, _⟩ := h; rfl) | (obtain ⟨_, _, _, rfl, _, _, _, rfl, _⟩ := h; rfl) | (obtain ⟨_, rfl, _⟩ := h; rfl) | (obtain ⟨_, _, rfl, _⟩ := h; rfl) | (obtain ⟨_, _, _, rfl, _⟩ := h; rfl) | (obtain ⟨_, _, _, _, rfl, _⟩ := h; rfl) | (obtain ⟨_, _, _, _, _, rfl, _⟩ := h; rfl) | (obtain ⟨_, _, _, _, _, _, rfl, _⟩ := h; rfl) | (obtain ⟨_, _, _, _, _, _, _, rfl, _⟩ := h; rfl) | (obtain ⟨_, _, _, _, _, _, _, _, rfl, _⟩ := h; rfl) | (obtain ⟨_, _, _, _, _, _, _, _, _, rfl, _⟩ := h; rfl) | (obtain ⟨_, _, _, _, _, _, _, _, _, _, rfl, _⟩ := h; rfl) | (obtain ⟨_, _, _, _, _, _, _, _, _, _, _, rfl, _⟩ := h; rfl) | (obtain ⟨_, _, _, _, _, _, _, _, _, _, _, _, rfl, _⟩ := h; rfl) | (obtain ⟨_, _, _, _, _, _, _, _, _, _, _, _, _, rfl, _⟩ := h; rfl) | (obtain ⟨_, _, _, _, _, _, _, _, _, _, _, _, _, _, rfl, _⟩ := h; rfl) | (obtain ⟨_, _, _, _, _, _, _, _, _, _, _, _, _, _, _, rfl, _⟩ := h; rfl) | (split at h <;> first | rfl | exact h.elim))) (fun cdv A_ outer s H E hr => by
    have sc := sc_Wall_place
    exact (b_cons (s_if (t_lt (a_prop (av 1) T.cl_Dyadic T.P_Dyadic_top (ok_Dyadic_top T) (hr.mono (by decide)) T.b_Dyadic_top) a_int) (b_one (s_raise rfl (L2N.takes_of rfl rfl rfl rfl) PySem.F.excBase_ValueError T.x_BadValue T.g_BadValue T.k_BadValue (raises_own T.eb_BadValue T.et_BadValue) rfl)) b_nil) (b_cons (s_set (i := 2) sc.nd a_int) (b_cons (s_for (passes_of rfl) rfl (i_enB rfl T.n_enumerate (g_cons (a_fld 0 (av 0)) g_nil)) (pg_tup rfl (pgs_cons (g_name 3 sc.nd) (pgs_cons (g_name 4 sc.nd) pgs_nil))) (gok_tup [3, 4]) (b_one (s_if (t_not (t_tru (a_meth (av 1) T.cl_Dyadic T.Mt_Dyadic_less (ok_Dyadic_less T) (hr.mono (by decide)) T.b_Dyadic_less .nil (fun _ => .nil) (L2N.takes_of rfl rfl rfl rfl) (args1 (g_cons (a_item (av 4) a_int) g_nil))))) (b_one (s_set (i := 2) sc.nd (av 3))) b_nil))) (b_one (s_ret (av 2))))))) (rd_Wall_place G)
theorem ok_Wall_at {G : Gx} {mg : Str → Option Value} {A : Ad} {base : Heap} (T : Txt G mg A) : FnOk G.k.P G.k.w G.k.K mg base (L2N.CX G.k.P G.k.w) 6 A.f_Wall_at A.fd_Wall_at ["self", "heat"] (liftSp G.k (sp_Wall_at G)) :=
  fun_ok (k := 5) (tb := tb_Wall_at G) T.F_Wall_at sc_Wall_at (by intro ds L Q R h; unfold sp_Wall_at at h; first | (rcases h with h | h <;> (first | (obtain ⟨rfl, _⟩ := h; rfl) | (obtain ⟨_, _, _, rfl, _, _, rfl, _⟩ := h; rfl) | (obtain ⟨_, _, _, rfl, _, _, _, rfl, _⟩ := h; rfl) | (obtain ⟨_, rfl, _⟩ := h; rfl) | (obtain ⟨_, _, rfl, _⟩ := h; rfl) | (obtain ⟨_, _, _, rfl, _⟩ := h; rfl) | (obtain ⟨_, _, _, _, rfl, _⟩ := h; rfl) | (obtain ⟨_, _, _, _, _, rfl, _⟩ := h; rfl) | (obtain ⟨_, _, _, _, _, _, rfl, _⟩ := h; rfl) | (obtain ⟨_, _, _, _, _, _, _, rfl, _⟩ := h; rfl) | (obtain ⟨_, _, _, _, _, _, _, _, rfl, _⟩ := h; rfl) | (obtain ⟨_, _, _, _, _, _, _, _, _, rfl, _⟩ := h; rfl) | (obtain ⟨_, _, _, _, _, _, _, _, _, _, rfl, _⟩ := h; rfl) | (obtain ⟨_, _, _, _, _, _, _, _, _, _, _, rfl, _⟩ := h; rfl) | (obtain ⟨_, _, _, _, _, _, _, _, _, _, _, _, rfl, _⟩ := h; rfl) | (obtain ⟨_, _, _, _, _, _, _, _, _, _, _, _, _, rfl, _⟩ := h; rfl) | (obtain ⟨_, _, _, _, _, _, _, _, _, _, _, _, _, _, rfl, _⟩ := h; rfl) | (obtain ⟨_, _, _, _, _, _, _, _, _, _, _, _, _, _, _, rfl, _⟩ := h; rfl) | (split at h <;> first | rfl | exact h.elim)); done) | (first | (obtain ⟨rfl, _⟩ := h; rfl) | (obtain ⟨_, _, _, rfl, _, _, rfl, _⟩ := h; rfl) | (obtain ⟨_, _, _, rfl, _, _, _, rfl, _⟩ := h; rfl) | (obtain ⟨_, rfl, _⟩ := h; rfl) | (obtain ⟨_, _, rfl, _⟩ := h; rfl) | (obtain ⟨_, _, _, rfl, _⟩ := h; rfl) | (obtain ⟨_, _, _, _, rfl, _⟩ := h; rfl) | (obtain ⟨_, _, _, _, _, rfl, _⟩ := h; rfl) | (obtain ⟨_, _, _, _, _, _, rfl, _⟩ := h; rfl) | (obtain ⟨_, _, _, _, _, _, _, rfl, _⟩ := h; rfl) | (obtain ⟨_, _, _, _, _, _, _, _, rfl, _⟩ := h; rfl) | (obtain ⟨_, _, _, _, _, _, _, _, _, rfl, _⟩ := h; rfl) | (obtain ⟨_, _, _, _, _, _, _, _, _, _, rfl, _⟩ := h; rfl) | (obtain ⟨_, _, _, _, _, _, _, _, _, _, _, rfl, _⟩ := h; rfl) | (obtain ⟨_, _, _, _, _, _, _, _, _, _, _, _, rfl, _⟩ := h; rfl) | (obtain ⟨_, _, _, _, _, _, _, _, _, _, _, _, _, rfl, _⟩ := h; rfl) | (obtain ⟨_, _, _, _, _, _, _, _, _, _, _, _, _, _, rfl, _⟩ := h; rfl) | (obtain ⟨_, _, _, _, _, _, _, _, _, _, _, _, _, _, _, rfl, _⟩ := h; rfl) | (split at h <;> first | rfl | exact h.elim))) (fun cdv A_ outer s H E hr => by
    have sc := sc_Wall_at
    exact (b_cons (s_set (i := 2) sc.nd (a_meth (av 0) T.cl_Wall T.Mt_Wall_place (ok_Wall_place T) (hr.mono (by decide)) T.b_Wall_place .nil (fun _ => .nil) (L2N.takes_of rfl rfl rfl rfl) (args1 (g_cons (av 1) g_nil)))) (b_cons (s_set (i := 3) sc.nd (a_item (a_fld 0 (av 0)) (av 2))) (b_one (s_ret (a_opM (a_item (av 3) a_int) (a_call (ok_times T) (hr.mono (by decide)) rfl T.m_times T.F_times.kp T.b_times .nil (fun _ => .nil) (L2N.takes_of rfl rfl rfl rfl) (args1 (g_cons (a_opM (av 1) (a_item (av 3) a_int) T.sf_Dyadic T.Mt_Dyadic_sub (ok_Dyadic_sub T) (hr.mono (by decide)) T.b_Dyadic_sub (L2N.takes_of rfl rfl rfl rfl)) (g_cons (a_item (a_fld 1 (av 0)) (av 2)) g_nil)))) T.sf_Dyadic T.Mt_Dyadic_add (ok_Dyadic_add T) (hr.mono (by decide)) T.b_Dyadic_add (L2N.takes_of rfl rfl rfl rfl))))))) (rd_Wall_at G)
theorem ok_Wall_slope_at {G : Gx} {mg : Str → Option Value} {A : Ad} {base : Heap} (T : Txt G mg A) : FnOk G.k.P G.k.w G.k.K mg base (L2N.CX G.k.P G.k.w) 5 A.f_Wall_slope_at A.fd_Wall_slope_at ["self", "heat"] (liftSp G.k (sp_Wall_slope_at G)) :=
  fun_ok (k := 4) (tb := tb_Wall_slope_at G) T.F_Wall_slope_at sc_Wall_slope_at (by intro ds L Q R h; unfold sp_Wall_slope_at at h; first | (rcases h with h | h <;> (first | (obtain ⟨rfl, _⟩ := h; rfl) | (obtain ⟨_, _, _, rfl, _, _, rfl, _⟩ := h; rfl) | (obtain ⟨_, _, _, rfl, _, _, _, rfl, _⟩ := h; rfl) | (obtain ⟨_, rfl, _⟩ := h; rfl) | (obtain ⟨_, _, rfl, _⟩ := h; rfl) | (obtain ⟨_, _, _, rfl, _⟩ := h; rfl) | (obtain ⟨_, _, _, _, rfl, _⟩ := h; rfl) | (obtain ⟨_, _, _, _, _, rfl, _⟩ := h; rfl) | (obtain ⟨_, _, _, _, _, _, rfl, _⟩ := h; rfl) | (obtain ⟨_, _, _, _, _, _, _, rfl, _⟩ := h; rfl) | (obtain ⟨_, _, _, _, _, _, _, _, rfl, _⟩ := h; rfl) | (obtain ⟨_, _, _, _, _, _, _, _, _, rfl, _⟩ := h; rfl) | (obtain ⟨_, _, _, _, _, _, _, _, _, _, rfl, _⟩ := h; rfl) | (obtain ⟨_, _, _, _, _, _, _, _, _, _, _, rfl, _⟩ := h; rfl) | (obtain ⟨_, _, _, _, _, _, _, _, _, _, _, _, rfl, _⟩ := h; rfl) | (obtain ⟨_, _, _, _, _, _, _, _, _, _, _, _, _, rfl, _⟩ := h; rfl) | (obtain ⟨_, _, _, _, _, _, _, _, _, _, _, _, _, _, rfl, _⟩ := h; rfl) | (obtain ⟨_, _, _, _, _, _, _, _, _, _, _, _, _, _, _, rfl, _⟩ := h; rfl) | (split at h <;> first | rfl | exact h.elim)); done) | (first | (obtain ⟨rfl, _⟩ := h; rfl) | (obtain ⟨_, _, _, rfl, _, _, rfl, _⟩ := h; rfl) | (obtain ⟨_, _, _, rfl, _, _, _, rfl, _⟩ := h; rfl) | (obtain ⟨_, rfl, _⟩ := h; rfl) | (obtain ⟨_, _, rfl, _⟩ := h; rfl) | (obtain ⟨_, _, _, rfl, _⟩ := h; rfl) | (obtain ⟨_, _, _, _, rfl, _⟩ := h; rfl) | (obtain ⟨_, _, _, _, _, rfl, _⟩ := h; rfl) | (obtain ⟨_, _, _, _, _, _, rfl, _⟩ := h; rfl) | (obtain ⟨_, _, _, _, _, _, _, rfl, _⟩ := h; rfl) | (obtain ⟨_, _, _, _, _, _, _, _, rfl, _⟩ := h; rfl) | (obtain ⟨_, _, _, _, _, _, _, _, _, rfl, _⟩ := h; rfl) | (obtain ⟨_, _, _, _, _, _, _, _, _, _, rfl, _⟩ := h; rfl) | (obtain ⟨_, _, _, _, _, _, _, _, _, _, _, rfl, _⟩ := h; rfl) | (obtain ⟨_, _, _, _, _, _, _, _, _, _, _, _, rfl, _⟩ := h; rfl) | (obtain ⟨_, _, _, _, _, _, _, _, _, _, _, _, _, rfl, _⟩ := h; rfl) | (obtain ⟨_, _, _, _, _, _, _, _, _, _, _, _, _, _, rfl, _⟩ := h; rfl) | (obtain ⟨_, _, _, _, _, _, _, _, _, _, _, _, _, _, _, rfl, _⟩ := h; rfl) | (split at h <;> first | rfl | exact h.elim))) (fun cdv A_ outer s H E hr => by
    have sc := sc_Wall_slope_at
    exact (b_one (s_ret (a_item (a_fld 1 (av 0)) (a_meth (av 0) T.cl_Wall T.Mt_Wall_place (ok_Wall_place T) (hr.mono (by decide)) T.b_Wall_place .nil (fun _ => .nil) (L2N.takes_of rfl rfl rfl rfl) (args1 (g_cons (av 1) g_nil))))))) (rd_Wall_slope_at G)
theorem ok_law_cut_7d8ca634 {G : Gx} {mg : Str → Option Value} {A : Ad} {base : Heap} (T : Txt G mg A) : FnOk G.k.P G.k.w G.k.K mg base (L2N.CX G.k.P G.k.w) 3 A.f_law_cut_7d8ca634 A.fd_law_cut_7d8ca634 ["_law_line", "_law_heat"] (liftSp G.k (sp_law_cut_7d8ca634 G)) :=
  fun_ok (k := 2) (tb := tb_law_cut_7d8ca634 G) T.F_law_cut_7d8ca634 sc_law_cut_7d8ca634 (by intro ds L Q R h; unfold sp_law_cut_7d8ca634 at h; first | (rcases h with h | h <;> (first | (obtain ⟨rfl, _⟩ := h; rfl) | (obtain ⟨_, _, _, rfl, _, _, rfl, _⟩ := h; rfl) | (obtain ⟨_, _, _, rfl, _, _, _, rfl, _⟩ := h; rfl) | (obtain ⟨_, rfl, _⟩ := h; rfl) | (obtain ⟨_, _, rfl, _⟩ := h; rfl) | (obtain ⟨_, _, _, rfl, _⟩ := h; rfl) | (obtain ⟨_, _, _, _, rfl, _⟩ := h; rfl) | (obtain ⟨_, _, _, _, _, rfl, _⟩ := h; rfl) | (obtain ⟨_, _, _, _, _, _, rfl, _⟩ := h; rfl) | (obtain ⟨_, _, _, _, _, _, _, rfl, _⟩ := h; rfl) | (obtain ⟨_, _, _, _, _, _, _, _, rfl, _⟩ := h; rfl) | (obtain ⟨_, _, _, _, _, _, _, _, _, rfl, _⟩ := h; rfl) | (obtain ⟨_, _, _, _, _, _, _, _, _, _, rfl, _⟩ := h; rfl) | (obtain ⟨_, _, _, _, _, _, _, _, _, _, _, rfl, _⟩ := h; rfl) | (obtain ⟨_, _, _, _, _, _, _, _, _, _, _, _, rfl, _⟩ := h; rfl) | (obtain ⟨_, _, _, _, _, _, _, _, _, _, _, _, _, rfl, _⟩ := h; rfl) | (obtain ⟨_, _, _, _, _, _, _, _, _, _, _, _, _, _, rfl, _⟩ := h; rfl) | (obtain ⟨_, _, _, _, _, _, _, _, _, _, _, _, _, _, _, rfl, _⟩ := h; rfl) | (split at h <;> first | rfl | exact h.elim)); done) | (first | (obtain ⟨rfl, _⟩ := h; rfl) | (obtain ⟨_, _, _, rfl, _, _, rfl, _⟩ := h; rfl) | (obtain ⟨_, _, _, rfl, _, _, _, rfl, _⟩ := h; rfl) | (obtain ⟨_, rfl, _⟩ := h; rfl) | (obtain ⟨_, _, rfl, _⟩ := h; rfl) | (obtain ⟨_, _, _, rfl, _⟩ := h; rfl) | (obtain ⟨_, _, _, _, rfl, _⟩ := h; rfl) | (obtain ⟨_, _, _, _, _, rfl, _⟩ := h; rfl) | (obtain ⟨_, _, _, _, _, _, rfl, _⟩ := h; rfl) | (obtain ⟨_, _, _, _, _, _, _, rfl, _⟩ := h; rfl) | (obtain ⟨_, _, _, _, _, _, _, _, rfl, _⟩ := h; rfl) | (obtain ⟨_, _, _, _, _, _, _, _, _, rfl, _⟩ := h; rfl) | (obtain ⟨_, _, _, _, _, _, _, _, _, _, rfl, _⟩ := h; rfl) | (obtain ⟨_, _, _, _, _, _, _, _, _, _, _, rfl, _⟩ := h; rfl) | (obtain ⟨_, _, _, _, _, _, _, _, _, _, _, _, rfl, _⟩ := h; rfl) | (obtain ⟨_, _, _, _, _, _, _, _, _, _, _, _, _, rfl, _⟩ := h; rfl) | (obtain ⟨_, _, _, _, _, _, _, _, _, _, _, _, _, _, rfl, _⟩ := h; rfl) | (obtain ⟨_, _, _, _, _, _, _, _, _, _, _, _, _, _, _, rfl, _⟩ := h; rfl) | (split at h <;> first | rfl | exact h.elim))) (fun cdv A_ outer s H E hr => by
    have sc := sc_law_cut_7d8ca634
    exact (b_cons (s_set (i := 3) sc.nd (a_addN newD_ok (a_lcN (own := [("_law_point", 2)]) newD_ok rfl sc.nd (i_seq (a_item (av 0) a_int)) (blkOk_by (N := ["_law_line", "_law_heat", "_law_point", "_law_points"]) (sc := defScope s_law_cut_7d8ca634) (own := [("_law_point", 2)]) (by decide +kernel)) (gok_name 2) (by decide) (fun _ _ _ _ _ => (g_name 2 sc.nd)) (fun _ _ _ _ _ => (t_one (t_lt (a_item (av 2) a_int) (av 1)))) (fun _ _ _ _ _ => (av 2))) (a_lstN newD_ok (g_cons (a_tup (g_cons (av 1) (g_cons (a_call (ok_law_at_ade38b70 T) (hr.mono (by decide)) rfl T.m_law_at_ade38b70 T.F_law_at_ade38b70.kp T.b_law_at_ade38b70 .nil (fun _ => .nil) (L2N.takes_of rfl rfl rfl rfl) (args1 (g_cons (av 0) (g_cons (av 1) g_nil)))) g_nil))) g_nil)))) (b_one (s_ret (a_tup (g_cons (av 3) (g_cons (a_addN newD_ok (a_sliceN newD_ok (a_item (av 0) a_int) o_none (o_some (a_sub (a_len rfl T.n_len (g_cons (av 3) g_nil)) a_int))) (a_lstN newD_ok (g_cons a_int g_nil))) g_nil))))))) (rd_law_cut_7d8ca634 G)
theorem ok_Wall_cut {G : Gx} {mg : Str → Option Value} {A : Ad} {base : Heap} (T : Txt G mg A) : FnOk G.k.P G.k.w G.k.K mg base (L2N.CX G.k.P G.k.w) 9 A.f_Wall_cut A.fd_Wall_cut ["self", "heat"] (liftSp G.k (sp_Wall_cut G)) :=
  fun_ok (k := 8) (tb := tb_Wall_cut G) T.F_Wall_cut sc_Wall_cut (by intro ds L Q R h; unfold sp_Wall_cut at h; first | (rcases h with h | h <;> (first | (obtain ⟨rfl, _⟩ := h; rfl) | (obtain ⟨_, _, _, rfl, _, _, rfl, _⟩ := h; rfl) | (obtain ⟨_, _, _, rfl, _, _, _, rfl, _⟩ := h; rfl) | (obtain ⟨_, rfl, _⟩ := h; rfl) | (obtain ⟨_, _, rfl, _⟩ := h; rfl) | (obtain ⟨_, _, _, rfl, _⟩ := h; rfl) | (obtain ⟨_, _, _, _, rfl, _⟩ := h; rfl) | (obtain ⟨_, _, _, _, _, rfl, _⟩ := h; rfl) | (obtain ⟨_, _, _, _, _, _, rfl, _⟩ := h; rfl) | (obtain ⟨_, _, _, _, _, _, _, rfl, _⟩ := h; rfl) | (obtain ⟨_, _, _, _, _, _, _, _, rfl, _⟩ := h; rfl) | (obtain ⟨_, _, _, _, _, _, _, _, _, rfl, _⟩ := h; rfl) | (obtain ⟨_, _, _, _, _, _, _, _, _, _, rfl, _⟩ := h; rfl) | (obtain ⟨_, _, _, _, _, _, _, _, _, _, _, rfl, _⟩ := h; rfl) | (obtain ⟨_, _, _, _, _, _, _, _, _, _, _, _, rfl, _⟩ := h; rfl) | (obtain ⟨_, _, _, _, _, _, _, _, _, _, _, _, _, rfl, _⟩ := h; rfl) | (obtain ⟨_, _, _, _, _, _, _, _, _, _, _, _, _, _, rfl, _⟩ := h; rfl) | (obtain ⟨_, _, _, _, _, _, _, _, _, _, _, _, _, _, _, rfl, _⟩ := h; rfl) | (split at h <;> first | rfl | exact h.elim)); done) | (first | (obtain ⟨rfl, _⟩ := h; rfl) | (obtain ⟨_, _, _, rfl, _, _, rfl, _⟩ := h; rfl) | (obtain ⟨_, _, _, rfl, _, _, _, rfl, _⟩ := h; rfl) | (obtain ⟨_, rfl, _⟩ := h; rfl) | (obtain ⟨_, _, rfl, _⟩ := h; rfl) | (obtain ⟨_, _, _, rfl, _⟩ := h; rfl) | (obtain ⟨_, _, _, _, rfl, _⟩ := h; rfl) | (obtain ⟨_, _, _, _, _, rfl, _⟩ := h; rfl) | (obtain ⟨_, _, _, _, _, _, rfl, _⟩ := h; rfl) | (obtain ⟨_, _, _, _, _, _, _, rfl, _⟩ := h; rfl) | (obtain ⟨_, _, _, _, _, _, _, _, rfl, _⟩ := h; rfl) | (obtain ⟨_, _, _, _, _, _, _, _, _, rfl, _⟩ := h; rfl) | (obtain ⟨_, _, _, _, _, _, _, _, _, _, rfl, _⟩ := h; rfl) | (obtain ⟨_, _, _, _, _, _, _, _, _, _, _, rfl, _⟩ := h; rfl) | (obtain ⟨_, _, _, _, _, _, _, _, _, _, _, _, rfl, _⟩ := h; rfl) | (obtain ⟨_, _, _, _, _, _, _, _, _, _, _, _, _, rfl, _⟩ := h; rfl) | (obtain ⟨_, _, _, _, _, _, _, _, _, _, _, _, _, _, rfl, _⟩ := h; rfl) | (obtain ⟨_, _, _, _, _, _, _, _, _, _, _, _, _, _, _, rfl, _⟩ := h; rfl) | (split at h <;> first | rfl | exact h.elim))) (fun cdv A_ outer s H E hr => by
    have sc := sc_Wall_cut
    exact (b_cons (s_set (i := 2) sc.nd (a_meth (av 0) T.cl_Wall T.Mt_Wall_at (ok_Wall_at T) (hr.mono (by decide)) T.b_Wall_at .nil (fun _ => .nil) (L2N.takes_of rfl rfl rfl rfl) (args1 (g_cons (av 1) g_nil)))) (b_cons (s_setLcN (own := [("point", 3)]) newD_ok (i := 4) rfl sc.nd rfl (show List.lookup ("points" : Str) (defScope s_Wall_cut).names = some NameKind.local from by first | rfl | decide +kernel) (sw_true rfl (show List.lookup ("points" : Str) (defScope s_Wall_cut).names = some NameKind.local from by first | rfl | decide +kernel) rfl (by decide +kernel)) (i_seq (a_fld 0 (av 0))) (blkOk_by (N := ["self", "heat", "place", "point", "points"]) (sc := defScope s_Wall_cut) (own := [("point", 3)]) (by decide +kernel)) (gok_name 3) (by decide) (fun _ _ _ _ _ => (g_name 3 sc.nd)) (fun _ _ _ _ _ => (t_one (t_tru (a_meth (a_item (av 3) a_int) T.cl_Dyadic T.Mt_Dyadic_less (ok_Dyadic_less T) (hr.mono (by decide)) T.b_Dyadic_less .nil (fun _ => .nil) takesN (args1 (g_cons (av 1) g_nil)))))) (fun _ _ _ _ _ => (av 3))) (b_one (s_ret (a_make T.mk_Wall T.fo_Wall (ok_Wall_init T) (mkok2_Wall_init G) (hr.mono (by decide)) rfl T.g_Wall T.b_Wall_init .nil (fun _ => .nil) (L2N.takes_of rfl rfl rfl rfl) (args1 (g_cons (a_addN newD_ok (av 4) (a_lstN newD_ok (g_cons (a_tup (g_cons (av 1) (g_cons (av 2) g_nil))) g_nil))) (g_cons a_int g_nil))))))))) (rd_Wall_cut G)
theorem ok_Wall_slope {G : Gx} {mg : Str → Option Value} {A : Ad} {base : Heap} (T : Txt G mg A) : FnOk G.k.P G.k.w G.k.K mg base (L2N.CX G.k.P G.k.w) 1 A.f_Wall_slope A.fd_Wall_slope ["self"] (liftSp G.k (sp_Wall_slope G)) :=
  fun_ok (k := 0) (tb := tb_Wall_slope G) T.F_Wall_slope sc_Wall_slope (by intro ds L Q R h; unfold sp_Wall_slope at h; first | (rcases h with h | h <;> (first | (obtain ⟨rfl, _⟩ := h; rfl) | (obtain ⟨_, _, _, rfl, _, _, rfl, _⟩ := h; rfl) | (obtain ⟨_, _, _, rfl, _, _, _, rfl, _⟩ := h; rfl) | (obtain ⟨_, rfl, _⟩ := h; rfl) | (obtain ⟨_, _, rfl, _⟩ := h; rfl) | (obtain ⟨_, _, _, rfl, _⟩ := h; rfl) | (obtain ⟨_, _, _, _, rfl, _⟩ := h; rfl) | (obtain ⟨_, _, _, _, _, rfl, _⟩ := h; rfl) | (obtain ⟨_, _, _, _, _, _, rfl, _⟩ := h; rfl) | (obtain ⟨_, _, _, _, _, _, _, rfl, _⟩ := h; rfl) | (obtain ⟨_, _, _, _, _, _, _, _, rfl, _⟩ := h; rfl) | (obtain ⟨_, _, _, _, _, _, _, _, _, rfl, _⟩ := h; rfl) | (obtain ⟨_, _, _, _, _, _, _, _, _, _, rfl, _⟩ := h; rfl) | (obtain ⟨_, _, _, _, _, _, _, _, _, _, _, rfl, _⟩ := h; rfl) | (obtain ⟨_, _, _, _, _, _, _, _, _, _, _, _, rfl, _⟩ := h; rfl) | (obtain ⟨_, _, _, _, _, _, _, _, _, _, _, _, _, rfl, _⟩ := h; rfl) | (obtain ⟨_, _, _, _, _, _, _, _, _, _, _, _, _, _, rfl, _⟩ := h; rfl) | (obtain ⟨_, _, _, _, _, _, _, _, _, _, _, _, _, _, _, rfl, _⟩ := h; rfl) | (split at h <;> first | rfl | exact h.elim)); done) | (first | (obtain ⟨rfl, _⟩ := h; rfl) | (obtain ⟨_, _, _, rfl, _, _, rfl, _⟩ := h; rfl) | (obtain ⟨_, _, _, rfl, _, _, _, rfl, _⟩ := h; rfl) | (obtain ⟨_, rfl, _⟩ := h; rfl) | (obtain ⟨_, _, rfl, _⟩ := h; rfl) | (obtain ⟨_, _, _, rfl, _⟩ := h; rfl) | (obtain ⟨_, _, _, _, rfl, _⟩ := h; rfl) | (obtain ⟨_, _, _, _, _, rfl, _⟩ := h; rfl) | (obtain ⟨_, _, _, _, _, _, rfl, _⟩ := h; rfl) | (obtain ⟨_, _, _, _, _, _, _, rfl, _⟩ := h; rfl) | (obtain ⟨_, _, _, _, _, _, _, _, rfl, _⟩ := h; rfl) | (obtain ⟨_, _, _, _, _, _, _, _, _, rfl, _⟩ := h; rfl) | (obtain ⟨_, _, _, _, _, _, _, _, _, _, rfl, _⟩ := h; rfl) | (obtain ⟨_, _, _, _, _, _, _, _, _, _, _, rfl, _⟩ := h; rfl) | (obtain ⟨_, _, _, _, _, _, _, _, _, _, _, _, rfl, _⟩ := h; rfl) | (obtain ⟨_, _, _, _, _, _, _, _, _, _, _, _, _, rfl, _⟩ := h; rfl) | (obtain ⟨_, _, _, _, _, _, _, _, _, _, _, _, _, _, rfl, _⟩ := h; rfl) | (obtain ⟨_, _, _, _, _, _, _, _, _, _, _, _, _, _, _, rfl, _⟩ := h; rfl) | (split at h <;> first | rfl | exact h.elim))) (fun cdv A_ outer s H E hr => by
    have sc := sc_Wall_slope
    exact (b_one (s_ret (a_item (a_fld 1 (av 0)) (a_neg a_int))))) (rd_Wall_slope G)
theorem ok_Wall_points {G : Gx} {mg : Str → Option Value} {A : Ad} {base : Heap} (T : Txt G mg A) : FnOk G.k.P G.k.w G.k.K mg base (L2N.CX G.k.P G.k.w) 1 A.f_Wall_points A.fd_Wall_points ["self"] (liftSp G.k (sp_Wall_points G)) :=
  fun_ok (k := 0) (tb := tb_Wall_points G) T.F_Wall_points sc_Wall_points (by intro ds L Q R h; unfold sp_Wall_points at h; first | (rcases h with h | h <;> (first | (obtain ⟨rfl, _⟩ := h; rfl) | (obtain ⟨_, _, _, rfl, _, _, rfl, _⟩ := h; rfl) | (obtain ⟨_, _, _, rfl, _, _, _, rfl, _⟩ := h; rfl) | (obtain ⟨_, rfl, _⟩ := h; rfl) | (obtain ⟨_, _, rfl, _⟩ := h; rfl) | (obtain ⟨_, _, _, rfl, _⟩ := h; rfl) | (obtain ⟨_, _, _, _, rfl, _⟩ := h; rfl) | (obtain ⟨_, _, _, _, _, rfl, _⟩ := h; rfl) | (obtain ⟨_, _, _, _, _, _, rfl, _⟩ := h; rfl) | (obtain ⟨_, _, _, _, _, _, _, rfl, _⟩ := h; rfl) | (obtain ⟨_, _, _, _, _, _, _, _, rfl, _⟩ := h; rfl) | (obtain ⟨_, _, _, _, _, _, _, _, _, rfl, _⟩ := h; rfl) | (obtain ⟨_, _, _, _, _, _, _, _, _, _, rfl, _⟩ := h; rfl) | (obtain ⟨_, _, _, _, _, _, _, _, _, _, _, rfl, _⟩ := h; rfl) | (obtain ⟨_, _, _, _, _, _, _, _, _, _, _, _, rfl, _⟩ := h; rfl) | (obtain ⟨_, _, _, _, _, _, _, _, _, _, _, _, _, rfl, _⟩ := h; rfl) | (obtain ⟨_, _, _, _, _, _, _, _, _, _, _, _, _, _, rfl, _⟩ := h; rfl) | (obtain ⟨_, _, _, _, _, _, _, _, _, _, _, _, _, _, _, rfl, _⟩ := h; rfl) | (split at h <;> first | rfl | exact h.elim)); done) | (first | (obtain ⟨rfl, _⟩ := h; rfl) | (obtain ⟨_, _, _, rfl, _, _, rfl, _⟩ := h; rfl) | (obtain ⟨_, _, _, rfl, _, _, _, rfl, _⟩ := h; rfl) | (obtain ⟨_, rfl, _⟩ := h; rfl) | (obtain ⟨_, _, rfl, _⟩ := h; rfl) | (obtain ⟨_, _, _, rfl, _⟩ := h; rfl) | (obtain ⟨_, _, _, _, rfl, _⟩ := h; rfl) | (obtain ⟨_, _, _, _, _, rfl, _⟩ := h; rfl) | (obtain ⟨_, _, _, _, _, _, rfl, _⟩ := h; rfl) | (obtain ⟨_, _, _, _, _, _, _, rfl, _⟩ := h; rfl) | (obtain ⟨_, _, _, _, _, _, _, _, rfl, _⟩ := h; rfl) | (obtain ⟨_, _, _, _, _, _, _, _, _, rfl, _⟩ := h; rfl) | (obtain ⟨_, _, _, _, _, _, _, _, _, _, rfl, _⟩ := h; rfl) | (obtain ⟨_, _, _, _, _, _, _, _, _, _, _, rfl, _⟩ := h; rfl) | (obtain ⟨_, _, _, _, _, _, _, _, _, _, _, _, rfl, _⟩ := h; rfl) | (obtain ⟨_, _, _, _, _, _, _, _, _, _, _, _, _, rfl, _⟩ := h; rfl) | (obtain ⟨_, _, _, _, _, _, _, _, _, _, _, _, _, _, rfl, _⟩ := h; rfl) | (obtain ⟨_, _, _, _, _, _, _, _, _, _, _, _, _, _, _, rfl, _⟩ := h; rfl) | (split at h <;> first | rfl | exact h.elim))) (fun cdv A_ outer s H E hr => by
    have sc := sc_Wall_points
    exact (b_one (s_ret (a_listN newS_ok rfl T.n_list (g_cons (a_fld 0 (av 0)) g_nil))))) (rd_Wall_points G)
theorem ok_law_told_74f31f6a {G : Gx} {mg : Str → Option Value} {A : Ad} {base : Heap} (T : Txt G mg A) : FnOk G.k.P G.k.w G.k.K mg base (L2N.CX G.k.P G.k.w) 4 A.f_law_told_74f31f6a A.fd_law_told_74f31f6a ["_law_shut", "_law_line"] (liftSp G.k (sp_law_told_74f31f6a G)) :=
  fun_ok (k := 3) (tb := tb_law_told_74f31f6a G) T.F_law_told_74f31f6a sc_law_told_74f31f6a (by intro ds L Q R h; unfold sp_law_told_74f31f6a at h; first | (rcases h with h | h <;> (first | (obtain ⟨rfl, _⟩ := h; rfl) | (obtain ⟨_, _, _, rfl, _, _, rfl, _⟩ := h; rfl) | (obtain ⟨_, _, _, rfl, _, _, _, rfl, _⟩ := h; rfl) | (obtain ⟨_, rfl, _⟩ := h; rfl) | (obtain ⟨_, _, rfl, _⟩ := h; rfl) | (obtain ⟨_, _, _, rfl, _⟩ := h; rfl) | (obtain ⟨_, _, _, _, rfl, _⟩ := h; rfl) | (obtain ⟨_, _, _, _, _, rfl, _⟩ := h; rfl) | (obtain ⟨_, _, _, _, _, _, rfl, _⟩ := h; rfl) | (obtain ⟨_, _, _, _, _, _, _, rfl, _⟩ := h; rfl) | (obtain ⟨_, _, _, _, _, _, _, _, rfl, _⟩ := h; rfl) | (obtain ⟨_, _, _, _, _, _, _, _, _, rfl, _⟩ := h; rfl) | (obtain ⟨_, _, _, _, _, _, _, _, _, _, rfl, _⟩ := h; rfl) | (obtain ⟨_, _, _, _, _, _, _, _, _, _, _, rfl, _⟩ := h; rfl) | (obtain ⟨_, _, _, _, _, _, _, _, _, _, _, _, rfl, _⟩ := h; rfl) | (obtain ⟨_, _, _, _, _, _, _, _, _, _, _, _, _, rfl, _⟩ := h; rfl) | (obtain ⟨_, _, _, _, _, _, _, _, _, _, _, _, _, _, rfl, _⟩ := h; rfl) | (obtain ⟨_, _, _, _, _, _, _, _, _, _, _, _, _, _, _, rfl, _⟩ := h; rfl) | (split at h <;> first | rfl | exact h.elim)); done) | (first | (obtain ⟨rfl, _⟩ := h; rfl) | (obtain ⟨_, _, _, rfl, _, _, rfl, _⟩ := h; rfl) | (obtain ⟨_, _, _, rfl, _, _, _, rfl, _⟩ := h; rfl) | (obtain ⟨_, rfl, _⟩ := h; rfl) | (obtain ⟨_, _, rfl, _⟩ := h; rfl) | (obtain ⟨_, _, _, rfl, _⟩ := h; rfl) | (obtain ⟨_, _, _, _, rfl, _⟩ := h; rfl) | (obtain ⟨_, _, _, _, _, rfl, _⟩ := h; rfl) | (obtain ⟨_, _, _, _, _, _, rfl, _⟩ := h; rfl) | (obtain ⟨_, _, _, _, _, _, _, rfl, _⟩ := h; rfl) | (obtain ⟨_, _, _, _, _, _, _, _, rfl, _⟩ := h; rfl) | (obtain ⟨_, _, _, _, _, _, _, _, _, rfl, _⟩ := h; rfl) | (obtain ⟨_, _, _, _, _, _, _, _, _, _, rfl, _⟩ := h; rfl) | (obtain ⟨_, _, _, _, _, _, _, _, _, _, _, rfl, _⟩ := h; rfl) | (obtain ⟨_, _, _, _, _, _, _, _, _, _, _, _, rfl, _⟩ := h; rfl) | (obtain ⟨_, _, _, _, _, _, _, _, _, _, _, _, _, rfl, _⟩ := h; rfl) | (obtain ⟨_, _, _, _, _, _, _, _, _, _, _, _, _, _, rfl, _⟩ := h; rfl) | (obtain ⟨_, _, _, _, _, _, _, _, _, _, _, _, _, _, _, rfl, _⟩ := h; rfl) | (split at h <;> first | rfl | exact h.elim))) (fun cdv A_ outer s H E hr => by
    have sc := sc_law_told_74f31f6a
    exact (b_cons (s_setLcN (own := [("_law_k", 2)]) newD_ok (i := 3) rfl sc.nd rfl (show List.lookup ("_law_kept" : Str) (defScope s_law_told_74f31f6a).names = some NameKind.local from by first | rfl | decide +kernel) (sw_true rfl (show List.lookup ("_law_kept" : Str) (defScope s_law_told_74f31f6a).names = some NameKind.local from by first | rfl | decide +kernel) rfl (by decide +kernel)) (i_rng1 rfl T.n_range (g_cons (a_len rfl T.n_len (g_cons (a_item (av 1) a_int) g_nil)) g_nil)) (blkOk_by (N := ["_law_shut", "_law_line", "_law_k", "_law_kept", "_law_points", "_law_i", "_law_point", "_law_due"]) (sc := defScope s_law_told_74f31f6a) (own := [("_law_k", 2)]) (by decide +kernel)) (gok_name 2) (by decide) (fun _ _ _ _ _ => (g_name 2 sc.nd)) (fun _ _ _ _ _ => (t_one (PW.pt (w_or (t_eq hr.units (av 2) a_int) (w_or1 (t_ne hr.units (a_item (a_item (av 1) a_int) (av 2)) (a_item (a_item (av 1) a_int) (a_sub (av 2) a_int)))))))) (fun _ _ _ _ _ => (av 2))) (b_cons (s_if (PW.pt (w_or (t_not (t_tru (a_isi rfl T.n_isinstance (g_cons (av 0) (g_cons (a_glob rfl T.g_Wall rel_ref (fun _ => .ref _)) g_nil))))) (w_or (t_not (t_tru (a_call (ok_law_is_integer_fcf59962 T) (hr.mono (by decide)) rfl T.m_law_is_integer_fcf59962 T.F_law_is_integer_fcf59962.kp T.b_law_is_integer_fcf59962 .nil (fun _ => .nil) (L2N.takes_of rfl rfl rfl rfl) (args1 (g_cons (a_prop (av 0) T.cl_Wall T.P_Wall_slope (ok_Wall_slope T) (hr.mono (by decide)) T.b_Wall_slope) g_nil))))) (w_or1 (t_ne hr.units (a_prop (av 0) T.cl_Wall T.P_Wall_slope (ok_Wall_slope T) (hr.mono (by decide)) T.b_Wall_slope) (a_item (a_item (av 1) a_int) (a_neg a_int))))))) (b_one (s_ret a_bl)) b_nil) (b_cons (s_set (i := 4) sc.nd (a_meth (av 0) T.cl_Wall T.Mt_Wall_points (ok_Wall_points T) (hr.mono (by decide)) T.b_Wall_points .nil (fun _ => .nil) (L2N.takes_of rfl rfl rfl rfl) args0)) (b_cons (s_if (PW.pt (w_or (t_not (t_tru (a_isi rfl T.n_isinstance (g_cons (av 4) (g_cons (a_bltn rfl T.n_list (by decide +kernel)) g_nil))))) (w_or1 (t_ne hr.units (a_len rfl T.n_len (g_cons (av 4) g_nil)) (a_len rfl T.n_len (g_cons (av 3) g_nil)))))) (b_one (s_ret a_bl)) b_nil) (b_cons (s_for (passes_of rfl) rfl (i_rng1 rfl T.n_range (g_cons (a_len rfl T.n_len (g_cons (av 3) g_nil)) g_nil)) (g_name 5 sc.nd) (gok_name 5) (b_cons (s_set (i := 6) sc.nd (a_item (av 4) (av 5))) (b_cons (s_set (i := 7) sc.nd (a_item (a_item (av 1) a_int) (a_item (av 3) (av 5)))) (b_cons (s_if (PW.pt (w_or (t_not (t_tru (a_isi rfl T.n_isinstance (g_cons (av 6) (g_cons (a_bltn rfl T.n_tuple (by decide +kernel)) g_nil))))) (w_or1 (t_ne hr.units (a_len rfl T.n_len (g_cons (av 6) g_nil)) a_int)))) (b_one (s_ret a_bl)) b_nil) (b_one (s_if (PW.pt (w_or (t_not (t_tru (a_call (ok_law_is_d09be0d2 T) (hr.mono (by decide)) rfl T.m_law_is_d09be0d2 T.F_law_is_d09be0d2.kp T.b_law_is_d09be0d2 .nil (fun _ => .nil) (L2N.takes_of rfl rfl rfl rfl) (args1 (g_cons (a_item (av 6) a_int) (g_cons (a_item (av 7) a_int) g_nil)))))) (w_or1 (t_not (t_tru (a_call (ok_law_is_d09be0d2 T) (hr.mono (by decide)) rfl T.m_law_is_d09be0d2 T.F_law_is_d09be0d2.kp T.b_law_is_d09be0d2 .nil (fun _ => .nil) (L2N.takes_of rfl rfl rfl rfl) (args1 (g_cons (a_item (av 6) a_int) (g_cons (a_item (av 7) a_int) g_nil))))))))) (b_one (s_ret a_bl)) b_nil)))))) (b_cons (s_expr (a_append (av 4) (g_cons (a_item (av 4) a_int) g_nil))) (b_cons (s_expr (a_reverse (av 4))) (b_one (s_ret (a_frz a_bl))))))))))) (rd_law_told_74f31f6a G)
theorem ok_law_asked_55bd0f0b {G : Gx} {mg : Str → Option Value} {A : Ad} {base : Heap} (T : Txt G mg A) : FnOk G.k.P G.k.w G.k.K mg base (L2N.CX G.k.P G.k.w) 10 A.f_law_asked_55bd0f0b A.fd_law_asked_55bd0f0b ["_law_shut", "_law_line", "_law_heat"] (liftSp G.k (sp_law_asked_55bd0f0b G)) :=
  fun_ok (k := 9) (tb := tb_law_asked_55bd0f0b G) T.F_law_asked_55bd0f0b sc_law_asked_55bd0f0b (by intro ds L Q R h; unfold sp_law_asked_55bd0f0b at h; first | (rcases h with h | h <;> (first | (obtain ⟨rfl, _⟩ := h; rfl) | (obtain ⟨_, _, _, rfl, _, _, rfl, _⟩ := h; rfl) | (obtain ⟨_, _, _, rfl, _, _, _, rfl, _⟩ := h; rfl) | (obtain ⟨_, rfl, _⟩ := h; rfl) | (obtain ⟨_, _, rfl, _⟩ := h; rfl) | (obtain ⟨_, _, _, rfl, _⟩ := h; rfl) | (obtain ⟨_, _, _, _, rfl, _⟩ := h; rfl) | (obtain ⟨_, _, _, _, _, rfl, _⟩ := h; rfl) | (obtain ⟨_, _, _, _, _, _, rfl, _⟩ := h; rfl) | (obtain ⟨_, _, _, _, _, _, _, rfl, _⟩ := h; rfl) | (obtain ⟨_, _, _, _, _, _, _, _, rfl, _⟩ := h; rfl) | (obtain ⟨_, _, _, _, _, _, _, _, _, rfl, _⟩ := h; rfl) | (obtain ⟨_, _, _, _, _, _, _, _, _, _, rfl, _⟩ := h; rfl) | (obtain ⟨_, _, _, _, _, _, _, _, _, _, _, rfl, _⟩ := h; rfl) | (obtain ⟨_, _, _, _, _, _, _, _, _, _, _, _, rfl, _⟩ := h; rfl) | (obtain ⟨_, _, _, _, _, _, _, _, _, _, _, _, _, rfl, _⟩ := h; rfl) | (obtain ⟨_, _, _, _, _, _, _, _, _, _, _, _, _, _, rfl, _⟩ := h; rfl) | (obtain ⟨_, _, _, _, _, _, _, _, _, _, _, _, _, _, _, rfl, _⟩ := h; rfl) | (split at h <;> first | rfl | exact h.elim)); done) | (first | (obtain ⟨rfl, _⟩ := h; rfl) | (obtain ⟨_, _, _, rfl, _, _, rfl, _⟩ := h; rfl) | (obtain ⟨_, _, _, rfl, _, _, _, rfl, _⟩ := h; rfl) | (obtain ⟨_, rfl, _⟩ := h; rfl) | (obtain ⟨_, _, rfl, _⟩ := h; rfl) | (obtain ⟨_, _, _, rfl, _⟩ := h; rfl) | (obtain ⟨_, _, _, _, rfl, _⟩ := h; rfl) | (obtain ⟨_, _, _, _, _, rfl, _⟩ := h; rfl) | (obtain ⟨_, _, _, _, _, _, rfl, _⟩ := h; rfl) | (obtain ⟨_, _, _, _, _, _, _, rfl, _⟩ := h; rfl) | (obtain ⟨_, _, _, _, _, _, _, _, rfl, _⟩ := h; rfl) | (obtain ⟨_, _, _, _, _, _, _, _, _, rfl, _⟩ := h; rfl) | (obtain ⟨_, _, _, _, _, _, _, _, _, _, rfl, _⟩ := h; rfl) | (obtain ⟨_, _, _, _, _, _, _, _, _, _, _, rfl, _⟩ := h; rfl) | (obtain ⟨_, _, _, _, _, _, _, _, _, _, _, _, rfl, _⟩ := h; rfl) | (obtain ⟨_, _, _, _, _, _, _, _, _, _, _, _, _, rfl, _⟩ := h; rfl) | (obtain ⟨_, _, _, _, _, _, _, _, _, _, _, _, _, _, rfl, _⟩ := h; rfl) | (obtain ⟨_, _, _, _, _, _, _, _, _, _, _, _, _, _, _, rfl, _⟩ := h; rfl) | (split at h <;> first | rfl | exact h.elim))) (fun cdv A_ outer s H E hr => by
    have sc := sc_law_asked_55bd0f0b
    exact (b_cons (s_if (t_not (t_tru (a_call (ok_law_is_d09be0d2 T) (hr.mono (by decide)) rfl T.m_law_is_d09be0d2 T.F_law_is_d09be0d2.kp T.b_law_is_d09be0d2 .nil (fun _ => .nil) (L2N.takes_of rfl rfl rfl rfl) (args1 (g_cons (a_meth (av 0) T.cl_Wall T.Mt_Wall_at (ok_Wall_at T) (hr.mono (by decide)) T.b_Wall_at .nil (fun _ => .nil) (L2N.takes_of rfl rfl rfl rfl) (args1 (g_cons (a_make T.mk_Dyadic T.fo_Dyadic (ok_Dyadic_init T) (mkok2_Dyadic_init G) (hr.mono (by decide)) rfl T.g_Dyadic T.b2_Dyadic_init.choose_spec.2 T.b2_Dyadic_init.choose_spec.1 (fun _ => .nil) (L2N.takes_of rfl rfl rfl rfl) (args1 (g_cons (av 2) (g_cons a_int g_nil)))) g_nil))) (g_cons (a_call (ok_law_at_ade38b70 T) (hr.mono (by decide)) rfl T.m_law_at_ade38b70 T.F_law_at_ade38b70.kp T.b_law_at_ade38b70 .nil (fun _ => .nil) (L2N.takes_of rfl rfl rfl rfl) (args1 (g_cons (av 1) (g_cons (av 2) g_nil)))) g_nil)))))) (b_one (s_ret a_bl)) b_nil) (b_cons (s_set (i := 3) sc.nd (a_meth (av 0) T.cl_Wall T.Mt_Wall_slope_at (ok_Wall_slope_at T) (hr.mono (by decide)) T.b_Wall_slope_at .nil (fun _ => .nil) (L2N.takes_of rfl rfl rfl rfl) (args1 (g_cons (a_make T.mk_Dyadic T.fo_Dyadic (ok_Dyadic_init T) (mkok2_Dyadic_init G) (hr.mono (by decide)) rfl T.g_Dyadic T.b2_Dyadic_init.choose_spec.2 T.b2_Dyadic_init.choose_spec.1 (fun _ => .nil) (L2N.takes_of rfl rfl rfl rfl) (args1 (g_cons (av 2) (g_cons a_int g_nil)))) g_nil)))) (b_cons (s_if (PW.pt (w_or (t_not (t_tru (a_call (ok_law_is_integer_fcf59962 T) (hr.mono (by decide)) rfl T.m_law_is_integer_fcf59962 T.F_law_is_integer_fcf59962.kp T.b_law_is_integer_fcf59962 .nil (fun _ => .nil) (L2N.takes_of rfl rfl rfl rfl) (args1 (g_cons (av 3) g_nil))))) (w_or1 (t_ne hr.units (av 3) (a_item (a_item (av 1) a_int) (a_call (ok_law_place_8b093576 T) (hr.mono (by decide)) rfl T.m_law_place_8b093576 T.F_law_place_8b093576.kp T.b_law_place_8b093576 .nil (fun _ => .nil) (L2N.takes_of rfl rfl rfl rfl) (args1 (g_cons (av 1) (g_cons (av 2) g_nil))))))))) (b_one (s_ret a_bl)) b_nil) (b_cons (s_set (i := 4) sc.nd (a_call (ok_law_cut_7d8ca634 T) (hr.mono (by decide)) rfl T.m_law_cut_7d8ca634 T.F_law_cut_7d8ca634.kp T.b_law_cut_7d8ca634 .nil (fun _ => .nil) (L2N.takes_of rfl rfl rfl rfl) (args1 (g_cons (av 1) (g_cons (av 2) g_nil))))) (b_cons (s_set (i := 5) sc.nd (a_meth (av 0) T.cl_Wall T.Mt_Wall_cut (ok_Wall_cut T) (hr.mono (by decide)) T.b_Wall_cut .nil (fun _ => .nil) (L2N.takes_of rfl rfl rfl rfl) (args1 (g_cons (a_make T.mk_Dyadic T.fo_Dyadic (ok_Dyadic_init T) (mkok2_Dyadic_init G) (hr.mono (by decide)) rfl T.g_Dyadic T.b2_Dyadic_init.choose_spec.2 T.b2_Dyadic_init.choose_spec.1 (fun _ => .nil) (L2N.takes_of rfl rfl rfl rfl) (args1 (g_cons (av 2) (g_cons a_int g_nil)))) g_nil)))) (b_cons (s_set (i := 6) sc.nd (a_addN newD_ok (a_addN newD_ok (av 2) a_int) (a_div (av 2) a_int))) (b_cons (s_if (PW.pt (w_or (t_not (t_tru (a_call (ok_law_told_74f31f6a T) (hr.mono (by decide)) rfl T.m_law_told_74f31f6a T.F_law_told_74f31f6a.kp T.b_law_told_74f31f6a .nil (fun _ => .nil) (L2N.takes_of rfl rfl rfl rfl) (args1 (g_cons (av 5) (g_cons (av 4) g_nil)))))) (w_or1 (t_not (t_tru (a_call (ok_law_is_d09be0d2 T) (hr.mono (by decide)) rfl T.m_law_is_d09be0d2 T.F_law_is_d09be0d2.kp T.b_law_is_d09be0d2 .nil (fun _ => .nil) (L2N.takes_of rfl rfl rfl rfl) (args1 (g_cons (a_meth (av 5) T.cl_Wall T.Mt_Wall_at (ok_Wall_at T) (hr.mono (by decide)) T.b_Wall_at .nil (fun _ => .nil) (L2N.takes_of rfl rfl rfl rfl) (args1 (g_cons (a_make T.mk_Dyadic T.fo_Dyadic (ok_Dyadic_init T) (mkok2_Dyadic_init G) (hr.mono (by decide)) rfl T.g_Dyadic T.b2_Dyadic_init.choose_spec.2 T.b2_Dyadic_init.choose_spec.1 (fun _ => .nil) (L2N.takes_of rfl rfl rfl rfl) (args1 (g_cons (av 6) (g_cons a_int g_nil)))) g_nil))) (g_cons (a_item (a_item (a_item (av 4) a_int) (a_neg a_int)) a_int) g_nil))))))))) (b_one (s_ret a_bl)) b_nil) (b_one (s_ret (a_call (ok_law_told_74f31f6a T) (hr.mono (by decide)) rfl T.m_law_told_74f31f6a T.F_law_told_74f31f6a.kp T.b_law_told_74f31f6a .nil (fun _ => .nil) (L2N.takes_of rfl rfl rfl rfl) (args1 (g_cons (av 0) (g_cons (av 1) g_nil)))))))))))))) (rd_law_asked_55bd0f0b G)
theorem ok_Wall_tilted {G : Gx} {mg : Str → Option Value} {A : Ad} {base : Heap} (T : Txt G mg A) : FnOk G.k.P G.k.w G.k.K mg base (L2N.CX G.k.P G.k.w) 9 A.f_Wall_tilted A.fd_Wall_tilted ["self", "slope"] (liftSp G.k (sp_Wall_tilted G)) :=
  fun_ok (k := 8) (tb := tb_Wall_tilted G) T.F_Wall_tilted sc_Wall_tilted (by intro ds L Q R h; unfold sp_Wall_tilted at h; first | (rcases h with h | h <;> (first | (obtain ⟨rfl, _⟩ := h; rfl) | (obtain ⟨_, _, _, rfl, _, _, rfl, _⟩ := h; rfl) | (obtain ⟨_, _, _, rfl, _, _, _, rfl, _⟩ := h; rfl) | (obtain ⟨_, rfl, _⟩ := h; rfl) | (obtain ⟨_, _, rfl, _⟩ := h; rfl) | (obtain ⟨_, _, _, rfl, _⟩ := h; rfl) | (obtain ⟨_, _, _, _, rfl, _⟩ := h; rfl) | (obtain ⟨_, _, _, _, _, rfl, _⟩ := h; rfl) | (obtain ⟨_, _, _, _, _, _, rfl, _⟩ := h; rfl) | (obtain ⟨_, _, _, _, _, _, _, rfl, _⟩ := h; rfl) | (obtain ⟨_, _, _, _, _, _, _, _, rfl, _⟩ := h; rfl) | (obtain ⟨_, _, _, _, _, _, _, _, _, rfl, _⟩ := h; rfl) | (obtain ⟨_, _, _, _, _, _, _, _, _, _, rfl, _⟩ := h; rfl) | (obtain ⟨_, _, _, _, _, _, _, _, _, _, _, rfl, _⟩ := h; rfl) | (obtain ⟨_, _, _, _, _, _, _, _, _, _, _, _, rfl, _⟩ := h; rfl) | (obtain ⟨_, _, _, _, _, _, _, _, _, _, _, _, _, rfl, _⟩ := h; rfl) | (obtain ⟨_, _, _, _, _, _, _, _, _, _, _, _, _, _, rfl, _⟩ := h; rfl) | (obtain ⟨_, _, _, _, _, _, _, _, _, _, _, _, _, _, _, rfl, _⟩ := h; rfl) | (split at h <;> first | rfl | exact h.elim)); done) | (first | (obtain ⟨rfl, _⟩ := h; rfl) | (obtain ⟨_, _, _, rfl, _, _, rfl, _⟩ := h; rfl) | (obtain ⟨_, _, _, rfl, _, _, _, rfl, _⟩ := h; rfl) | (obtain ⟨_, rfl, _⟩ := h; rfl) | (obtain ⟨_, _, rfl, _⟩ := h; rfl) | (obtain ⟨_, _, _, rfl, _⟩ := h; rfl) | (obtain ⟨_, _, _, _, rfl, _⟩ := h; rfl) | (obtain ⟨_, _, _, _, _, rfl, _⟩ := h; rfl) | (obtain ⟨_, _, _, _, _, _, rfl, _⟩ := h; rfl) | (obtain ⟨_, _, _, _, _, _, _, rfl, _⟩ := h; rfl) | (obtain ⟨_, _, _, _, _, _, _, _, rfl, _⟩ := h; rfl) | (obtain ⟨_, _, _, _, _, _, _, _, _, rfl, _⟩ := h; rfl) | (obtain ⟨_, _, _, _, _, _, _, _, _, _, rfl, _⟩ := h; rfl) | (obtain ⟨_, _, _, _, _, _, _, _, _, _, _, rfl, _⟩ := h; rfl) | (obtain ⟨_, _, _, _, _, _, _, _, _, _, _, _, rfl, _⟩ := h; rfl) | (obtain ⟨_, _, _, _, _, _, _, _, _, _, _, _, _, rfl, _⟩ := h; rfl) | (obtain ⟨_, _, _, _, _, _, _, _, _, _, _, _, _, _, rfl, _⟩ := h; rfl) | (obtain ⟨_, _, _, _, _, _, _, _, _, _, _, _, _, _, _, rfl, _⟩ := h; rfl) | (split at h <;> first | rfl | exact h.elim))) (fun cdv A_ outer s H E hr => by
    have sc := sc_Wall_tilted
    exact (b_cons (s_setLcN (own := [("heat", 2), ("place", 3)]) newD_ok (i := 4) rfl sc.nd rfl (show List.lookup ("points" : Str) (defScope s_Wall_tilted).names = some NameKind.local from by first | rfl | decide +kernel) (sw_true rfl (show List.lookup ("points" : Str) (defScope s_Wall_tilted).names = some NameKind.local from by first | rfl | decide +kernel) rfl (by decide +kernel)) (i_seq (a_fld 0 (av 0))) (blkOk_by (N := ["self", "slope", "heat", "place", "points"]) (sc := defScope s_Wall_tilted) (own := [("heat", 2), ("place", 3)]) (by decide +kernel)) (gok_tup [2, 3]) (by decide) (fun _ _ _ _ _ => (pg_tup rfl (pgs_cons (g_name 2 sc.nd) (pgs_cons (g_name 3 sc.nd) pgs_nil)))) (fun _ _ _ _ _ => t_yes) (fun _ _ _ _ _ => (a_tup (g_cons (av 2) (g_cons (a_opM (av 3) (a_call (ok_times T) (hr.mono (by decide)) rfl T.m_times T.F_times.kp T.b_times .nil (fun _ => .nil) takesN (args1 (g_cons (av 2) (g_cons (av 1) g_nil)))) T.sf_Dyadic T.Mt_Dyadic_add (ok_Dyadic_add T) (hr.mono (by decide)) T.b_Dyadic_add takesN) g_nil))))) (b_one (s_ret (a_make T.mk_Wall T.fo_Wall (ok_Wall_init T) (mkok2_Wall_init G) (hr.mono (by decide)) rfl T.g_Wall T.b_Wall_init .nil (fun _ => .nil) (L2N.takes_of rfl rfl rfl rfl) (args1 (g_cons (av 4) (g_cons (a_addN newD_ok (a_prop (av 0) T.cl_Wall T.P_Wall_slope (ok_Wall_slope T) (hr.mono (by decide)) T.b_Wall_slope) (av 1)) g_nil)))))))) (rd_Wall_tilted G)
theorem ok_law_is_only_611d9904 {G : Gx} {mg : Str → Option Value} {A : Ad} {base : Heap} (T : Txt G mg A) : FnX G.k.P G.k.w G.k.K mg base 1 A.f_law_is_only_611d9904 A.fd_law_is_only_611d9904 ["_law_e", "_law_word"] (sp_law_is_only_611d9904 G) :=
  fun_okX (k := 0) (tb := tb_law_is_only_611d9904 G) T.F_law_is_only_611d9904 sc_law_is_only_611d9904 (by intro c_ a_ ds L Q R h; unfold sp_law_is_only_611d9904 at h; first | (rcases h with h | h <;> (first | (obtain ⟨rfl, _⟩ := h; rfl) | (obtain ⟨_, _, _, rfl, _, _, rfl, _⟩ := h; rfl) | (obtain ⟨_, _, _, rfl, _, _, _, rfl, _⟩ := h; rfl) | (obtain ⟨_, rfl, _⟩ := h; rfl) | (obtain ⟨_, _, rfl, _⟩ := h; rfl) | (obtain ⟨_, _, _, rfl, _⟩ := h; rfl) | (obtain ⟨_, _, _, _, rfl, _⟩ := h; rfl) | (obtain ⟨_, _, _, _, _, rfl, _⟩ := h; rfl) | (obtain ⟨_, _, _, _, _, _, rfl, _⟩ := h; rfl) | (obtain ⟨_, _, _, _, _, _, _, rfl, _⟩ := h; rfl) | (obtain ⟨_, _, _, _, _, _, _, _, rfl, _⟩ := h; rfl) | (obtain ⟨_, _, _, _, _, _, _, _, _, rfl, _⟩ := h; rfl) | (obtain ⟨_, _, _, _, _, _, _, _, _, _, rfl, _⟩ := h; rfl) | (obtain ⟨_, _, _, _, _, _, _, _, _, _, _, rfl, _⟩ := h; rfl) | (obtain ⟨_, _, _, _, _, _, _, _, _, _, _, _, rfl, _⟩ := h; rfl) | (obtain ⟨_, _, _, _, _, _, _, _, _, _, _, _, _, rfl, _⟩ := h; rfl) | (obtain ⟨_, _, _, _, _, _, _, _, _, _, _, _, _, _, rfl, _⟩ := h; rfl) | (obtain ⟨_, _, _, _, _, _, _, _, _, _, _, _, _, _, _, rfl, _⟩ := h; rfl) | (split at h <;> first | rfl | exact h.elim)); done) | (first | (obtain ⟨rfl, _⟩ := h; rfl) | (obtain ⟨_, _, _, rfl, _, _, rfl, _⟩ := h; rfl) | (obtain ⟨_, _, _, rfl, _, _, _, rfl, _⟩ := h; rfl) | (obtain ⟨_, rfl, _⟩ := h; rfl) | (obtain ⟨_, _, rfl, _⟩ := h; rfl) | (obtain ⟨_, _, _, rfl, _⟩ := h; rfl) | (obtain ⟨_, _, _, _, rfl, _⟩ := h; rfl) | (obtain ⟨_, _, _, _, _, rfl, _⟩ := h; rfl) | (obtain ⟨_, _, _, _, _, _, rfl, _⟩ := h; rfl) | (obtain ⟨_, _, _, _, _, _, _, rfl, _⟩ := h; rfl) | (obtain ⟨_, _, _, _, _, _, _, _, rfl, _⟩ := h; rfl) | (obtain ⟨_, _, _, _, _, _, _, _, _, rfl, _⟩ := h; rfl) | (obtain ⟨_, _, _, _, _, _, _, _, _, _, rfl, _⟩ := h; rfl) | (obtain ⟨_, _, _, _, _, _, _, _, _, _, _, rfl, _⟩ := h; rfl) | (obtain ⟨_, _, _, _, _, _, _, _, _, _, _, _, rfl, _⟩ := h; rfl) | (obtain ⟨_, _, _, _, _, _, _, _, _, _, _, _, _, rfl, _⟩ := h; rfl) | (obtain ⟨_, _, _, _, _, _, _, _, _, _, _, _, _, _, rfl, _⟩ := h; rfl) | (obtain ⟨_, _, _, _, _, _, _, _, _, _, _, _, _, _, _, rfl, _⟩ := h; rfl) | (split at h <;> first | rfl | exact h.elim))) (fun cdv A_ outer s H E p_ c_ hr hX hH => by
    have sc := sc_law_is_only_611d9904
    exact (b_cons (s_set (i := 2) sc.nd (a_lstN newD_ok (g_cons (a_isEP hX (List.mem_cons_self ..) rfl T.n_isinstance (g_cons (av 0) (g_cons (a_glob rfl T.g_BadText rel_ref (fun _ => .ref _)) g_nil))) (g_cons (a_isEP hX (List.mem_cons_self ..) rfl T.n_isinstance (g_cons (av 0) (g_cons (a_glob rfl T.g_BadValue rel_ref (fun _ => .ref _)) g_nil))) (g_cons (a_isEP hX (List.mem_cons_self ..) rfl T.n_isinstance (g_cons (av 0) (g_cons (a_glob rfl T.g_Unknown rel_ref (fun _ => .ref _)) g_nil))) (g_cons (a_isEP hX (List.mem_cons_self ..) rfl T.n_isinstance (g_cons (av 0) (g_cons (a_glob rfl T.g_NoMove rel_ref (fun _ => .ref _)) g_nil))) g_nil)))))) (b_one (s_ret (a_and (a_eq hr.units (av 2) (a_lcNH (own := [("_law_k", 3)]) (p := p_) (hX.hot hH) (List.mem_cons_self ..) newD_ok sc.nd (i_rng1H rfl T.n_range (g_cons a_int g_nil)) (blkOk_by (N := ["_law_e", "_law_word", "_law_kinds", "_law_k"]) (sc := defScope s_law_is_only_611d9904) (own := [("_law_k", 3)]) (by decide +kernel)) (gok_name 3) (by decide) (fun _ _ _ _ _ => (g_name 3 sc.nd)) (fun _ _ _ _ _ => t_yes) (fun _ _ _ _ _ => (a_eq hr.units (av 3) (av 1))))) (a_and (a_isEP hX (List.mem_cons_self ..) rfl T.n_isinstance (g_cons (av 0) (g_cons (a_glob rfl T.g_PlayError rel_ref (fun _ => .ref _)) g_nil))) (a_one (a_isEP hX (List.mem_cons_self ..) rfl T.n_isinstance (g_cons (av 0) (g_cons (a_bltn rfl T.n_ValueError (by decide +kernel)) g_nil)))))))))) (rd_law_is_only_611d9904 G T.er_BadValue)
theorem ok_law_refused_79b82729 {G : Gx} {mg : Str → Option Value} {A : Ad} {base : Heap} (T : Txt G mg A) : FnOk G.k.P G.k.w G.k.K mg base (L2N.CX G.k.P G.k.w) 10 A.f_law_refused_79b82729 A.fd_law_refused_79b82729 ["_law_shut", "_law_word", "_law_heat"] (liftSp G.k (sp_law_refused_79b82729 G)) :=
  fun_ok (k := 9) (tb := tb_law_refused_79b82729 G) T.F_law_refused_79b82729 sc_law_refused_79b82729 (by intro ds L Q R h; unfold sp_law_refused_79b82729 at h; first | (rcases h with h | h <;> (first | (obtain ⟨rfl, _⟩ := h; rfl) | (obtain ⟨_, _, _, rfl, _, _, rfl, _⟩ := h; rfl) | (obtain ⟨_, _, _, rfl, _, _, _, rfl, _⟩ := h; rfl) | (obtain ⟨_, rfl, _⟩ := h; rfl) | (obtain ⟨_, _, rfl, _⟩ := h; rfl) | (obtain ⟨_, _, _, rfl, _⟩ := h; rfl) | (obtain ⟨_, _, _, _, rfl, _⟩ := h; rfl) | (obtain ⟨_, _, _, _, _, rfl, _⟩ := h; rfl) | (obtain ⟨_, _, _, _, _, _, rfl, _⟩ := h; rfl) | (obtain ⟨_, _, _, _, _, _, _, rfl, _⟩ := h; rfl) | (obtain ⟨_, _, _, _, _, _, _, _, rfl, _⟩ := h; rfl) | (obtain ⟨_, _, _, _, _, _, _, _, _, rfl, _⟩ := h; rfl) | (obtain ⟨_, _, _, _, _, _, _, _, _, _, rfl, _⟩ := h; rfl) | (obtain ⟨_, _, _, _, _, _, _, _, _, _, _, rfl, _⟩ := h; rfl) | (obtain ⟨_, _, _, _, _, _, _, _, _, _, _, _, rfl, _⟩ := h; rfl) | (obtain ⟨_, _, _, _, _, _, _, _, _, _, _, _, _, rfl, _⟩ := h; rfl) | (obtain ⟨_, _, _, _, _, _, _, _, _, _, _, _, _, _, rfl, _⟩ := h; rfl) | (obtain ⟨_, _, _, _, _, _, _, _, _, _, _, _, _, _, _, rfl, _⟩ := h; rfl) | (split at h <;> first | rfl | exact h.elim)); done) | (first | (obtain ⟨rfl, _⟩ := h; rfl) | (obtain ⟨_, _, _, rfl, _, _, rfl, _⟩ := h; rfl) | (obtain ⟨_, _, _, rfl, _, _, _, rfl, _⟩ := h; rfl) | (obtain ⟨_, rfl, _⟩ := h; rfl) | (obtain ⟨_, _, rfl, _⟩ := h; rfl) | (obtain ⟨_, _, _, rfl, _⟩ := h; rfl) | (obtain ⟨_, _, _, _, rfl, _⟩ := h; rfl) | (obtain ⟨_, _, _, _, _, rfl, _⟩ := h; rfl) | (obtain ⟨_, _, _, _, _, _, rfl, _⟩ := h; rfl) | (obtain ⟨_, _, _, _, _, _, _, rfl, _⟩ := h; rfl) | (obtain ⟨_, _, _, _, _, _, _, _, rfl, _⟩ := h; rfl) | (obtain ⟨_, _, _, _, _, _, _, _, _, rfl, _⟩ := h; rfl) | (obtain ⟨_, _, _, _, _, _, _, _, _, _, rfl, _⟩ := h; rfl) | (obtain ⟨_, _, _, _, _, _, _, _, _, _, _, rfl, _⟩ := h; rfl) | (obtain ⟨_, _, _, _, _, _, _, _, _, _, _, _, rfl, _⟩ := h; rfl) | (obtain ⟨_, _, _, _, _, _, _, _, _, _, _, _, _, rfl, _⟩ := h; rfl) | (obtain ⟨_, _, _, _, _, _, _, _, _, _, _, _, _, _, rfl, _⟩ := h; rfl) | (obtain ⟨_, _, _, _, _, _, _, _, _, _, _, _, _, _, _, rfl, _⟩ := h; rfl) | (split at h <;> first | rfl | exact h.elim))) (fun cdv A_ outer s H E hr => by
    have sc := sc_law_refused_79b82729
    exact (b_cons (s_tryA (i := 3) rfl rfl sc.nd rfl rfl ⟨rfl, by decide, .inl T.g_PlayError⟩ (L2N.takes_of rfl rfl rfl rfl) (fun W_ pn_ xe_ tk_ hp_ => (b_one (s_if (t_eq hr.units (av 1) a_int) (b_one (s_expr (a_meth (av 0) T.cl_Wall T.Mt_Wall_at (ok_Wall_at T) (hr.mono (by decide)) T.b_Wall_at .nil (fun _ => .nil) tk_ (args1 (g_cons (a_make T.mk_Dyadic T.fo_Dyadic (ok_Dyadic_init T) (mkok2_Dyadic_init G) (hr.mono (by decide)) rfl T.g_Dyadic T.b2_Dyadic_init.choose_spec.2 T.b2_Dyadic_init.choose_spec.1 (fun _ => .nil) tk_ (args1 (g_cons (av 2) (g_cons a_int g_nil)))) g_nil))))) (b_one (s_if (t_eq hr.units (av 1) a_int) (b_one (s_expr (a_meth (av 0) T.cl_Wall T.Mt_Wall_slope_at (ok_Wall_slope_at T) (hr.mono (by decide)) T.b_Wall_slope_at .nil (fun _ => .nil) tk_ (args1 (g_cons (a_make T.mk_Dyadic T.fo_Dyadic (ok_Dyadic_init T) (mkok2_Dyadic_init G) (hr.mono (by decide)) rfl T.g_Dyadic T.b2_Dyadic_init.choose_spec.2 T.b2_Dyadic_init.choose_spec.1 (fun _ => .nil) tk_ (args1 (g_cons (av 2) (g_cons a_int g_nil)))) g_nil))))) (b_one (s_if (t_eq hr.units (av 1) a_int) (b_one (s_expr (a_meth (av 0) T.cl_Wall T.Mt_Wall_cut (ok_Wall_cut T) (hr.mono (by decide)) T.b_Wall_cut .nil (fun _ => .nil) tk_ (args1 (g_cons (a_make T.mk_Dyadic T.fo_Dyadic (ok_Dyadic_init T) (mkok2_Dyadic_init G) (hr.mono (by decide)) rfl T.g_Dyadic T.b2_Dyadic_init.choose_spec.2 T.b2_Dyadic_init.choose_spec.1 (fun _ => .nil) tk_ (args1 (g_cons (av 2) (g_cons a_int g_nil)))) g_nil))))) (b_one (s_expr (a_meth (av 0) T.cl_Wall T.Mt_Wall_tilted (ok_Wall_tilted T) (hr.mono (by decide)) T.b_Wall_tilted .nil (fun _ => .nil) tk_ (args1 (g_cons (av 2) g_nil)))))))))))) (fun a_ oe_ c_ pn_ hC hz hv => (b_one (s_ret (a_callX (pp := (a_, oe_)) ⟨hC, hz, hv⟩ (List.mem_cons_self ..) (ok_law_is_only_611d9904 T) (hr.mono (by decide)).x rfl T.m_law_is_only_611d9904 T.F_law_is_only_611d9904.kp T.b_law_is_only_611d9904 takesN (args1 (g_cons (av 3) (g_cons a_int g_nil)))))))) (b_one (s_ret a_bl)))) (rd_law_refused_79b82729 G T.er_BadValue)
theorem ok_law_tilted_ff5ba2ea {G : Gx} {mg : Str → Option Value} {A : Ad} {base : Heap} (T : Txt G mg A) : FnOk G.k.P G.k.w G.k.K mg base (L2N.CX G.k.P G.k.w) 11 A.f_law_tilted_ff5ba2ea A.fd_law_tilted_ff5ba2ea ["_law_shut", "_law_line", "_law_slope"] (liftSp G.k (sp_law_tilted_ff5ba2ea G)) :=
  fun_ok (k := 10) (tb := tb_law_tilted_ff5ba2ea G) T.F_law_tilted_ff5ba2ea sc_law_tilted_ff5ba2ea (by intro ds L Q R h; unfold sp_law_tilted_ff5ba2ea at h; first | (rcases h with h | h <;> (first | (obtain ⟨rfl, _⟩ := h; rfl) | (obtain ⟨_, _, _, rfl, _, _, rfl, _⟩ := h; rfl) | (obtain ⟨_, _, _, rfl, _, _, _, rfl, _⟩ := h; rfl) | (obtain ⟨_, rfl, _⟩ := h; rfl) | (obtain ⟨_, _, rfl, _⟩ := h; rfl) | (obtain ⟨_, _, _, rfl, _⟩ := h; rfl) | (obtain ⟨_, _, _, _, rfl, _⟩ := h; rfl) | (obtain ⟨_, _, _, _, _, rfl, _⟩ := h; rfl) | (obtain ⟨_, _, _, _, _, _, rfl, _⟩ := h; rfl) | (obtain ⟨_, _, _, _, _, _, _, rfl, _⟩ := h; rfl) | (obtain ⟨_, _, _, _, _, _, _, _, rfl, _⟩ := h; rfl) | (obtain ⟨_, _, _, _, _, _, _, _, _, rfl, _⟩ := h; rfl) | (obtain ⟨_, _, _, _, _, _, _, _, _, _, rfl, _⟩ := h; rfl) | (obtain ⟨_, _, _, _, _, _, _, _, _, _, _, rfl, _⟩ := h; rfl) | (obtain ⟨_, _, _, _, _, _, _, _, _, _, _, _, rfl, _⟩ := h; rfl) | (obtain ⟨_, _, _, _, _, _, _, _, _, _, _, _, _, rfl, _⟩ := h; rfl) | (obtain ⟨_, _, _, _, _, _, _, _, _, _, _, _, _, _, rfl, _⟩ := h; rfl) | (obtain ⟨_, _, _, _, _, _, _, _, _, _, _, _, _, _, _, rfl, _⟩ := h; rfl) | (split at h <;> first | rfl | exact h.elim)); done) | (first | (obtain ⟨rfl, _⟩ := h; rfl) | (obtain ⟨_, _, _, rfl, _, _, rfl, _⟩ := h; rfl) | (obtain ⟨_, _, _, rfl, _, _, _, rfl, _⟩ := h; rfl) | (obtain ⟨_, rfl, _⟩ := h; rfl) | (obtain ⟨_, _, rfl, _⟩ := h; rfl) | (obtain ⟨_, _, _, rfl, _⟩ := h; rfl) | (obtain ⟨_, _, _, _, rfl, _⟩ := h; rfl) | (obtain ⟨_, _, _, _, _, rfl, _⟩ := h; rfl) | (obtain ⟨_, _, _, _, _, _, rfl, _⟩ := h; rfl) | (obtain ⟨_, _, _, _, _, _, _, rfl, _⟩ := h; rfl) | (obtain ⟨_, _, _, _, _, _, _, _, rfl, _⟩ := h; rfl) | (obtain ⟨_, _, _, _, _, _, _, _, _, rfl, _⟩ := h; rfl) | (obtain ⟨_, _, _, _, _, _, _, _, _, _, rfl, _⟩ := h; rfl) | (obtain ⟨_, _, _, _, _, _, _, _, _, _, _, rfl, _⟩ := h; rfl) | (obtain ⟨_, _, _, _, _, _, _, _, _, _, _, _, rfl, _⟩ := h; rfl) | (obtain ⟨_, _, _, _, _, _, _, _, _, _, _, _, _, rfl, _⟩ := h; rfl) | (obtain ⟨_, _, _, _, _, _, _, _, _, _, _, _, _, _, rfl, _⟩ := h; rfl) | (obtain ⟨_, _, _, _, _, _, _, _, _, _, _, _, _, _, _, rfl, _⟩ := h; rfl) | (split at h <;> first | rfl | exact h.elim))) (fun cdv A_ outer s H E hr => by
    have sc := sc_law_tilted_ff5ba2ea
    exact (b_cons (s_setLcN (own := [("_law_piece", 3)]) newD_ok (i := 4) rfl sc.nd rfl (show List.lookup ("_law_slopes" : Str) (defScope s_law_tilted_ff5ba2ea).names = some NameKind.local from by first | rfl | decide +kernel) (sw_true rfl (show List.lookup ("_law_slopes" : Str) (defScope s_law_tilted_ff5ba2ea).names = some NameKind.local from by first | rfl | decide +kernel) rfl (by decide +kernel)) (i_seq (a_item (av 1) a_int)) (blkOk_by (N := ["_law_shut", "_law_line", "_law_slope", "_law_piece", "_law_slopes", "_law_heat", "_law_place_here"]) (sc := defScope s_law_tilted_ff5ba2ea) (own := [("_law_piece", 3)]) (by decide +kernel)) (gok_name 3) (by decide) (fun _ _ _ _ _ => (g_name 3 sc.nd)) (fun _ _ _ _ _ => t_yes) (fun _ _ _ _ _ => (a_addN newD_ok (av 3) (av 2)))) (b_cons (s_if (PW.pt (w_or (t_lt (a_minL rfl rfl T.n_min (g_cons (av 4) g_nil)) (a_neg a_int)) (w_or1 (t_gt (a_maxL rfl rfl T.n_max (g_cons (av 4) g_nil)) a_int)))) (b_one (s_ret (a_call (ok_law_refused_79b82729 T) (hr.mono (by decide)) rfl T.m_law_refused_79b82729 T.F_law_refused_79b82729.kp T.b_law_refused_79b82729 .nil (fun _ => .nil) (L2N.takes_of rfl rfl rfl rfl) (args1 (g_cons (av 0) (g_cons a_int (g_cons (av 2) g_nil))))))) b_nil) (b_one (s_ret (a_call (ok_law_told_74f31f6a T) (hr.mono (by decide)) rfl T.m_law_told_74f31f6a T.F_law_told_74f31f6a.kp T.b_law_told_74f31f6a .nil (fun _ => .nil) (L2N.takes_of rfl rfl rfl rfl) (args1 (g_cons (a_meth (av 0) T.cl_Wall T.Mt_Wall_tilted (ok_Wall_tilted T) (hr.mono (by decide)) T.b_Wall_tilted .nil (fun _ => .nil) (L2N.takes_of rfl rfl rfl rfl) (args1 (g_cons (av 2) g_nil))) (g_cons (a_tup (g_cons (a_lcN (own := [("_law_heat", 5), ("_law_place_here", 6)]) newD_ok rfl sc.nd (i_seq (a_item (av 1) a_int)) (blkOk_by (N := ["_law_shut", "_law_line", "_law_slope", "_law_piece", "_law_slopes", "_law_heat", "_law_place_here"]) (sc := defScope s_law_tilted_ff5ba2ea) (own := [("_law_heat", 5), ("_law_place_here", 6)]) (by decide +kernel)) (gok_tup [5, 6]) (by decide) (fun _ _ _ _ _ => (pg_tup rfl (pgs_cons (g_name 5 sc.nd) (pgs_cons (g_name 6 sc.nd) pgs_nil)))) (fun _ _ _ _ _ => t_yes) (fun _ _ _ _ _ => (a_tup (g_cons (av 5) (g_cons (a_addN newD_ok (av 6) (a_mulT newD_ok (av 2) (av 5))) g_nil))))) (g_cons (av 4) g_nil))) g_nil))))))))) (rd_law_tilted_ff5ba2ea G)
theorem ok_Wall_turned {G : Gx} {mg : Str → Option Value} {A : Ad} {base : Heap} (T : Txt G mg A) : FnOk G.k.P G.k.w G.k.K mg base (L2N.CX G.k.P G.k.w) 9 A.f_Wall_turned A.fd_Wall_turned ["self"] (liftSp G.k (sp_Wall_turned G)) :=
  fun_ok (k := 8) (tb := tb_Wall_turned G) T.F_Wall_turned sc_Wall_turned (by intro ds L Q R h; unfold sp_Wall_turned at h; first | (rcases h with h | h <;> (first | (obtain ⟨rfl, _⟩ := h; rfl) | (obtain ⟨_, _, _, rfl, _, _, rfl, _⟩ := h; rfl) | (obtain ⟨_, _, _, rfl, _, _, _, rfl, _⟩ := h; rfl) | (obtain ⟨_, rfl, _⟩ := h; rfl) | (obtain ⟨_, _, rfl, _⟩ := h; rfl) | (obtain ⟨_, _, _, rfl, _⟩ := h; rfl) | (obtain ⟨_, _, _, _, rfl, _⟩ := h; rfl) | (obtain ⟨_, _, _, _, _, rfl, _⟩ := h; rfl) | (obtain ⟨_, _, _, _, _, _, rfl, _⟩ := h; rfl) | (obtain ⟨_, _, _, _, _, _, _, rfl, _⟩ := h; rfl) | (obtain ⟨_, _, _, _, _, _, _, _, rfl, _⟩ := h; rfl) | (obtain ⟨_, _, _, _, _, _, _, _, _, rfl, _⟩ := h; rfl) | (obtain ⟨_, _, _, _, _, _, _, _, _, _, rfl, _⟩ := h; rfl) | (obtain ⟨_, _, _, _, _, _, _, _, _, _, _, rfl, _⟩ := h; rfl) | (obtain ⟨_, _, _, _, _, _, _, _, _, _, _, _, rfl, _⟩ := h; rfl) | (obtain ⟨_, _, _, _, _, _, _, _, _, _, _, _, _, rfl, _⟩ := h; rfl) | (obtain ⟨_, _, _, _, _, _, _, _, _, _, _, _, _, _, rfl, _⟩ := h; rfl) | (obtain ⟨_, _, _, _, _, _, _, _, _, _, _, _, _, _, _, rfl, _⟩ := h; rfl) | (split at h <;> first | rfl | exact h.elim)); done) | (first | (obtain ⟨rfl, _⟩ := h; rfl) | (obtain ⟨_, _, _, rfl, _, _, rfl, _⟩ := h; rfl) | (obtain ⟨_, _, _, rfl, _, _, _, rfl, _⟩ := h; rfl) | (obtain ⟨_, rfl, _⟩ := h; rfl) | (obtain ⟨_, _, rfl, _⟩ := h; rfl) | (obtain ⟨_, _, _, rfl, _⟩ := h; rfl) | (obtain ⟨_, _, _, _, rfl, _⟩ := h; rfl) | (obtain ⟨_, _, _, _, _, rfl, _⟩ := h; rfl) | (obtain ⟨_, _, _, _, _, _, rfl, _⟩ := h; rfl) | (obtain ⟨_, _, _, _, _, _, _, rfl, _⟩ := h; rfl) | (obtain ⟨_, _, _, _, _, _, _, _, rfl, _⟩ := h; rfl) | (obtain ⟨_, _, _, _, _, _, _, _, _, rfl, _⟩ := h; rfl) | (obtain ⟨_, _, _, _, _, _, _, _, _, _, rfl, _⟩ := h; rfl) | (obtain ⟨_, _, _, _, _, _, _, _, _, _, _, rfl, _⟩ := h; rfl) | (obtain ⟨_, _, _, _, _, _, _, _, _, _, _, _, rfl, _⟩ := h; rfl) | (obtain ⟨_, _, _, _, _, _, _, _, _, _, _, _, _, rfl, _⟩ := h; rfl) | (obtain ⟨_, _, _, _, _, _, _, _, _, _, _, _, _, _, rfl, _⟩ := h; rfl) | (obtain ⟨_, _, _, _, _, _, _, _, _, _, _, _, _, _, _, rfl, _⟩ := h; rfl) | (split at h <;> first | rfl | exact h.elim))) (fun cdv A_ outer s H E hr => by
    have sc := sc_Wall_turned
    exact (b_one (s_ret (a_make T.mk_Wall T.fo_Wall (ok_Wall_init T) (mkok2_Wall_init G) (hr.mono (by decide)) rfl T.g_Wall T.b_Wall_init .nil (fun _ => .nil) (L2N.takes_of rfl rfl rfl rfl) (args1 (g_cons (a_lcN (own := [("heat", 1), ("place", 2)]) newD_ok rfl sc.nd (i_seq (a_fld 0 (av 0))) (blkOk_by (N := ["self", "heat", "place"]) (sc := defScope s_Wall_turned) (own := [("heat", 1), ("place", 2)]) (by decide +kernel)) (gok_tup [1, 2]) (by decide) (fun _ _ _ _ _ => (pg_tup rfl (pgs_cons (g_name 1 sc.nd) (pgs_cons (g_name 2 sc.nd) pgs_nil)))) (fun _ _ _ _ _ => t_yes) (fun _ _ _ _ _ => (a_tup (g_cons (av 1) (g_cons (a_unM (av 2) T.Mt_Dyadic_neg (ok_Dyadic_neg T) (hr.mono (by decide)) T.b_Dyadic_neg takesN) g_nil))))) (g_cons (a_neg (a_prop (av 0) T.cl_Wall T.P_Wall_slope (ok_Wall_slope T) (hr.mono (by decide)) T.b_Wall_slope)) g_nil))))))) (rd_Wall_turned G)
theorem ok_law_10e31170 {G : Gx} {mg : Str → Option Value} {A : Ad} {base : Heap} (T : Txt G mg A) : FnOk G.k.P G.k.w G.k.K mg base (L2N.CX G.k.P G.k.w) 12 A.f_law_10e31170 A.fd_law_10e31170 ["_law_script"] (liftSp G.k (sp_law_10e31170 G)) :=
  fun_ok (k := 11) (tb := tb_law_10e31170 G) T.F_law_10e31170 sc_law_10e31170 (fun ds L Q R h => spLawT_len h) (fun cdv A_ outer s H E hr => by
    have sc := sc_law_10e31170
    exact (b_cons (s_set (i := 1) sc.nd (a_call (ok_law_drawn_c20d4a75 T) (hr.mono (by decide)) rfl T.m_law_drawn_c20d4a75 T.F_law_drawn_c20d4a75.kp T.b_law_drawn_c20d4a75 .nil (fun _ => .nil) (L2N.takes_of rfl rfl rfl rfl) (args1 (g_cons (a_call (ok_law_cell_49a05b28 T) (hr.mono (by decide)) rfl T.m_law_cell_49a05b28 T.F_law_cell_49a05b28.kp T.b_law_cell_49a05b28 .nil (fun _ => .nil) (L2N.takes_of rfl rfl rfl rfl) (args1 (g_cons (av 0) (g_cons a_int g_nil)))) (g_cons (a_call (ok_law_cell_49a05b28 T) (hr.mono (by decide)) rfl T.m_law_cell_49a05b28 T.F_law_cell_49a05b28.kp T.b_law_cell_49a05b28 .nil (fun _ => .nil) (L2N.takes_of rfl rfl rfl rfl) (args1 (g_cons (av 0) (g_cons a_int g_nil)))) g_nil))))) (b_cons (s_set (i := 2) sc.nd (a_make T.mk_Wall T.fo_Wall (ok_Wall_init T) (mkok2_Wall_init G) (hr.mono (by decide)) rfl T.g_Wall T.b_Wall_init .nil (fun _ => .nil) (L2N.takes_of rfl rfl rfl rfl) (args1 (g_cons (a_call (ok_law_pairs_7c2080d5 T) (hr.mono (by decide)) rfl T.m_law_pairs_7c2080d5 T.F_law_pairs_7c2080d5.kp T.b_law_pairs_7c2080d5 .nil (fun _ => .nil) (L2N.takes_of rfl rfl rfl rfl) (args1 (g_cons (a_item (av 1) a_int) g_nil))) (g_cons (a_item (a_item (av 1) a_int) (a_neg a_int)) g_nil))))) (b_cons (s_set (i := 3) sc.nd (a_call (ok_law_digits_6b3a3527 T) (hr.mono (by decide)) rfl T.m_law_digits_6b3a3527 T.F_law_digits_6b3a3527.kp T.b_law_digits_6b3a3527 .nil (fun _ => .nil) (L2N.takes_of rfl rfl rfl rfl) (args1 (g_cons (a_call (ok_law_cell_49a05b28 T) (hr.mono (by decide)) rfl T.m_law_cell_49a05b28 T.F_law_cell_49a05b28.kp T.b_law_cell_49a05b28 .nil (fun _ => .nil) (L2N.takes_of rfl rfl rfl rfl) (args1 (g_cons (av 0) (g_cons a_int g_nil)))) (g_cons a_int g_nil))))) (b_cons (s_set (i := 4) sc.nd (a_item (a_item (a_item (av 1) a_int) (a_mod (a_intc rfl T.n_int (g_cons (a_item (av 3) a_int) g_nil)) (a_len rfl T.n_len (g_cons (a_item (av 1) a_int) g_nil)))) a_int)) (b_cons (s_set (i := 5) sc.nd (a_mod (a_intc rfl T.n_int (g_cons (a_call (ok_law_cell_49a05b28 T) (hr.mono (by decide)) rfl T.m_law_cell_49a05b28 T.F_law_cell_49a05b28.kp T.b_law_cell_49a05b28 .nil (fun _ => .nil) (L2N.takes_of rfl rfl rfl rfl) (args1 (g_cons (av 0) (g_cons a_int g_nil)))) g_nil)) (a_pow a_int a_int))) (b_cons (s_set (i := 6) sc.nd (a_item (a_item (a_item (av 1) a_int) (a_neg a_int)) a_int)) (b_cons (s_for (passes_of rfl) rfl (i_seq (a_lstN newD_ok (g_cons a_int (g_cons (av 4) (g_cons (a_max2 rfl rfl T.n_max (g_cons a_int (g_cons (a_sub (a_sub (av 4) a_int) (a_intc rfl T.n_int (g_cons (a_item (av 3) a_int) g_nil))) g_nil))) (g_cons (a_addN newD_ok (a_addN newD_ok (av 4) a_int) (a_intc rfl T.n_int (g_cons (a_item (av 3) a_int) g_nil))) (g_cons (av 6) (g_cons (a_addN newD_ok (a_addN newD_ok (av 6) a_int) (av 5)) (g_cons (av 5) g_nil))))))))) (g_name 7 sc.nd) (gok_name 7) (b_one (s_if (t_not (t_tru (a_call (ok_law_asked_55bd0f0b T) (hr.mono (by decide)) rfl T.m_law_asked_55bd0f0b T.F_law_asked_55bd0f0b.kp T.b_law_asked_55bd0f0b .nil (fun _ => .nil) (L2N.takes_of rfl rfl rfl rfl) (args1 (g_cons (av 2) (g_cons (av 1) (g_cons (av 7) g_nil))))))) (b_one (s_ret a_bl)) b_nil))) (b_cons (s_for (passes_of rfl) rfl (i_seq (a_lstN newD_ok (g_cons (a_sub (a_mod (a_intc rfl T.n_int (g_cons (a_item (av 3) a_int) g_nil)) a_int) a_int) (g_cons a_int (g_cons a_int (g_cons (a_neg a_int) g_nil)))))) (g_name 8 sc.nd) (gok_name 8) (b_one (s_if (t_not (t_tru (a_call (ok_law_tilted_ff5ba2ea T) (hr.mono (by decide)) rfl T.m_law_tilted_ff5ba2ea T.F_law_tilted_ff5ba2ea.kp T.b_law_tilted_ff5ba2ea .nil (fun _ => .nil) (L2N.takes_of rfl rfl rfl rfl) (args1 (g_cons (av 2) (g_cons (av 1) (g_cons (av 8) g_nil))))))) (b_one (s_ret a_bl)) b_nil))) (b_cons (s_set (i := 10) sc.nd (a_tup (g_cons (a_lcN (own := [("_law_heat", 7), ("_law_place_here", 9)]) newD_ok rfl sc.nd (i_seq (a_item (av 1) a_int)) (blkOk_by (N := ["_law_script", "_law_line", "_law_shut", "_law_digits_here", "_law_near", "_law_free", "_law_last", "_law_heat", "_law_slope", "_law_place_here", "_law_turned", "_law_word"]) (sc := defScope s_law_10e31170) (own := [("_law_heat", 7), ("_law_place_here", 9)]) (by decide +kernel)) (gok_tup [7, 9]) (by decide) (fun _ _ _ _ _ => (pg_tup rfl (pgs_cons (g_name 7 sc.nd) (pgs_cons (g_name 9 sc.nd) pgs_nil)))) (fun _ _ _ _ _ => t_yes) (fun _ _ _ _ _ => (a_tup (g_cons (av 7) (g_cons (a_neg (av 9)) g_nil))))) (g_cons (a_lcN (own := [("_law_slope", 8)]) newD_ok rfl sc.nd (i_seq (a_item (av 1) a_int)) (blkOk_by (N := ["_law_script", "_law_line", "_law_shut", "_law_digits_here", "_law_near", "_law_free", "_law_last", "_law_heat", "_law_slope", "_law_place_here", "_law_turned", "_law_word"]) (sc := defScope s_law_10e31170) (own := [("_law_slope", 8)]) (by decide +kernel)) (gok_name 8) (by decide) (fun _ _ _ _ _ => (g_name 8 sc.nd)) (fun _ _ _ _ _ => t_yes) (fun _ _ _ _ _ => (a_neg (av 8)))) g_nil)))) (b_cons (s_if (PW.pt (w_or (t_not (t_tru (a_call (ok_law_told_74f31f6a T) (hr.mono (by decide)) rfl T.m_law_told_74f31f6a T.F_law_told_74f31f6a.kp T.b_law_told_74f31f6a .nil (fun _ => .nil) (L2N.takes_of rfl rfl rfl rfl) (args1 (g_cons (a_meth (av 2) T.cl_Wall T.Mt_Wall_turned (ok_Wall_turned T) (hr.mono (by decide)) T.b_Wall_turned .nil (fun _ => .nil) (L2N.takes_of rfl rfl rfl rfl) args0) (g_cons (av 10) g_nil)))))) (w_or1 (t_not (t_tru (a_call (ok_law_told_74f31f6a T) (hr.mono (by decide)) rfl T.m_law_told_74f31f6a T.F_law_told_74f31f6a.kp T.b_law_told_74f31f6a .nil (fun _ => .nil) (L2N.takes_of rfl rfl rfl rfl) (args1 (g_cons (a_meth (a_meth (av 2) T.cl_Wall T.Mt_Wall_turned (ok_Wall_turned T) (hr.mono (by decide)) T.b_Wall_turned .nil (fun _ => .nil) (L2N.takes_of rfl rfl rfl rfl) args0) T.cl_Wall T.Mt_Wall_turned (ok_Wall_turned T) (hr.mono (by decide)) T.b_Wall_turned .nil (fun _ => .nil) (L2N.takes_of rfl rfl rfl rfl) args0) (g_cons (av 1) g_nil))))))))) (b_one (s_ret a_bl)) b_nil) (b_cons (s_for (passes_of rfl) rfl (i_rng1 rfl T.n_range (g_cons a_int g_nil)) (g_name 11 sc.nd) (gok_name 11) (b_one (s_if (PW.pt (w_or (t_not (t_tru (a_call (ok_law_refused_79b82729 T) (hr.mono (by decide)) rfl T.m_law_refused_79b82729 T.F_law_refused_79b82729.kp T.b_law_refused_79b82729 .nil (fun _ => .nil) (L2N.takes_of rfl rfl rfl rfl) (args1 (g_cons (av 2) (g_cons (av 11) (g_cons (a_sub (a_neg a_int) (av 5)) g_nil))))))) (w_or1 (t_not (t_tru (a_call (ok_law_refused_79b82729 T) (hr.mono (by decide)) rfl T.m_law_refused_79b82729 T.F_law_refused_79b82729.kp T.b_law_refused_79b82729 .nil (fun _ => .nil) (L2N.takes_of rfl rfl rfl rfl) (args1 (g_cons (av 2) (g_cons (av 11) (g_cons (a_sub (a_neg a_int) (a_intc rfl T.n_int (g_cons (a_item (av 3) a_int) g_nil))) g_nil)))))))))) (b_one (s_ret a_bl)) b_nil))) (b_one (s_ret (a_call (ok_law_told_74f31f6a T) (hr.mono (by decide)) rfl T.m_law_told_74f31f6a T.F_law_told_74f31f6a.kp T.b_law_told_74f31f6a .nil (fun _ => .nil) (L2N.takes_of rfl rfl rfl rfl) (args1 (g_cons (av 2) (g_cons (av 1) g_nil)))))))))))))))))) (rd_law_10e31170 G)
theorem all_mk {w : World} {K : PySem.W.Frag} {h : Heap} {mg : Str → Option Value} {fa : Addr} {C_Dyadic : Addr} {C_Wall : Addr} {C_BadText : Addr} {C_BadValue : Addr} {C_NoMove : Addr} {C_PlayError : Addr} {C_Unknown : Addr} {tk_POWER_MOST : Tok} {tk_TOP_MOST : Tok} {f_law_digits_6b3a3527 : Addr} {oc_law_digits_6b3a3527 kV_law_digits_6b3a3527 dc_law_digits_6b3a3527 pm_law_digits_6b3a3527 cd_law_digits_6b3a3527 ct_law_digits_6b3a3527 : Value} {od_law_digits_6b3a3527 an_law_digits_6b3a3527 : Option Addr} {sl_law_digits_6b3a3527 : Array (Option Value)} {f_law_drawn_c20d4a75 : Addr} {oc_law_drawn_c20d4a75 kV_law_drawn_c20d4a75 dc_law_drawn_c20d4a75 pm_law_drawn_c20d4a75 cd_law_drawn_c20d4a75 ct_law_drawn_c20d4a75 : Value} {od_law_drawn_c20d4a75 an_law_drawn_c20d4a75 : Option Addr} {sl_law_drawn_c20d4a75 : Array (Option Value)} {f_law_cell_49a05b28 : Addr} {oc_law_cell_49a05b28 kV_law_cell_49a05b28 dc_law_cell_49a05b28 pm_law_cell_49a05b28 cd_law_cell_49a05b28 ct_law_cell_49a05b28 : Value} {od_law_cell_49a05b28 an_law_cell_49a05b28 : Option Addr} {sl_law_cell_49a05b28 : Array (Option Value)} {f_Dyadic_top : Addr} {oc_Dyadic_top kV_Dyadic_top dc_Dyadic_top pm_Dyadic_top cd_Dyadic_top ct_Dyadic_top : Value} {od_Dyadic_top an_Dyadic_top : Option Addr} {sl_Dyadic_top : Array (Option Value)} {p_Dyadic_top : Addr} {rest_Dyadic_top : List Value} {f_Dyadic_power : Addr} {oc_Dyadic_power kV_Dyadic_power dc_Dyadic_power pm_Dyadic_power cd_Dyadic_power ct_Dyadic_power : Value} {od_Dyadic_power an_Dyadic_power : Option Addr} {sl_Dyadic_power : Array (Option Value)} {p_Dyadic_power : Addr} {rest_Dyadic_power : List Value} {f_Dyadic_less : Addr} {oc_Dyadic_less kV_Dyadic_less dc_Dyadic_less pm_Dyadic_less cd_Dyadic_less ct_Dyadic_less : Value} {od_Dyadic_less an_Dyadic_less : Option Addr} {sl_Dyadic_less : Array (Option Value)} {f_reduced : Addr} {oc_reduced kV_reduced dc_reduced pm_reduced cd_reduced ct_reduced : Value} {od_reduced an_reduced : Option Addr} {sl_reduced : Array (Option Value)} {f_is_integer : Addr} {oc_is_integer kV_is_integer dc_is_integer pm_is_integer cd_is_integer ct_is_integer : Value} {od_is_integer an_is_integer : Option Addr} {sl_is_integer : Array (Option Value)} {f_Dyadic_init : Addr} {oc_Dyadic_init kV_Dyadic_init dc_Dyadic_init pm_Dyadic_init cd_Dyadic_init ct_Dyadic_init : Value} {od_Dyadic_init an_Dyadic_init : Option Addr} {sl_Dyadic_init : Array (Option Value)} {T_Dyadic_init nT_Dyadic_init : Nat} {ocT_Dyadic_init : Value} {odT_Dyadic_init : Option Addr} {slT_Dyadic_init : Array (Option Value)} {tk0_Dyadic_init : Tok} {f_Dyadic_add : Addr} {oc_Dyadic_add kV_Dyadic_add dc_Dyadic_add pm_Dyadic_add cd_Dyadic_add ct_Dyadic_add : Value} {od_Dyadic_add an_Dyadic_add : Option Addr} {sl_Dyadic_add : Array (Option Value)} {f_Dyadic_neg : Addr} {oc_Dyadic_neg kV_Dyadic_neg dc_Dyadic_neg pm_Dyadic_neg cd_Dyadic_neg ct_Dyadic_neg : Value} {od_Dyadic_neg an_Dyadic_neg : Option Addr} {sl_Dyadic_neg : Array (Option Value)} {f_Dyadic_sub : Addr} {oc_Dyadic_sub kV_Dyadic_sub dc_Dyadic_sub pm_Dyadic_sub cd_Dyadic_sub ct_Dyadic_sub : Value} {od_Dyadic_sub an_Dyadic_sub : Option Addr} {sl_Dyadic_sub : Array (Option Value)} {f_Dyadic_same : Addr} {oc_Dyadic_same kV_Dyadic_same dc_Dyadic_same pm_Dyadic_same cd_Dyadic_same ct_Dyadic_same : Value} {od_Dyadic_same an_Dyadic_same : Option Addr} {sl_Dyadic_same : Array (Option Value)} {f_times : Addr} {oc_times kV_times dc_times pm_times cd_times ct_times : Value} {od_times an_times : Option Addr} {sl_times : Array (Option Value)} {f_slope_between : Addr} {oc_slope_between kV_slope_between dc_slope_between pm_slope_between cd_slope_between ct_slope_between : Value} {od_slope_between an_slope_between : Option Addr} {sl_slope_between : Array (Option Value)} {f_Wall_init : Addr} {oc_Wall_init kV_Wall_init dc_Wall_init pm_Wall_init cd_Wall_init ct_Wall_init : Value} {od_Wall_init an_Wall_init : Option Addr} {sl_Wall_init : Array (Option Value)} {f_law_pairs_7c2080d5 : Addr} {oc_law_pairs_7c2080d5 kV_law_pairs_7c2080d5 dc_law_pairs_7c2080d5 pm_law_pairs_7c2080d5 cd_law_pairs_7c2080d5 ct_law_pairs_7c2080d5 : Value} {od_law_pairs_7c2080d5 an_law_pairs_7c2080d5 : Option Addr} {sl_law_pairs_7c2080d5 : Array (Option Value)} {f_law_is_integer_fcf59962 : Addr} {oc_law_is_integer_fcf59962 kV_law_is_integer_fcf59962 dc_law_is_integer_fcf59962 pm_law_is_integer_fcf59962 cd_law_is_integer_fcf59962 ct_law_is_integer_fcf59962 : Value} {od_law_is_integer_fcf59962 an_law_is_integer_fcf59962 : Option Addr} {sl_law_is_integer_fcf59962 : Array (Option Value)} {f_law_plain_41305dcc : Addr} {oc_law_plain_41305dcc kV_law_plain_41305dcc dc_law_plain_41305dcc pm_law_plain_41305dcc cd_law_plain_41305dcc ct_law_plain_41305dcc : Value} {od_law_plain_41305dcc an_law_plain_41305dcc : Option Addr} {sl_law_plain_41305dcc : Array (Option Value)} {f_law_is_d09be0d2 : Addr} {oc_law_is_d09be0d2 kV_law_is_d09be0d2 dc_law_is_d09be0d2 pm_law_is_d09be0d2 cd_law_is_d09be0d2 ct_law_is_d09be0d2 : Value} {od_law_is_d09be0d2 an_law_is_d09be0d2 : Option Addr} {sl_law_is_d09be0d2 : Array (Option Value)} {f_law_place_8b093576 : Addr} {oc_law_place_8b093576 kV_law_place_8b093576 dc_law_place_8b093576 pm_law_place_8b093576 cd_law_place_8b093576 ct_law_place_8b093576 : Value} {od_law_place_8b093576 an_law_place_8b093576 : Option Addr} {sl_law_place_8b093576 : Array (Option Value)} {f_law_at_ade38b70 : Addr} {oc_law_at_ade38b70 kV_law_at_ade38b70 dc_law_at_ade38b70 pm_law_at_ade38b70 cd_law_at_ade38b70 ct_law_at_ade38b70 : Value} {od_law_at_ade38b70 an_law_at_ade38b70 : Option Addr} {sl_law_at_ade38b70 : Array (Option Value)} {f_Wall_place : Addr} {oc_Wall_place kV_Wall_place dc_Wall_place pm_Wall_place cd_Wall_place ct_Wall_place : Value} {od_Wall_place an_Wall_place : Option Addr} {sl_Wall_place : Array (Option Value)} {f_Wall_at : Addr} {oc_Wall_at kV_Wall_at dc_Wall_at pm_Wall_at cd_Wall_at ct_Wall_at : Value} {od_Wall_at an_Wall_at : Option Addr} {sl_Wall_at : Array (Option Value)} {f_Wall_slope_at : Addr} {oc_Wall_slope_at kV_Wall_slope_at dc_Wall_slope_at pm_Wall_slope_at cd_Wall_slope_at ct_Wall_slope_at : Value} {od_Wall_slope_at an_Wall_slope_at : Option Addr} {sl_Wall_slope_at : Array (Option Value)} {f_law_cut_7d8ca634 : Addr} {oc_law_cut_7d8ca634 kV_law_cut_7d8ca634 dc_law_cut_7d8ca634 pm_law_cut_7d8ca634 cd_law_cut_7d8ca634 ct_law_cut_7d8ca634 : Value} {od_law_cut_7d8ca634 an_law_cut_7d8ca634 : Option Addr} {sl_law_cut_7d8ca634 : Array (Option Value)} {f_Wall_cut : Addr} {oc_Wall_cut kV_Wall_cut dc_Wall_cut pm_Wall_cut cd_Wall_cut ct_Wall_cut : Value} {od_Wall_cut an_Wall_cut : Option Addr} {sl_Wall_cut : Array (Option Value)} {f_Wall_slope : Addr} {oc_Wall_slope kV_Wall_slope dc_Wall_slope pm_Wall_slope cd_Wall_slope ct_Wall_slope : Value} {od_Wall_slope an_Wall_slope : Option Addr} {sl_Wall_slope : Array (Option Value)} {p_Wall_slope : Addr} {rest_Wall_slope : List Value} {f_Wall_points : Addr} {oc_Wall_points kV_Wall_points dc_Wall_points pm_Wall_points cd_Wall_points ct_Wall_points : Value} {od_Wall_points an_Wall_points : Option Addr} {sl_Wall_points : Array (Option Value)} {f_law_told_74f31f6a : Addr} {oc_law_told_74f31f6a kV_law_told_74f31f6a dc_law_told_74f31f6a pm_law_told_74f31f6a cd_law_told_74f31f6a ct_law_told_74f31f6a : Value} {od_law_told_74f31f6a an_law_told_74f31f6a : Option Addr} {sl_law_told_74f31f6a : Array (Option Value)} {f_law_asked_55bd0f0b : Addr} {oc_law_asked_55bd0f0b kV_law_asked_55bd0f0b dc_law_asked_55bd0f0b pm_law_asked_55bd0f0b cd_law_asked_55bd0f0b ct_law_asked_55bd0f0b : Value} {od_law_asked_55bd0f0b an_law_asked_55bd0f0b : Option Addr} {sl_law_asked_55bd0f0b : Array (Option Value)} {f_Wall_tilted : Addr} {oc_Wall_tilted kV_Wall_tilted dc_Wall_tilted pm_Wall_tilted cd_Wall_tilted ct_Wall_tilted : Value} {od_Wall_tilted an_Wall_tilted : Option Addr} {sl_Wall_tilted : Array (Option Value)} {f_law_is_only_611d9904 : Addr} {oc_law_is_only_611d9904 kV_law_is_only_611d9904 dc_law_is_only_611d9904 pm_law_is_only_611d9904 cd_law_is_only_611d9904 ct_law_is_only_611d9904 : Value} {od_law_is_only_611d9904 an_law_is_only_611d9904 : Option Addr} {sl_law_is_only_611d9904 : Array (Option Value)} {f_law_refused_79b82729 : Addr} {oc_law_refused_79b82729 kV_law_refused_79b82729 dc_law_refused_79b82729 pm_law_refused_79b82729 cd_law_refused_79b82729 ct_law_refused_79b82729 : Value} {od_law_refused_79b82729 an_law_refused_79b82729 : Option Addr} {sl_law_refused_79b82729 : Array (Option Value)} {f_law_tilted_ff5ba2ea : Addr} {oc_law_tilted_ff5ba2ea kV_law_tilted_ff5ba2ea dc_law_tilted_ff5ba2ea pm_law_tilted_ff5ba2ea cd_law_tilted_ff5ba2ea ct_law_tilted_ff5ba2ea : Value} {od_law_tilted_ff5ba2ea an_law_tilted_ff5ba2ea : Option Addr} {sl_law_tilted_ff5ba2ea : Array (Option Value)} {f_Wall_turned : Addr} {oc_Wall_turned kV_Wall_turned dc_Wall_turned pm_Wall_turned cd_Wall_turned ct_Wall_turned : Value} {od_Wall_turned an_Wall_turned : Option Addr} {sl_Wall_turned : Array (Option Value)} {f_law_10e31170 : Addr} {oc_law_10e31170 kV_law_10e31170 dc_law_10e31170 pm_law_10e31170 cd_law_10e31170 ct_law_10e31170 : Value} {od_law_10e31170 an_law_10e31170 : Option Addr} {sl_law_10e31170 : Array (Option Value)} (X : K.In h) (G0 : h.Ns mainGlobals mg) (hfa : mg "law" = some (.ref fa))
    (h_aC_Dyadic : PySem.W.nsIn K mainGlobals "Dyadic" = some (some (.ref C_Dyadic)))
    (h_pg_Dyadic : PySem.W.plainGet K C_Dyadic Str.empty = true)
    (h_hd_Dyadic : PySem.W.hasDictIn K C_Dyadic = true)
    (h_po_Dyadic : PySem.W.plainOver K C_Dyadic = true)
    (h_sa_Dyadic : PySem.W.findIn K (.ref C_Dyadic) "__setattr__" = some (some (.builtin "object.__setattr__")))
    (h_ha_Dyadic : PySem.W.findIn K (.ref C_Dyadic) "__class__" = some (some (.builtin "object.__class__")))
    (h_mr_Dyadic : PySem.W.mroIn K C_Dyadic (.type "object") = some true)
    (h_kc_Dyadic : PySem.W.keepIn K (.ref C_Dyadic) = true)
    (h_sf_Dyadic : PySem.W.selfFirst K C_Dyadic = true)
    (h_no_Dyadic__top : PySem.W.findIn K (.ref C_Dyadic) "_top" = some none)
    (h_no_Dyadic__power : PySem.W.findIn K (.ref C_Dyadic) "_power" = some none)
    (h_mk_Dyadic : PySem.W.makesIn K C_Dyadic = true)
    (h_aC_Wall : PySem.W.nsIn K mainGlobals "Wall" = some (some (.ref C_Wall)))
    (h_pg_Wall : PySem.W.plainGet K C_Wall Str.empty = true)
    (h_hd_Wall : PySem.W.hasDictIn K C_Wall = true)
    (h_po_Wall : PySem.W.plainOver K C_Wall = true)
    (h_sa_Wall : PySem.W.findIn K (.ref C_Wall) "__setattr__" = some (some (.builtin "object.__setattr__")))
    (h_ha_Wall : PySem.W.findIn K (.ref C_Wall) "__class__" = some (some (.builtin "object.__class__")))
    (h_mr_Wall : PySem.W.mroIn K C_Wall (.type "object") = some true)
    (h_kc_Wall : PySem.W.keepIn K (.ref C_Wall) = true)
    (h_no_Wall__points : PySem.W.findIn K (.ref C_Wall) "_points" = some none)
    (h_no_Wall__slopes : PySem.W.findIn K (.ref C_Wall) "_slopes" = some none)
    (h_mk_Wall : PySem.W.makesIn K C_Wall = true)
    (h_hn_ : PySem.W.specialIn K (.builtin "object.__class__") "__get__" = some (some (.builtin "getset_descriptor.__get__")))
    (h_htk_ : PySem.W.takesIn K (.builtin "object.__class__") = some true)
    (h_aC_BadText : PySem.W.nsIn K mainGlobals "BadText" = some (some (.ref C_BadText)))
    (h_aC_BadValue : PySem.W.nsIn K mainGlobals "BadValue" = some (some (.ref C_BadValue)))
    (h_x_BadValue : PySem.W.excIn K C_BadValue [.type "ValueError", .type "Exception", .type "BaseException", .type "object"] "ValueError.__new__" = true)
    (h_k_BadValue : PySem.W.keepIn K (.ref C_BadValue) = true)
    (h_eb_BadValue : PySem.W.subIn K (.ref C_BadValue) (.type "BaseException") = some true)
    (h_et_BadValue : PySem.W.typeIn K (.ref C_BadValue) = some (.type "type"))
    (h_aC_NoMove : PySem.W.nsIn K mainGlobals "NoMove" = some (some (.ref C_NoMove)))
    (h_aC_PlayError : PySem.W.nsIn K mainGlobals "PlayError" = some (some (.ref C_PlayError)))
    (h_aC_Unknown : PySem.W.nsIn K mainGlobals "Unknown" = some (some (.ref C_Unknown)))
    (h_xg_BadValue : PySem.W.findIn K (.ref C_BadValue) "__getattribute__" = some (some (.builtin "BaseException.__getattribute__")))
    (h_xk_BadValue : PySem.W.findIn K (.ref C_BadValue) "__getattr__" = some none)
    (h_xa_BadValue : PySem.W.findIn K (.ref C_BadValue) "__class__" = some (some (.builtin "object.__class__")))
    (h_xm_BadValue : PySem.W.mroIn K C_BadValue (.type "object") = some true)
    (h_eb_PlayError : PySem.W.subIn K (.ref C_PlayError) (.type "BaseException") = some true)
    (h_xd_BadValue : PySem.W.hasDictIn K C_BadValue = true)
    (h_xs_BadValue_BadValue : PySem.W.subIn K (.ref C_BadValue) (.ref C_BadValue) = some true)
    (h_xd_PlayError : PySem.W.hasDictIn K C_PlayError = true)
    (h_et_PlayError : PySem.W.typeIn K (.ref C_PlayError) = some (.type "type"))
    (h_xs_BadValue_PlayError : PySem.W.subIn K (.ref C_BadValue) (.ref C_PlayError) = some true)
    (h_xd_BadText : PySem.W.hasDictIn K C_BadText = true)
    (h_et_BadText : PySem.W.typeIn K (.ref C_BadText) = some (.type "type"))
    (h_xs_BadValue_BadText : PySem.W.subIn K (.ref C_BadValue) (.ref C_BadText) = some false)
    (h_xs_BadText_BadText : PySem.W.subIn K (.ref C_BadText) (.ref C_BadText) = some true)
    (h_xd_Unknown : PySem.W.hasDictIn K C_Unknown = true)
    (h_et_Unknown : PySem.W.typeIn K (.ref C_Unknown) = some (.type "type"))
    (h_xs_BadValue_Unknown : PySem.W.subIn K (.ref C_BadValue) (.ref C_Unknown) = some false)
    (h_xs_Unknown_Unknown : PySem.W.subIn K (.ref C_Unknown) (.ref C_Unknown) = some true)
    (h_xd_NoMove : PySem.W.hasDictIn K C_NoMove = true)
    (h_et_NoMove : PySem.W.typeIn K (.ref C_NoMove) = some (.type "type"))
    (h_xs_BadValue_NoMove : PySem.W.subIn K (.ref C_BadValue) (.ref C_NoMove) = some false)
    (h_xs_NoMove_NoMove : PySem.W.subIn K (.ref C_NoMove) (.ref C_NoMove) = some true)
    (h_xv_BadValue : PySem.W.subIn K (.ref C_BadValue) (.type "ValueError") = some true)
    (h_g_POWER_MOST : PySem.W.nsIn K mainGlobals "POWER_MOST" = some (some (.int 40 tk_POWER_MOST)))
    (h_g_TOP_MOST : PySem.W.nsIn K mainGlobals "TOP_MOST" = some (some (.int 1000000000000 tk_TOP_MOST)))
    (h_n_ValueError : PySem.W.nsIn K mainGlobals "ValueError" = some none)
    (h_n_bool : PySem.W.nsIn K mainGlobals "bool" = some none)
    (h_n_enumerate : PySem.W.nsIn K mainGlobals "enumerate" = some none)
    (h_n_int : PySem.W.nsIn K mainGlobals "int" = some none)
    (h_n_isinstance : PySem.W.nsIn K mainGlobals "isinstance" = some none)
    (h_n_len : PySem.W.nsIn K mainGlobals "len" = some none)
    (h_n_list : PySem.W.nsIn K mainGlobals "list" = some none)
    (h_n_max : PySem.W.nsIn K mainGlobals "max" = some none)
    (h_n_min : PySem.W.nsIn K mainGlobals "min" = some none)
    (h_n_range : PySem.W.nsIn K mainGlobals "range" = some none)
    (h_n_tuple : PySem.W.nsIn K mainGlobals "tuple" = some none)
    (h_a_law_digits_6b3a3527 : PySem.W.nsIn K mainGlobals "_law_digits" = some (some (.ref f_law_digits_6b3a3527)))
    (h_l_law_digits_6b3a3527 : K.lookup f_law_digits_6b3a3527 = some ⟨oc_law_digits_6b3a3527, od_law_digits_6b3a3527, .func (PySem.W.fnOf "_law_digits" "_law_digits" (defArgs s_law_digits_6b3a3527) (defBody s_law_digits_6b3a3527) (defScope s_law_digits_6b3a3527) .none kV_law_digits_6b3a3527 dc_law_digits_6b3a3527 pm_law_digits_6b3a3527 an_law_digits_6b3a3527 cd_law_digits_6b3a3527 ct_law_digits_6b3a3527), sl_law_digits_6b3a3527⟩)
    (h_c_law_digits_6b3a3527 : PySem.W.codeIn K cd_law_digits_6b3a3527 "_law_digits" = true)
    (h_k_law_digits_6b3a3527 : PySem.W.keepIn K (.ref f_law_digits_6b3a3527) = true)
    (h_a_law_drawn_c20d4a75 : PySem.W.nsIn K mainGlobals "_law_drawn" = some (some (.ref f_law_drawn_c20d4a75)))
    (h_l_law_drawn_c20d4a75 : K.lookup f_law_drawn_c20d4a75 = some ⟨oc_law_drawn_c20d4a75, od_law_drawn_c20d4a75, .func (PySem.W.fnOf "_law_drawn" "_law_drawn" (defArgs s_law_drawn_c20d4a75) (defBody s_law_drawn_c20d4a75) (defScope s_law_drawn_c20d4a75) .none kV_law_drawn_c20d4a75 dc_law_drawn_c20d4a75 pm_law_drawn_c20d4a75 an_law_drawn_c20d4a75 cd_law_drawn_c20d4a75 ct_law_drawn_c20d4a75), sl_law_drawn_c20d4a75⟩)
    (h_c_law_drawn_c20d4a75 : PySem.W.codeIn K cd_law_drawn_c20d4a75 "_law_drawn" = true)
    (h_k_law_drawn_c20d4a75 : PySem.W.keepIn K (.ref f_law_drawn_c20d4a75) = true)
    (h_a_law_cell_49a05b28 : PySem.W.nsIn K mainGlobals "_law_cell" = some (some (.ref f_law_cell_49a05b28)))
    (h_l_law_cell_49a05b28 : K.lookup f_law_cell_49a05b28 = some ⟨oc_law_cell_49a05b28, od_law_cell_49a05b28, .func (PySem.W.fnOf "_law_cell" "_law_cell" (defArgs s_law_cell_49a05b28) (defBody s_law_cell_49a05b28) (defScope s_law_cell_49a05b28) .none kV_law_cell_49a05b28 dc_law_cell_49a05b28 pm_law_cell_49a05b28 an_law_cell_49a05b28 cd_law_cell_49a05b28 ct_law_cell_49a05b28), sl_law_cell_49a05b28⟩)
    (h_c_law_cell_49a05b28 : PySem.W.codeIn K cd_law_cell_49a05b28 "_law_cell" = true)
    (h_k_law_cell_49a05b28 : PySem.W.keepIn K (.ref f_law_cell_49a05b28) = true)
    (h_a_Dyadic_top : PySem.W.findIn K (.ref C_Dyadic) "top" = some (some (.ref p_Dyadic_top)))
    (h_pget_Dyadic_top : PySem.W.specialIn K (.ref p_Dyadic_top) "__get__" = some (some (.builtin "property.__get__")))
    (h_ptak_Dyadic_top : PySem.W.takesIn K (.ref p_Dyadic_top) = some true)
    (h_prec_Dyadic_top : PySem.W.recIn K p_Dyadic_top "property" = some (.ref f_Dyadic_top :: rest_Dyadic_top))
    (h_l_Dyadic_top : K.lookup f_Dyadic_top = some ⟨oc_Dyadic_top, od_Dyadic_top, .func (PySem.W.fnOf "top" "Dyadic.top" (defArgs s_Dyadic_top) (defBody s_Dyadic_top) (defScope s_Dyadic_top) .none kV_Dyadic_top dc_Dyadic_top pm_Dyadic_top an_Dyadic_top cd_Dyadic_top ct_Dyadic_top), sl_Dyadic_top⟩)
    (h_c_Dyadic_top : PySem.W.codeIn K cd_Dyadic_top "Dyadic.top" = true)
    (h_k_Dyadic_top : PySem.W.keepIn K (.ref f_Dyadic_top) = true)
    (h_a_Dyadic_power : PySem.W.findIn K (.ref C_Dyadic) "power" = some (some (.ref p_Dyadic_power)))
    (h_pget_Dyadic_power : PySem.W.specialIn K (.ref p_Dyadic_power) "__get__" = some (some (.builtin "property.__get__")))
    (h_ptak_Dyadic_power : PySem.W.takesIn K (.ref p_Dyadic_power) = some true)
    (h_prec_Dyadic_power : PySem.W.recIn K p_Dyadic_power "property" = some (.ref f_Dyadic_power :: rest_Dyadic_power))
    (h_l_Dyadic_power : K.lookup f_Dyadic_power = some ⟨oc_Dyadic_power, od_Dyadic_power, .func (PySem.W.fnOf "power" "Dyadic.power" (defArgs s_Dyadic_power) (defBody s_Dyadic_power) (defScope s_Dyadic_power) .none kV_Dyadic_power dc_Dyadic_power pm_Dyadic_power an_Dyadic_power cd_Dyadic_power ct_Dyadic_power), sl_Dyadic_power⟩)
    (h_c_Dyadic_power : PySem.W.codeIn K cd_Dyadic_power "Dyadic.power" = true)
    (h_k_Dyadic_power : PySem.W.keepIn K (.ref f_Dyadic_power) = true)
    (h_a_Dyadic_less : PySem.W.findIn K (.ref C_Dyadic) "less" = some (some (.ref f_Dyadic_less)))
    (h_i_Dyadic_less : PySem.W.isFn K (.ref f_Dyadic_less) = true)
    (h_l_Dyadic_less : K.lookup f_Dyadic_less = some ⟨oc_Dyadic_less, od_Dyadic_less, .func (PySem.W.fnOf "less" "Dyadic.less" (defArgs s_Dyadic_less) (defBody s_Dyadic_less) (defScope s_Dyadic_less) .none kV_Dyadic_less dc_Dyadic_less pm_Dyadic_less an_Dyadic_less cd_Dyadic_less ct_Dyadic_less), sl_Dyadic_less⟩)
    (h_c_Dyadic_less : PySem.W.codeIn K cd_Dyadic_less "Dyadic.less" = true)
    (h_k_Dyadic_less : PySem.W.keepIn K (.ref f_Dyadic_less) = true)
    (h_a_reduced : PySem.W.nsIn K mainGlobals "reduced" = some (some (.ref f_reduced)))
    (h_l_reduced : K.lookup f_reduced = some ⟨oc_reduced, od_reduced, .func (PySem.W.fnOf "reduced" "reduced" (defArgs s_reduced) (defBody s_reduced) (defScope s_reduced) .none kV_reduced dc_reduced pm_reduced an_reduced cd_reduced ct_reduced), sl_reduced⟩)
    (h_c_reduced : PySem.W.codeIn K cd_reduced "reduced" = true)
    (h_k_reduced : PySem.W.keepIn K (.ref f_reduced) = true)
    (h_a_is_integer : PySem.W.nsIn K mainGlobals "is_integer" = some (some (.ref f_is_integer)))
    (h_l_is_integer : K.lookup f_is_integer = some ⟨oc_is_integer, od_is_integer, .func (PySem.W.fnOf "is_integer" "is_integer" (defArgs s_is_integer) (defBody s_is_integer) (defScope s_is_integer) .none kV_is_integer dc_is_integer pm_is_integer an_is_integer cd_is_integer ct_is_integer), sl_is_integer⟩)
    (h_c_is_integer : PySem.W.codeIn K cd_is_integer "is_integer" = true)
    (h_k_is_integer : PySem.W.keepIn K (.ref f_is_integer) = true)
    (h_a_Dyadic_init : PySem.W.findIn K (.ref C_Dyadic) "__init__" = some (some (.ref f_Dyadic_init)))
    (h_i_Dyadic_init : PySem.W.isFn K (.ref f_Dyadic_init) = true)
    (h_l_Dyadic_init : K.lookup f_Dyadic_init = some ⟨oc_Dyadic_init, od_Dyadic_init, .func (PySem.W.fnOf "__init__" "Dyadic.__init__" (defArgs s_Dyadic_init) (defBody s_Dyadic_init) (defScope s_Dyadic_init) (.ref T_Dyadic_init) kV_Dyadic_init dc_Dyadic_init pm_Dyadic_init an_Dyadic_init cd_Dyadic_init ct_Dyadic_init), sl_Dyadic_init⟩)
    (h_c_Dyadic_init : PySem.W.codeIn K cd_Dyadic_init "Dyadic.__init__" = true)
    (h_k_Dyadic_init : PySem.W.keepIn K (.ref f_Dyadic_init) = true)
    (h_lT_Dyadic_init : K.lookup T_Dyadic_init = some ⟨ocT_Dyadic_init, odT_Dyadic_init, .seq #[.int 0 tk0_Dyadic_init] nT_Dyadic_init, slT_Dyadic_init⟩)
    (h_a_Dyadic_add : PySem.W.findIn K (.ref C_Dyadic) "__add__" = some (some (.ref f_Dyadic_add)))
    (h_i_Dyadic_add : PySem.W.isFn K (.ref f_Dyadic_add) = true)
    (h_l_Dyadic_add : K.lookup f_Dyadic_add = some ⟨oc_Dyadic_add, od_Dyadic_add, .func (PySem.W.fnOf "__add__" "Dyadic.__add__" (defArgs s_Dyadic_add) (defBody s_Dyadic_add) (defScope s_Dyadic_add) .none kV_Dyadic_add dc_Dyadic_add pm_Dyadic_add an_Dyadic_add cd_Dyadic_add ct_Dyadic_add), sl_Dyadic_add⟩)
    (h_c_Dyadic_add : PySem.W.codeIn K cd_Dyadic_add "Dyadic.__add__" = true)
    (h_k_Dyadic_add : PySem.W.keepIn K (.ref f_Dyadic_add) = true)
    (h_a_Dyadic_neg : PySem.W.findIn K (.ref C_Dyadic) "__neg__" = some (some (.ref f_Dyadic_neg)))
    (h_i_Dyadic_neg : PySem.W.isFn K (.ref f_Dyadic_neg) = true)
    (h_l_Dyadic_neg : K.lookup f_Dyadic_neg = some ⟨oc_Dyadic_neg, od_Dyadic_neg, .func (PySem.W.fnOf "__neg__" "Dyadic.__neg__" (defArgs s_Dyadic_neg) (defBody s_Dyadic_neg) (defScope s_Dyadic_neg) .none kV_Dyadic_neg dc_Dyadic_neg pm_Dyadic_neg an_Dyadic_neg cd_Dyadic_neg ct_Dyadic_neg), sl_Dyadic_neg⟩)
    (h_c_Dyadic_neg : PySem.W.codeIn K cd_Dyadic_neg "Dyadic.__neg__" = true)
    (h_k_Dyadic_neg : PySem.W.keepIn K (.ref f_Dyadic_neg) = true)
    (h_a_Dyadic_sub : PySem.W.findIn K (.ref C_Dyadic) "__sub__" = some (some (.ref f_Dyadic_sub)))
    (h_i_Dyadic_sub : PySem.W.isFn K (.ref f_Dyadic_sub) = true)
    (h_l_Dyadic_sub : K.lookup f_Dyadic_sub = some ⟨oc_Dyadic_sub, od_Dyadic_sub, .func (PySem.W.fnOf "__sub__" "Dyadic.__sub__" (defArgs s_Dyadic_sub) (defBody s_Dyadic_sub) (defScope s_Dyadic_sub) .none kV_Dyadic_sub dc_Dyadic_sub pm_Dyadic_sub an_Dyadic_sub cd_Dyadic_sub ct_Dyadic_sub), sl_Dyadic_sub⟩)
    (h_c_Dyadic_sub : PySem.W.codeIn K cd_Dyadic_sub "Dyadic.__sub__" = true)
    (h_k_Dyadic_sub : PySem.W.keepIn K (.ref f_Dyadic_sub) = true)
    (h_a_Dyadic_same : PySem.W.findIn K (.ref C_Dyadic) "same" = some (some (.ref f_Dyadic_same)))
    (h_i_Dyadic_same : PySem.W.isFn K (.ref f_Dyadic_same) = true)
    (h_l_Dyadic_same : K.lookup f_Dyadic_same = some ⟨oc_Dyadic_same, od_Dyadic_same, .func (PySem.W.fnOf "same" "Dyadic.same" (defArgs s_Dyadic_same) (defBody s_Dyadic_same) (defScope s_Dyadic_same) .none kV_Dyadic_same dc_Dyadic_same pm_Dyadic_same an_Dyadic_same cd_Dyadic_same ct_Dyadic_same), sl_Dyadic_same⟩)
    (h_c_Dyadic_same : PySem.W.codeIn K cd_Dyadic_same "Dyadic.same" = true)
    (h_k_Dyadic_same : PySem.W.keepIn K (.ref f_Dyadic_same) = true)
    (h_a_times : PySem.W.nsIn K mainGlobals "times" = some (some (.ref f_times)))
    (h_l_times : K.lookup f_times = some ⟨oc_times, od_times, .func (PySem.W.fnOf "times" "times" (defArgs s_times) (defBody s_times) (defScope s_times) .none kV_times dc_times pm_times an_times cd_times ct_times), sl_times⟩)
    (h_c_times : PySem.W.codeIn K cd_times "times" = true)
    (h_k_times : PySem.W.keepIn K (.ref f_times) = true)
    (h_a_slope_between : PySem.W.nsIn K mainGlobals "slope_between" = some (some (.ref f_slope_between)))
    (h_l_slope_between : K.lookup f_slope_between = some ⟨oc_slope_between, od_slope_between, .func (PySem.W.fnOf "slope_between" "slope_between" (defArgs s_slope_between) (defBody s_slope_between) (defScope s_slope_between) .none kV_slope_between dc_slope_between pm_slope_between an_slope_between cd_slope_between ct_slope_between), sl_slope_between⟩)
    (h_c_slope_between : PySem.W.codeIn K cd_slope_between "slope_between" = true)
    (h_k_slope_between : PySem.W.keepIn K (.ref f_slope_between) = true)
    (h_a_Wall_init : PySem.W.findIn K (.ref C_Wall) "__init__" = some (some (.ref f_Wall_init)))
    (h_i_Wall_init : PySem.W.isFn K (.ref f_Wall_init) = true)
    (h_l_Wall_init : K.lookup f_Wall_init = some ⟨oc_Wall_init, od_Wall_init, .func (PySem.W.fnOf "__init__" "Wall.__init__" (defArgs s_Wall_init) (defBody s_Wall_init) (defScope s_Wall_init) .none kV_Wall_init dc_Wall_init pm_Wall_init an_Wall_init cd_Wall_init ct_Wall_init), sl_Wall_init⟩)
    (h_c_Wall_init : PySem.W.codeIn K cd_Wall_init "Wall.__init__" = true)
    (h_k_Wall_init : PySem.W.keepIn K (.ref f_Wall_init) = true)
    (h_a_law_pairs_7c2080d5 : PySem.W.nsIn K mainGlobals "_law_pairs" = some (some (.ref f_law_pairs_7c2080d5)))
    (h_l_law_pairs_7c2080d5 : K.lookup f_law_pairs_7c2080d5 = some ⟨oc_law_pairs_7c2080d5, od_law_pairs_7c2080d5, .func (PySem.W.fnOf "_law_pairs" "_law_pairs" (defArgs s_law_pairs_7c2080d5) (defBody s_law_pairs_7c2080d5) (defScope s_law_pairs_7c2080d5) .none kV_law_pairs_7c2080d5 dc_law_pairs_7c2080d5 pm_law_pairs_7c2080d5 an_law_pairs_7c2080d5 cd_law_pairs_7c2080d5 ct_law_pairs_7c2080d5), sl_law_pairs_7c2080d5⟩)
    (h_c_law_pairs_7c2080d5 : PySem.W.codeIn K cd_law_pairs_7c2080d5 "_law_pairs" = true)
    (h_k_law_pairs_7c2080d5 : PySem.W.keepIn K (.ref f_law_pairs_7c2080d5) = true)
    (h_a_law_is_integer_fcf59962 : PySem.W.nsIn K mainGlobals "_law_is_integer" = some (some (.ref f_law_is_integer_fcf59962)))
    (h_l_law_is_integer_fcf59962 : K.lookup f_law_is_integer_fcf59962 = some ⟨oc_law_is_integer_fcf59962, od_law_is_integer_fcf59962, .func (PySem.W.fnOf "_law_is_integer" "_law_is_integer" (defArgs s_law_is_integer_fcf59962) (defBody s_law_is_integer_fcf59962) (defScope s_law_is_integer_fcf59962) .none kV_law_is_integer_fcf59962 dc_law_is_integer_fcf59962 pm_law_is_integer_fcf59962 an_law_is_integer_fcf59962 cd_law_is_integer_fcf59962 ct_law_is_integer_fcf59962), sl_law_is_integer_fcf59962⟩)
    (h_c_law_is_integer_fcf59962 : PySem.W.codeIn K cd_law_is_integer_fcf59962 "_law_is_integer" = true)
    (h_k_law_is_integer_fcf59962 : PySem.W.keepIn K (.ref f_law_is_integer_fcf59962) = true)
    (h_a_law_plain_41305dcc : PySem.W.nsIn K mainGlobals "_law_plain" = some (some (.ref f_law_plain_41305dcc)))
    (h_l_law_plain_41305dcc : K.lookup f_law_plain_41305dcc = some ⟨oc_law_plain_41305dcc, od_law_plain_41305dcc, .func (PySem.W.fnOf "_law_plain" "_law_plain" (defArgs s_law_plain_41305dcc) (defBody s_law_plain_41305dcc) (defScope s_law_plain_41305dcc) .none kV_law_plain_41305dcc dc_law_plain_41305dcc pm_law_plain_41305dcc an_law_plain_41305dcc cd_law_plain_41305dcc ct_law_plain_41305dcc), sl_law_plain_41305dcc⟩)
    (h_c_law_plain_41305dcc : PySem.W.codeIn K cd_law_plain_41305dcc "_law_plain" = true)
    (h_k_law_plain_41305dcc : PySem.W.keepIn K (.ref f_law_plain_41305dcc) = true)
    (h_a_law_is_d09be0d2 : PySem.W.nsIn K mainGlobals "_law_is" = some (some (.ref f_law_is_d09be0d2)))
    (h_l_law_is_d09be0d2 : K.lookup f_law_is_d09be0d2 = some ⟨oc_law_is_d09be0d2, od_law_is_d09be0d2, .func (PySem.W.fnOf "_law_is" "_law_is" (defArgs s_law_is_d09be0d2) (defBody s_law_is_d09be0d2) (defScope s_law_is_d09be0d2) .none kV_law_is_d09be0d2 dc_law_is_d09be0d2 pm_law_is_d09be0d2 an_law_is_d09be0d2 cd_law_is_d09be0d2 ct_law_is_d09be0d2), sl_law_is_d09be0d2⟩)
    (h_c_law_is_d09be0d2 : PySem.W.codeIn K cd_law_is_d09be0d2 "_law_is" = true)
    (h_k_law_is_d09be0d2 : PySem.W.keepIn K (.ref f_law_is_d09be0d2) = true)
    (h_a_law_place_8b093576 : PySem.W.nsIn K mainGlobals "_law_place" = some (some (.ref f_law_place_8b093576)))
    (h_l_law_place_8b093576 : K.lookup f_law_place_8b093576 = some ⟨oc_law_place_8b093576, od_law_place_8b093576, .func (PySem.W.fnOf "_law_place" "_law_place" (defArgs s_law_place_8b093576) (defBody s_law_place_8b093576) (defScope s_law_place_8b093576) .none kV_law_place_8b093576 dc_law_place_8b093576 pm_law_place_8b093576 an_law_place_8b093576 cd_law_place_8b093576 ct_law_place_8b093576), sl_law_place_8b093576⟩)
    (h_c_law_place_8b093576 : PySem.W.codeIn K cd_law_place_8b093576 "_law_place" = true)
    (h_k_law_place_8b093576 : PySem.W.keepIn K (.ref f_law_place_8b093576) = true)
    (h_a_law_at_ade38b70 : PySem.W.nsIn K mainGlobals "_law_at" = some (some (.ref f_law_at_ade38b70)))
    (h_l_law_at_ade38b70 : K.lookup f_law_at_ade38b70 = some ⟨oc_law_at_ade38b70, od_law_at_ade38b70, .func (PySem.W.fnOf "_law_at" "_law_at" (defArgs s_law_at_ade38b70) (defBody s_law_at_ade38b70) (defScope s_law_at_ade38b70) .none kV_law_at_ade38b70 dc_law_at_ade38b70 pm_law_at_ade38b70 an_law_at_ade38b70 cd_law_at_ade38b70 ct_law_at_ade38b70), sl_law_at_ade38b70⟩)
    (h_c_law_at_ade38b70 : PySem.W.codeIn K cd_law_at_ade38b70 "_law_at" = true)
    (h_k_law_at_ade38b70 : PySem.W.keepIn K (.ref f_law_at_ade38b70) = true)
    (h_a_Wall_place : PySem.W.findIn K (.ref C_Wall) "_place" = some (some (.ref f_Wall_place)))
    (h_i_Wall_place : PySem.W.isFn K (.ref f_Wall_place) = true)
    (h_l_Wall_place : K.lookup f_Wall_place = some ⟨oc_Wall_place, od_Wall_place, .func (PySem.W.fnOf "_place" "Wall._place" (defArgs s_Wall_place) (defBody s_Wall_place) (defScope s_Wall_place) .none kV_Wall_place dc_Wall_place pm_Wall_place an_Wall_place cd_Wall_place ct_Wall_place), sl_Wall_place⟩)
    (h_c_Wall_place : PySem.W.codeIn K cd_Wall_place "Wall._place" = true)
    (h_k_Wall_place : PySem.W.keepIn K (.ref f_Wall_place) = true)
    (h_a_Wall_at : PySem.W.findIn K (.ref C_Wall) "at" = some (some (.ref f_Wall_at)))
    (h_i_Wall_at : PySem.W.isFn K (.ref f_Wall_at) = true)
    (h_l_Wall_at : K.lookup f_Wall_at = some ⟨oc_Wall_at, od_Wall_at, .func (PySem.W.fnOf "at" "Wall.at" (defArgs s_Wall_at) (defBody s_Wall_at) (defScope s_Wall_at) .none kV_Wall_at dc_Wall_at pm_Wall_at an_Wall_at cd_Wall_at ct_Wall_at), sl_Wall_at⟩)
    (h_c_Wall_at : PySem.W.codeIn K cd_Wall_at "Wall.at" = true)
    (h_k_Wall_at : PySem.W.keepIn K (.ref f_Wall_at) = true)
    (h_a_Wall_slope_at : PySem.W.findIn K (.ref C_Wall) "slope_at" = some (some (.ref f_Wall_slope_at)))
    (h_i_Wall_slope_at : PySem.W.isFn K (.ref f_Wall_slope_at) = true)
    (h_l_Wall_slope_at : K.lookup f_Wall_slope_at = some ⟨oc_Wall_slope_at, od_Wall_slope_at, .func (PySem.W.fnOf "slope_at" "Wall.slope_at" (defArgs s_Wall_slope_at) (defBody s_Wall_slope_at) (defScope s_Wall_slope_at) .none kV_Wall_slope_at dc_Wall_slope_at pm_Wall_slope_at an_Wall_slope_at cd_Wall_slope_at ct_Wall_slope_at), sl_Wall_slope_at⟩)
    (h_c_Wall_slope_at : PySem.W.codeIn K cd_Wall_slope_at "Wall.slope_at" = true)
    (h_k_Wall_slope_at : PySem.W.keepIn K (.ref f_Wall_slope_at) = true)
    (h_a_law_cut_7d8ca634 : PySem.W.nsIn K mainGlobals "_law_cut" = some (some (.ref f_law_cut_7d8ca634)))
    (h_l_law_cut_7d8ca634 : K.lookup f_law_cut_7d8ca634 = some ⟨oc_law_cut_7d8ca634, od_law_cut_7d8ca634, .func (PySem.W.fnOf "_law_cut" "_law_cut" (defArgs s_law_cut_7d8ca634) (defBody s_law_cut_7d8ca634) (defScope s_law_cut_7d8ca634) .none kV_law_cut_7d8ca634 dc_law_cut_7d8ca634 pm_law_cut_7d8ca634 an_law_cut_7d8ca634 cd_law_cut_7d8ca634 ct_law_cut_7d8ca634), sl_law_cut_7d8ca634⟩)
    (h_c_law_cut_7d8ca634 : PySem.W.codeIn K cd_law_cut_7d8ca634 "_law_cut" = true)
    (h_k_law_cut_7d8ca634 : PySem.W.keepIn K (.ref f_law_cut_7d8ca634) = true)
    (h_a_Wall_cut : PySem.W.findIn K (.ref C_Wall) "cut" = some (some (.ref f_Wall_cut)))
    (h_i_Wall_cut : PySem.W.isFn K (.ref f_Wall_cut) = true)
    (h_l_Wall_cut : K.lookup f_Wall_cut = some ⟨oc_Wall_cut, od_Wall_cut, .func (PySem.W.fnOf "cut" "Wall.cut" (defArgs s_Wall_cut) (defBody s_Wall_cut) (defScope s_Wall_cut) .none kV_Wall_cut dc_Wall_cut pm_Wall_cut an_Wall_cut cd_Wall_cut ct_Wall_cut), sl_Wall_cut⟩)
    (h_c_Wall_cut : PySem.W.codeIn K cd_Wall_cut "Wall.cut" = true)
    (h_k_Wall_cut : PySem.W.keepIn K (.ref f_Wall_cut) = true)
    (h_a_Wall_slope : PySem.W.findIn K (.ref C_Wall) "slope" = some (some (.ref p_Wall_slope)))
    (h_pget_Wall_slope : PySem.W.specialIn K (.ref p_Wall_slope) "__get__" = some (some (.builtin "property.__get__")))
    (h_ptak_Wall_slope : PySem.W.takesIn K (.ref p_Wall_slope) = some true)
    (h_prec_Wall_slope : PySem.W.recIn K p_Wall_slope "property" = some (.ref f_Wall_slope :: rest_Wall_slope))
    (h_l_Wall_slope : K.lookup f_Wall_slope = some ⟨oc_Wall_slope, od_Wall_slope, .func (PySem.W.fnOf "slope" "Wall.slope" (defArgs s_Wall_slope) (defBody s_Wall_slope) (defScope s_Wall_slope) .none kV_Wall_slope dc_Wall_slope pm_Wall_slope an_Wall_slope cd_Wall_slope ct_Wall_slope), sl_Wall_slope⟩)
    (h_c_Wall_slope : PySem.W.codeIn K cd_Wall_slope "Wall.slope" = true)
    (h_k_Wall_slope : PySem.W.keepIn K (.ref f_Wall_slope) = true)
    (h_a_Wall_points : PySem.W.findIn K (.ref C_Wall) "points" = some (some (.ref f_Wall_points)))
    (h_i_Wall_points : PySem.W.isFn K (.ref f_Wall_points) = true)
    (h_l_Wall_points : K.lookup f_Wall_points = some ⟨oc_Wall_points, od_Wall_points, .func (PySem.W.fnOf "points" "Wall.points" (defArgs s_Wall_points) (defBody s_Wall_points) (defScope s_Wall_points) .none kV_Wall_points dc_Wall_points pm_Wall_points an_Wall_points cd_Wall_points ct_Wall_points), sl_Wall_points⟩)
    (h_c_Wall_points : PySem.W.codeIn K cd_Wall_points "Wall.points" = true)
    (h_k_Wall_points : PySem.W.keepIn K (.ref f_Wall_points) = true)
    (h_a_law_told_74f31f6a : PySem.W.nsIn K mainGlobals "_law_told" = some (some (.ref f_law_told_74f31f6a)))
    (h_l_law_told_74f31f6a : K.lookup f_law_told_74f31f6a = some ⟨oc_law_told_74f31f6a, od_law_told_74f31f6a, .func (PySem.W.fnOf "_law_told" "_law_told" (defArgs s_law_told_74f31f6a) (defBody s_law_told_74f31f6a) (defScope s_law_told_74f31f6a) .none kV_law_told_74f31f6a dc_law_told_74f31f6a pm_law_told_74f31f6a an_law_told_74f31f6a cd_law_told_74f31f6a ct_law_told_74f31f6a), sl_law_told_74f31f6a⟩)
    (h_c_law_told_74f31f6a : PySem.W.codeIn K cd_law_told_74f31f6a "_law_told" = true)
    (h_k_law_told_74f31f6a : PySem.W.keepIn K (.ref f_law_told_74f31f6a) = true)
    (h_a_law_asked_55bd0f0b : PySem.W.nsIn K mainGlobals "_law_asked" = some (some (.ref f_law_asked_55bd0f0b)))
    (h_l_law_asked_55bd0f0b : K.lookup f_law_asked_55bd0f0b = some ⟨oc_law_asked_55bd0f0b, od_law_asked_55bd0f0b, .func (PySem.W.fnOf "_law_asked" "_law_asked" (defArgs s_law_asked_55bd0f0b) (defBody s_law_asked_55bd0f0b) (defScope s_law_asked_55bd0f0b) .none kV_law_asked_55bd0f0b dc_law_asked_55bd0f0b pm_law_asked_55bd0f0b an_law_asked_55bd0f0b cd_law_asked_55bd0f0b ct_law_asked_55bd0f0b), sl_law_asked_55bd0f0b⟩)
    (h_c_law_asked_55bd0f0b : PySem.W.codeIn K cd_law_asked_55bd0f0b "_law_asked" = true)
    (h_k_law_asked_55bd0f0b : PySem.W.keepIn K (.ref f_law_asked_55bd0f0b) = true)
    (h_a_Wall_tilted : PySem.W.findIn K (.ref C_Wall) "tilted" = some (some (.ref f_Wall_tilted)))
    (h_i_Wall_tilted : PySem.W.isFn K (.ref f_Wall_tilted) = true)
    (h_l_Wall_tilted : K.lookup f_Wall_tilted = some ⟨oc_Wall_tilted, od_Wall_tilted, .func (PySem.W.fnOf "tilted" "Wall.tilted" (defArgs s_Wall_tilted) (defBody s_Wall_tilted) (defScope s_Wall_tilted) .none kV_Wall_tilted dc_Wall_tilted pm_Wall_tilted an_Wall_tilted cd_Wall_tilted ct_Wall_tilted), sl_Wall_tilted⟩)
    (h_c_Wall_tilted : PySem.W.codeIn K cd_Wall_tilted "Wall.tilted" = true)
    (h_k_Wall_tilted : PySem.W.keepIn K (.ref f_Wall_tilted) = true)
    (h_a_law_is_only_611d9904 : PySem.W.nsIn K mainGlobals "_law_is_only" = some (some (.ref f_law_is_only_611d9904)))
    (h_l_law_is_only_611d9904 : K.lookup f_law_is_only_611d9904 = some ⟨oc_law_is_only_611d9904, od_law_is_only_611d9904, .func (PySem.W.fnOf "_law_is_only" "_law_is_only" (defArgs s_law_is_only_611d9904) (defBody s_law_is_only_611d9904) (defScope s_law_is_only_611d9904) .none kV_law_is_only_611d9904 dc_law_is_only_611d9904 pm_law_is_only_611d9904 an_law_is_only_611d9904 cd_law_is_only_611d9904 ct_law_is_only_611d9904), sl_law_is_only_611d9904⟩)
    (h_c_law_is_only_611d9904 : PySem.W.codeIn K cd_law_is_only_611d9904 "_law_is_only" = true)
    (h_k_law_is_only_611d9904 : PySem.W.keepIn K (.ref f_law_is_only_611d9904) = true)
    (h_a_law_refused_79b82729 : PySem.W.nsIn K mainGlobals "_law_refused" = some (some (.ref f_law_refused_79b82729)))
    (h_l_law_refused_79b82729 : K.lookup f_law_refused_79b82729 = some ⟨oc_law_refused_79b82729, od_law_refused_79b82729, .func (PySem.W.fnOf "_law_refused" "_law_refused" (defArgs s_law_refused_79b82729) (defBody s_law_refused_79b82729) (defScope s_law_refused_79b82729) .none kV_law_refused_79b82729 dc_law_refused_79b82729 pm_law_refused_79b82729 an_law_refused_79b82729 cd_law_refused_79b82729 ct_law_refused_79b82729), sl_law_refused_79b82729⟩)
    (h_c_law_refused_79b82729 : PySem.W.codeIn K cd_law_refused_79b82729 "_law_refused" = true)
    (h_k_law_refused_79b82729 : PySem.W.keepIn K (.ref f_law_refused_79b82729) = true)
    (h_a_law_tilted_ff5ba2ea : PySem.W.nsIn K mainGlobals "_law_tilted" = some (some (.ref f_law_tilted_ff5ba2ea)))
    (h_l_law_tilted_ff5ba2ea : K.lookup f_law_tilted_ff5ba2ea = some ⟨oc_law_tilted_ff5ba2ea, od_law_tilted_ff5ba2ea, .func (PySem.W.fnOf "_law_tilted" "_law_tilted" (defArgs s_law_tilted_ff5ba2ea) (defBody s_law_tilted_ff5ba2ea) (defScope s_law_tilted_ff5ba2ea) .none kV_law_tilted_ff5ba2ea dc_law_tilted_ff5ba2ea pm_law_tilted_ff5ba2ea an_law_tilted_ff5ba2ea cd_law_tilted_ff5ba2ea ct_law_tilted_ff5ba2ea), sl_law_tilted_ff5ba2ea⟩)
    (h_c_law_tilted_ff5ba2ea : PySem.W.codeIn K cd_law_tilted_ff5ba2ea "_law_tilted" = true)
    (h_k_law_tilted_ff5ba2ea : PySem.W.keepIn K (.ref f_law_tilted_ff5ba2ea) = true)
    (h_a_Wall_turned : PySem.W.findIn K (.ref C_Wall) "turned" = some (some (.ref f_Wall_turned)))
    (h_i_Wall_turned : PySem.W.isFn K (.ref f_Wall_turned) = true)
    (h_l_Wall_turned : K.lookup f_Wall_turned = some ⟨oc_Wall_turned, od_Wall_turned, .func (PySem.W.fnOf "turned" "Wall.turned" (defArgs s_Wall_turned) (defBody s_Wall_turned) (defScope s_Wall_turned) .none kV_Wall_turned dc_Wall_turned pm_Wall_turned an_Wall_turned cd_Wall_turned ct_Wall_turned), sl_Wall_turned⟩)
    (h_c_Wall_turned : PySem.W.codeIn K cd_Wall_turned "Wall.turned" = true)
    (h_k_Wall_turned : PySem.W.keepIn K (.ref f_Wall_turned) = true)
    (h_a_law_10e31170 : PySem.W.nsIn K mainGlobals "law" = some (some (.ref f_law_10e31170)))
    (h_l_law_10e31170 : K.lookup f_law_10e31170 = some ⟨oc_law_10e31170, od_law_10e31170, .func (PySem.W.fnOf "law" "law" (defArgs s_law_10e31170) (defBody s_law_10e31170) (defScope s_law_10e31170) .none kV_law_10e31170 dc_law_10e31170 pm_law_10e31170 an_law_10e31170 cd_law_10e31170 ct_law_10e31170), sl_law_10e31170⟩)
    (h_c_law_10e31170 : PySem.W.codeIn K cd_law_10e31170 "law" = true)
    (h_k_law_10e31170 : PySem.W.keepIn K (.ref f_law_10e31170) = true)
    : ∃ fd : FuncData, (∀ (s : Shared) (v : Value), BindsTo s fd ⟨[v], []⟩ [("_law_script", v)]) ∧ ∀ base : Heap, K.In base → base.Ns mainGlobals mg → L2.FnOk lawPr w K mg base (L2N.CX lawPr w) 231 fa fd ["_law_script"] (liftSp ⟨lawPr, w, K⟩ spLawT) := by
  have e : f_law_10e31170 = fa := Value.ref.inj (Option.some.inj ((PySem.W.mg_of X G0 h_a_law_10e31170).symm.trans hfa))
  subst e
  have F_law_digits_6b3a3527 := fun_mk (st := s_law_digits_6b3a3527) h_l_law_digits_6b3a3527 h_c_law_digits_6b3a3527 h_k_law_digits_6b3a3527
  have F_law_drawn_c20d4a75 := fun_mk (st := s_law_drawn_c20d4a75) h_l_law_drawn_c20d4a75 h_c_law_drawn_c20d4a75 h_k_law_drawn_c20d4a75
  have F_law_cell_49a05b28 := fun_mk (st := s_law_cell_49a05b28) h_l_law_cell_49a05b28 h_c_law_cell_49a05b28 h_k_law_cell_49a05b28
  have F_Dyadic_top := fun_mk (st := s_Dyadic_top) h_l_Dyadic_top h_c_Dyadic_top h_k_Dyadic_top
  have F_Dyadic_power := fun_mk (st := s_Dyadic_power) h_l_Dyadic_power h_c_Dyadic_power h_k_Dyadic_power
  have F_Dyadic_less := fun_mk (st := s_Dyadic_less) h_l_Dyadic_less h_c_Dyadic_less h_k_Dyadic_less
  have F_reduced := fun_mk (st := s_reduced) h_l_reduced h_c_reduced h_k_reduced
  have F_is_integer := fun_mk (st := s_is_integer) h_l_is_integer h_c_is_integer h_k_is_integer
  have F_Dyadic_init : FunD K "__init__" "Dyadic.__init__" (defArgs s_Dyadic_init) (defBody s_Dyadic_init) (defScope s_Dyadic_init) [V.int 0] [] f_Dyadic_init (PySem.W.fnOf "__init__" "Dyadic.__init__" (defArgs s_Dyadic_init) (defBody s_Dyadic_init) (defScope s_Dyadic_init) (.ref T_Dyadic_init) kV_Dyadic_init dc_Dyadic_init pm_Dyadic_init an_Dyadic_init cd_Dyadic_init ct_Dyadic_init) := ⟨⟨oc_Dyadic_init, od_Dyadic_init, _, kV_Dyadic_init, dc_Dyadic_init, pm_Dyadic_init, an_Dyadic_init, cd_Dyadic_init, ct_Dyadic_init, sl_Dyadic_init, rfl, h_l_Dyadic_init, h_c_Dyadic_init, .inr ⟨by decide, T_Dyadic_init, _, [.int 0 tk0_Dyadic_init], _, rfl, h_lT_Dyadic_init, rfl, (.cons ⟨_, rfl⟩ .nil)⟩, .inl rfl⟩, h_k_Dyadic_init⟩
  have F_Dyadic_add := fun_mk (st := s_Dyadic_add) h_l_Dyadic_add h_c_Dyadic_add h_k_Dyadic_add
  have F_Dyadic_neg := fun_mk (st := s_Dyadic_neg) h_l_Dyadic_neg h_c_Dyadic_neg h_k_Dyadic_neg
  have F_Dyadic_sub := fun_mk (st := s_Dyadic_sub) h_l_Dyadic_sub h_c_Dyadic_sub h_k_Dyadic_sub
  have F_Dyadic_same := fun_mk (st := s_Dyadic_same) h_l_Dyadic_same h_c_Dyadic_same h_k_Dyadic_same
  have F_times := fun_mk (st := s_times) h_l_times h_c_times h_k_times
  have F_slope_between := fun_mk (st := s_slope_between) h_l_slope_between h_c_slope_between h_k_slope_between
  have F_Wall_init := fun_mk (st := s_Wall_init) h_l_Wall_init h_c_Wall_init h_k_Wall_init
  have F_law_pairs_7c2080d5 := fun_mk (st := s_law_pairs_7c2080d5) h_l_law_pairs_7c2080d5 h_c_law_pairs_7c2080d5 h_k_law_pairs_7c2080d5
  have F_law_is_integer_fcf59962 := fun_mk (st := s_law_is_integer_fcf59962) h_l_law_is_integer_fcf59962 h_c_law_is_integer_fcf59962 h_k_law_is_integer_fcf59962
  have F_law_plain_41305dcc := fun_mk (st := s_law_plain_41305dcc) h_l_law_plain_41305dcc h_c_law_plain_41305dcc h_k_law_plain_41305dcc
  have F_law_is_d09be0d2 := fun_mk (st := s_law_is_d09be0d2) h_l_law_is_d09be0d2 h_c_law_is_d09be0d2 h_k_law_is_d09be0d2
  have F_law_place_8b093576 := fun_mk (st := s_law_place_8b093576) h_l_law_place_8b093576 h_c_law_place_8b093576 h_k_law_place_8b093576
  have F_law_at_ade38b70 := fun_mk (st := s_law_at_ade38b70) h_l_law_at_ade38b70 h_c_law_at_ade38b70 h_k_law_at_ade38b70
  have F_Wall_place := fun_mk (st := s_Wall_place) h_l_Wall_place h_c_Wall_place h_k_Wall_place
  have F_Wall_at := fun_mk (st := s_Wall_at) h_l_Wall_at h_c_Wall_at h_k_Wall_at
  have F_Wall_slope_at := fun_mk (st := s_Wall_slope_at) h_l_Wall_slope_at h_c_Wall_slope_at h_k_Wall_slope_at
  have F_law_cut_7d8ca634 := fun_mk (st := s_law_cut_7d8ca634) h_l_law_cut_7d8ca634 h_c_law_cut_7d8ca634 h_k_law_cut_7d8ca634
  have F_Wall_cut := fun_mk (st := s_Wall_cut) h_l_Wall_cut h_c_Wall_cut h_k_Wall_cut
  have F_Wall_slope := fun_mk (st := s_Wall_slope) h_l_Wall_slope h_c_Wall_slope h_k_Wall_slope
  have F_Wall_points := fun_mk (st := s_Wall_points) h_l_Wall_points h_c_Wall_points h_k_Wall_points
  have F_law_told_74f31f6a := fun_mk (st := s_law_told_74f31f6a) h_l_law_told_74f31f6a h_c_law_told_74f31f6a h_k_law_told_74f31f6a
  have F_law_asked_55bd0f0b := fun_mk (st := s_law_asked_55bd0f0b) h_l_law_asked_55bd0f0b h_c_law_asked_55bd0f0b h_k_law_asked_55bd0f0b
  have F_Wall_tilted := fun_mk (st := s_Wall_tilted) h_l_Wall_tilted h_c_Wall_tilted h_k_Wall_tilted
  have F_law_is_only_611d9904 := fun_mk (st := s_law_is_only_611d9904) h_l_law_is_only_611d9904 h_c_law_is_only_611d9904 h_k_law_is_only_611d9904
  have F_law_refused_79b82729 := fun_mk (st := s_law_refused_79b82729) h_l_law_refused_79b82729 h_c_law_refused_79b82729 h_k_law_refused_79b82729
  have F_law_tilted_ff5ba2ea := fun_mk (st := s_law_tilted_ff5ba2ea) h_l_law_tilted_ff5ba2ea h_c_law_tilted_ff5ba2ea h_k_law_tilted_ff5ba2ea
  have F_Wall_turned := fun_mk (st := s_Wall_turned) h_l_Wall_turned h_c_Wall_turned h_k_Wall_turned
  have F_law_10e31170 := fun_mk (st := s_law_10e31170) h_l_law_10e31170 h_c_law_10e31170 h_k_law_10e31170
  let G : Gx := ⟨⟨lawPr, w, K⟩, C_PlayError, C_BadValue, C_BadText, C_Unknown, C_NoMove, C_Dyadic, 0, 0, 0, 0, 0, C_Wall, 0, 0, 0, 0, 0, 0, 0, 0, 0, 0, 0, 0, 0, 0, 0⟩
  have T : ∃ A : Ad, Txt G mg A ∧ A.f_law_10e31170 = f_law_10e31170 ∧ A.fd_law_10e31170 = PySem.W.fnOf "law" "law" (defArgs s_law_10e31170) (defBody s_law_10e31170) (defScope s_law_10e31170) .none kV_law_10e31170 dc_law_10e31170 pm_law_10e31170 an_law_10e31170 cd_law_10e31170 ct_law_10e31170 := ⟨⟨f_law_digits_6b3a3527, _, f_law_drawn_c20d4a75, _, f_law_cell_49a05b28, _, f_Dyadic_top, _, p_Dyadic_top, f_Dyadic_power, _, p_Dyadic_power, f_Dyadic_less, _, f_reduced, _, f_is_integer, _, f_Dyadic_init, _, f_Dyadic_add, _, f_Dyadic_neg, _, f_Dyadic_sub, _, f_Dyadic_same, _, f_times, _, f_slope_between, _, f_Wall_init, _, f_law_pairs_7c2080d5, _, f_law_is_integer_fcf59962, _, f_law_plain_41305dcc, _, f_law_is_d09be0d2, _, f_law_place_8b093576, _, f_law_at_ade38b70, _, f_Wall_place, _, f_Wall_at, _, f_Wall_slope_at, _, f_law_cut_7d8ca634, _, f_Wall_cut, _, f_Wall_slope, _, p_Wall_slope, f_Wall_points, _, f_law_told_74f31f6a, _, f_law_asked_55bd0f0b, _, f_Wall_tilted, _, f_law_is_only_611d9904, _, f_law_refused_79b82729, _, f_law_tilted_ff5ba2ea, _, f_Wall_turned, _, f_law_10e31170, _⟩, ⟨PySem.W.mg_of X G0 h_aC_Dyadic, ⟨h_pg_Dyadic, h_hd_Dyadic, h_po_Dyadic, h_sa_Dyadic⟩, ⟨⟨h_pg_Dyadic, h_hd_Dyadic, h_po_Dyadic, h_sa_Dyadic⟩, ⟨h_ha_Dyadic, h_hn_, h_htk_, h_mr_Dyadic⟩, fun _ h => (nomatch h), List.nodup_nil, by decide⟩, h_sf_Dyadic, h_no_Dyadic__top, h_no_Dyadic__power, ⟨h_mk_Dyadic, h_a_Dyadic_init, h_i_Dyadic_init, h_kc_Dyadic⟩, PySem.W.mg_of X G0 h_aC_Wall, ⟨h_pg_Wall, h_hd_Wall, h_po_Wall, h_sa_Wall⟩, ⟨⟨h_pg_Wall, h_hd_Wall, h_po_Wall, h_sa_Wall⟩, ⟨h_ha_Wall, h_hn_, h_htk_, h_mr_Wall⟩, fun _ h => (nomatch h), List.nodup_nil, by decide⟩, h_no_Wall__points, h_no_Wall__slopes, ⟨h_mk_Wall, h_a_Wall_init, h_i_Wall_init, h_kc_Wall⟩, PySem.W.mg_of X G0 h_aC_BadText, PySem.W.mg_of X G0 h_aC_BadValue, h_x_BadValue, h_k_BadValue, h_eb_BadValue, h_et_BadValue, PySem.W.mg_of X G0 h_aC_NoMove, PySem.W.mg_of X G0 h_aC_PlayError, PySem.W.mg_of X G0 h_aC_Unknown, ⟨⟨h_xg_BadValue, h_xk_BadValue, h_eb_BadValue, h_xd_BadValue, h_xa_BadValue, h_hn_, h_htk_, h_xm_BadValue⟩, PySem.W.exm_ref h_eb_PlayError h_xd_PlayError h_et_PlayError h_xs_BadValue_PlayError, PySem.W.exm_ref h_eb_BadValue h_xd_BadValue h_et_BadValue h_xs_BadValue_BadValue, kit_refT h_xd_PlayError h_et_PlayError h_xs_BadValue_PlayError, kit_refF h_xd_BadText h_et_BadText h_xs_BadValue_BadText h_xs_BadText_BadText, kit_refF h_xd_Unknown h_et_Unknown h_xs_BadValue_Unknown h_xs_Unknown_Unknown, kit_refF h_xd_NoMove h_et_NoMove h_xs_BadValue_NoMove h_xs_NoMove_NoMove, kit_tyT (by decide +kernel) h_xv_BadValue⟩, ⟨_, PySem.W.mg_of X G0 h_g_POWER_MOST⟩, ⟨_, PySem.W.mg_of X G0 h_g_TOP_MOST⟩, PySem.W.mg_none_of X G0 h_n_ValueError, PySem.W.mg_none_of X G0 h_n_bool, PySem.W.mg_none_of X G0 h_n_enumerate, PySem.W.mg_none_of X G0 h_n_int, PySem.W.mg_none_of X G0 h_n_isinstance, PySem.W.mg_none_of X G0 h_n_len, PySem.W.mg_none_of X G0 h_n_list, PySem.W.mg_none_of X G0 h_n_max, PySem.W.mg_none_of X G0 h_n_min, PySem.W.mg_none_of X G0 h_n_range, PySem.W.mg_none_of X G0 h_n_tuple, PySem.W.mg_of X G0 h_a_law_digits_6b3a3527, F_law_digits_6b3a3527, F_law_digits_6b3a3527.binds (ps := ["_law_cell_here", "_law_count"]) fun _ _ _ _ _ _ us hl => match us, hl with | [_, _], _ => rfl, PySem.W.mg_of X G0 h_a_law_drawn_c20d4a75, F_law_drawn_c20d4a75, F_law_drawn_c20d4a75.binds (ps := ["_law_cell_here", "_law_base"]) fun _ _ _ _ _ _ us hl => match us, hl with | [_, _], _ => rfl, PySem.W.mg_of X G0 h_a_law_cell_49a05b28, F_law_cell_49a05b28, F_law_cell_49a05b28.binds (ps := ["_law_script", "_law_k"]) fun _ _ _ _ _ _ us hl => match us, hl with | [_, _], _ => rfl, ⟨h_a_Dyadic_top, h_pget_Dyadic_top, h_ptak_Dyadic_top, ⟨_, h_prec_Dyadic_top⟩⟩, F_Dyadic_top, F_Dyadic_top.binds (ps := ["self"]) fun _ _ _ _ _ _ us hl => match us, hl with | [_], _ => rfl, ⟨h_a_Dyadic_power, h_pget_Dyadic_power, h_ptak_Dyadic_power, ⟨_, h_prec_Dyadic_power⟩⟩, F_Dyadic_power, F_Dyadic_power.binds (ps := ["self"]) fun _ _ _ _ _ _ us hl => match us, hl with | [_], _ => rfl, ⟨h_a_Dyadic_less, h_i_Dyadic_less, h_k_Dyadic_less⟩, F_Dyadic_less, F_Dyadic_less.binds (ps := ["self", "other"]) fun _ _ _ _ _ _ us hl => match us, hl with | [_, _], _ => rfl, PySem.W.mg_of X G0 h_a_reduced, F_reduced, F_reduced.binds (ps := ["top", "power"]) fun _ _ _ _ _ _ us hl => match us, hl with | [_, _], _ => rfl, PySem.W.mg_of X G0 h_a_is_integer, F_is_integer, F_is_integer.binds (ps := ["thing"]) fun _ _ _ _ _ _ us hl => match us, hl with | [_], _ => rfl, F_Dyadic_init, F_Dyadic_init.binds1 (ps := ["self", "top", "power"]) 2 0 (by decide) (by decide) fun _ _ _ _ _ _ _ us its hl hi => match us, hl, its, hi with | [_, _], _, [_], _ => ⟨_, rfl, rfl⟩, F_Dyadic_init.binds1 (ps := ["self", "top", "power"]) 3 1 (by decide) (by decide) fun _ _ _ _ _ _ _ us its hl hi => match us, hl, its, hi with | [_, _, _], _, [_], _ => ⟨_, rfl, rfl⟩, ⟨h_a_Dyadic_add, h_i_Dyadic_add, h_k_Dyadic_add⟩, F_Dyadic_add, F_Dyadic_add.binds (ps := ["self", "other"]) fun _ _ _ _ _ _ us hl => match us, hl with | [_, _], _ => rfl, ⟨h_a_Dyadic_neg, h_i_Dyadic_neg, h_k_Dyadic_neg⟩, F_Dyadic_neg, F_Dyadic_neg.binds (ps := ["self"]) fun _ _ _ _ _ _ us hl => match us, hl with | [_], _ => rfl, ⟨h_a_Dyadic_sub, h_i_Dyadic_sub, h_k_Dyadic_sub⟩, F_Dyadic_sub, F_Dyadic_sub.binds (ps := ["self", "other"]) fun _ _ _ _ _ _ us hl => match us, hl with | [_, _], _ => rfl, ⟨h_a_Dyadic_same, h_i_Dyadic_same, h_k_Dyadic_same⟩, F_Dyadic_same, F_Dyadic_same.binds (ps := ["self", "other"]) fun _ _ _ _ _ _ us hl => match us, hl with | [_, _], _ => rfl, PySem.W.mg_of X G0 h_a_times, F_times, F_times.binds (ps := ["number", "slope"]) fun _ _ _ _ _ _ us hl => match us, hl with | [_, _], _ => rfl, PySem.W.mg_of X G0 h_a_slope_between, F_slope_between, F_slope_between.binds (ps := ["one", "other"]) fun _ _ _ _ _ _ us hl => match us, hl with | [_, _], _ => rfl, F_Wall_init, F_Wall_init.binds (ps := ["self", "points", "slope"]) fun _ _ _ _ _ _ us hl => match us, hl with | [_, _, _], _ => rfl, PySem.W.mg_of X G0 h_a_law_pairs_7c2080d5, F_law_pairs_7c2080d5, F_law_pairs_7c2080d5.binds (ps := ["_law_points"]) fun _ _ _ _ _ _ us hl => match us, hl with | [_], _ => rfl, PySem.W.mg_of X G0 h_a_law_is_integer_fcf59962, F_law_is_integer_fcf59962, F_law_is_integer_fcf59962.binds (ps := ["_law_thing"]) fun _ _ _ _ _ _ us hl => match us, hl with | [_], _ => rfl, PySem.W.mg_of X G0 h_a_law_plain_41305dcc, F_law_plain_41305dcc, F_law_plain_41305dcc.binds (ps := ["_law_top", "_law_power"]) fun _ _ _ _ _ _ us hl => match us, hl with | [_, _], _ => rfl, PySem.W.mg_of X G0 h_a_law_is_d09be0d2, F_law_is_d09be0d2, F_law_is_d09be0d2.binds (ps := ["_law_number", "_law_due"]) fun _ _ _ _ _ _ us hl => match us, hl with | [_, _], _ => rfl, PySem.W.mg_of X G0 h_a_law_place_8b093576, F_law_place_8b093576, F_law_place_8b093576.binds (ps := ["_law_line", "_law_heat"]) fun _ _ _ _ _ _ us hl => match us, hl with | [_, _], _ => rfl, PySem.W.mg_of X G0 h_a_law_at_ade38b70, F_law_at_ade38b70, F_law_at_ade38b70.binds (ps := ["_law_line", "_law_heat"]) fun _ _ _ _ _ _ us hl => match us, hl with | [_, _], _ => rfl, ⟨h_a_Wall_place, h_i_Wall_place, h_k_Wall_place⟩, F_Wall_place, F_Wall_place.binds (ps := ["self", "heat"]) fun _ _ _ _ _ _ us hl => match us, hl with | [_, _], _ => rfl, ⟨h_a_Wall_at, h_i_Wall_at, h_k_Wall_at⟩, F_Wall_at, F_Wall_at.binds (ps := ["self", "heat"]) fun _ _ _ _ _ _ us hl => match us, hl with | [_, _], _ => rfl, ⟨h_a_Wall_slope_at, h_i_Wall_slope_at, h_k_Wall_slope_at⟩, F_Wall_slope_at, F_Wall_slope_at.binds (ps := ["self", "heat"]) fun _ _ _ _ _ _ us hl => match us, hl with | [_, _], _ => rfl, PySem.W.mg_of X G0 h_a_law_cut_7d8ca634, F_law_cut_7d8ca634, F_law_cut_7d8ca634.binds (ps := ["_law_line", "_law_heat"]) fun _ _ _ _ _ _ us hl => match us, hl with | [_, _], _ => rfl, ⟨h_a_Wall_cut, h_i_Wall_cut, h_k_Wall_cut⟩, F_Wall_cut, F_Wall_cut.binds (ps := ["self", "heat"]) fun _ _ _ _ _ _ us hl => match us, hl with | [_, _], _ => rfl, ⟨h_a_Wall_slope, h_pget_Wall_slope, h_ptak_Wall_slope, ⟨_, h_prec_Wall_slope⟩⟩, F_Wall_slope, F_Wall_slope.binds (ps := ["self"]) fun _ _ _ _ _ _ us hl => match us, hl with | [_], _ => rfl, ⟨h_a_Wall_points, h_i_Wall_points, h_k_Wall_points⟩, F_Wall_points, F_Wall_points.binds (ps := ["self"]) fun _ _ _ _ _ _ us hl => match us, hl with | [_], _ => rfl, PySem.W.mg_of X G0 h_a_law_told_74f31f6a, F_law_told_74f31f6a, F_law_told_74f31f6a.binds (ps := ["_law_shut", "_law_line"]) fun _ _ _ _ _ _ us hl => match us, hl with | [_, _], _ => rfl, PySem.W.mg_of X G0 h_a_law_asked_55bd0f0b, F_law_asked_55bd0f0b, F_law_asked_55bd0f0b.binds (ps := ["_law_shut", "_law_line", "_law_heat"]) fun _ _ _ _ _ _ us hl => match us, hl with | [_, _, _], _ => rfl, ⟨h_a_Wall_tilted, h_i_Wall_tilted, h_k_Wall_tilted⟩, F_Wall_tilted, F_Wall_tilted.binds (ps := ["self", "slope"]) fun _ _ _ _ _ _ us hl => match us, hl with | [_, _], _ => rfl, PySem.W.mg_of X G0 h_a_law_is_only_611d9904, F_law_is_only_611d9904, F_law_is_only_611d9904.binds (ps := ["_law_e", "_law_word"]) fun _ _ _ _ _ _ us hl => match us, hl with | [_, _], _ => rfl, PySem.W.mg_of X G0 h_a_law_refused_79b82729, F_law_refused_79b82729, F_law_refused_79b82729.binds (ps := ["_law_shut", "_law_word", "_law_heat"]) fun _ _ _ _ _ _ us hl => match us, hl with | [_, _, _], _ => rfl, PySem.W.mg_of X G0 h_a_law_tilted_ff5ba2ea, F_law_tilted_ff5ba2ea, F_law_tilted_ff5ba2ea.binds (ps := ["_law_shut", "_law_line", "_law_slope"]) fun _ _ _ _ _ _ us hl => match us, hl with | [_, _, _], _ => rfl, ⟨h_a_Wall_turned, h_i_Wall_turned, h_k_Wall_turned⟩, F_Wall_turned, F_Wall_turned.binds (ps := ["self"]) fun _ _ _ _ _ _ us hl => match us, hl with | [_], _ => rfl, PySem.W.mg_of X G0 h_a_law_10e31170, F_law_10e31170, F_law_10e31170.binds (ps := ["_law_script"]) fun _ _ _ _ _ _ us hl => match us, hl with | [_], _ => rfl⟩, rfl, rfl⟩
  obtain ⟨A, T, e1, e2⟩ := T
  exact ⟨PySem.W.fnOf "law" "law" (defArgs s_law_10e31170) (defBody s_law_10e31170) (defScope s_law_10e31170) .none kV_law_10e31170 dc_law_10e31170 pm_law_10e31170 an_law_10e31170 cd_law_10e31170 ct_law_10e31170, fun s v => .of_eq rfl, fun base _ _ => by rw [← e1, ← e2]; exact (ok_law_10e31170 (G := G) T).kit (k := 231) (by decide) (by decide)⟩
theorem walk {l : PySem.W.OpenLaw} {q : Program} {loose : List Str} {XP : (Str → Option Value) → Heap → Prop} {YP : World → Heap → Prop} {d : DefRec} {K : Params → PySem.W.Frag} (hp : l.prog = lawPr) (hn : l.most = some 63) (hdf : d.params.defaults = [])
    (hY : ∀ (w : World) (h : Heap), YP w h → (K w.params).In h)
    (F : ∀ (w : World) (mg : Str → Option Value) (fa : Addr) (h : Heap), (K w.params).In h → h.Ns mainGlobals mg → mg d.name = some (.ref fa) → ∃ fd : FuncData, (∀ (s : Shared) (u : Value), BindsTo s fd ⟨[u], []⟩ [("_law_script", u)]) ∧ ∀ base : Heap, (K w.params).In base → base.Ns mainGlobals mg → L2.FnOk lawPr w (K w.params) mg base (L2N.CX lawPr w) 231 fa fd ["_law_script"] (liftSp ⟨lawPr, w, K w.params⟩ spLawT)) :
    PySem.W.WalkO q loose XP YP l.row.toRowW d [] (fun f vs => PySem.call f vs) := by
  rw [← hp] at F
  exact L2.walk_of (n := 63) (k := 231) (x := "_law_script") (CX := fun w => L2N.CX l.prog w) (sp := fun w => liftSp ⟨l.prog, w, K w.params⟩ spLawT) hn (by decide) hdf ⟨rfl, by decide, by decide⟩ hY F (fun w H a ns hl _ hS => law_start (k := ⟨l.prog, w, K w.params⟩) hl hS) fun _ _ _ _ _ ⟨_, _, _, _, _, _, _, _, _, _, _, _, z⟩ => z
end AL
open PySem PySem.W PyProof.Rows
set_option maxRecDepth 100000 in
set_option maxHeartbeats 0 in
theorem PySem.Challenge.cw_sumsplay_k47_places_on_a_wall_holds : PySem.Challenge.rw_sumsplay_k47_places_on_a_wall.Holds := by
  w_on; o_law; k_head; (case hw => w_witness2)
  k_fill
  refine AL.walk (l := PySem.Challenge.rw_sumsplay_k47_places_on_a_wall) rfl rfl rfl (fun w h Y => PySem.W.kIn_of Y) ?F
  case F =>
    intro w mg fa h KX G hmg
    refine' AL.all_mk KX G hmg ?h_aC_Dyadic ?h_pg_Dyadic ?h_hd_Dyadic ?h_po_Dyadic ?h_sa_Dyadic ?h_ha_Dyadic ?h_mr_Dyadic ?h_kc_Dyadic ?h_sf_Dyadic ?h_no_Dyadic__top ?h_no_Dyadic__power ?h_mk_Dyadic ?h_aC_Wall ?h_pg_Wall ?h_hd_Wall ?h_po_Wall ?h_sa_Wall ?h_ha_Wall ?h_mr_Wall ?h_kc_Wall ?h_no_Wall__points ?h_no_Wall__slopes ?h_mk_Wall ?h_hn_ ?h_htk_ ?h_aC_BadText ?h_aC_BadValue ?h_x_BadValue ?h_k_BadValue ?h_eb_BadValue ?h_et_BadValue ?h_aC_NoMove ?h_aC_PlayError ?h_aC_Unknown ?h_xg_BadValue ?h_xk_BadValue ?h_xa_BadValue ?h_xm_BadValue ?h_eb_PlayError ?h_xd_BadValue ?h_xs_BadValue_BadValue ?h_xd_PlayError ?h_et_PlayError ?h_xs_BadValue_PlayError ?h_xd_BadText ?h_et_BadText ?h_xs_BadValue_BadText ?h_xs_BadText_BadText ?h_xd_Unknown ?h_et_Unknown ?h_xs_BadValue_Unknown ?h_xs_Unknown_Unknown ?h_xd_NoMove ?h_et_NoMove ?h_xs_BadValue_NoMove ?h_xs_NoMove_NoMove ?h_xv_BadValue ?h_g_POWER_MOST ?h_g_TOP_MOST ?h_n_ValueError ?h_n_bool ?h_n_enumerate ?h_n_int ?h_n_isinstance ?h_n_len ?h_n_list ?h_n_max ?h_n_min ?h_n_range ?h_n_tuple ?h_a_law_digits_6b3a3527 ?h_l_law_digits_6b3a3527 ?h_c_law_digits_6b3a3527 ?h_k_law_digits_6b3a3527 ?h_a_law_drawn_c20d4a75 ?h_l_law_drawn_c20d4a75 ?h_c_law_drawn_c20d4a75 ?h_k_law_drawn_c20d4a75 ?h_a_law_cell_49a05b28 ?h_l_law_cell_49a05b28 ?h_c_law_cell_49a05b28 ?h_k_law_cell_49a05b28 ?h_a_Dyadic_top ?h_pget_Dyadic_top ?h_ptak_Dyadic_top ?h_prec_Dyadic_top ?h_l_Dyadic_top ?h_c_Dyadic_top ?h_k_Dyadic_top ?h_a_Dyadic_power ?h_pget_Dyadic_power ?h_ptak_Dyadic_power ?h_prec_Dyadic_power ?h_l_Dyadic_power ?h_c_Dyadic_power ?h_k_Dyadic_power ?h_a_Dyadic_less ?h_i_Dyadic_less ?h_l_Dyadic_less ?h_c_Dyadic_less ?h_k_Dyadic_less ?h_a_reduced ?h_l_reduced ?h_c_reduced ?h_k_reduced ?h_a_is_integer ?h_l_is_integer ?h_c_is_integer ?h_k_is_integer ?h_a_Dyadic_init ?h_i_Dyadic_init ?h_l_Dyadic_init ?h_c_Dyadic_init ?h_k_Dyadic_init ?h_lT_Dyadic_init ?h_a_Dyadic_add ?h_i_Dyadic_add ?h_l_Dyadic_add ?h_c_Dyadic_add ?h_k_Dyadic_add ?h_a_Dyadic_neg ?h_i_Dyadic_neg ?h_l_Dyadic_neg ?h_c_Dyadic_neg ?h_k_Dyadic_neg ?h_a_Dyadic_sub ?h_i_Dyadic_sub ?h_l_Dyadic_sub ?h_c_Dyadic_sub ?h_k_Dyadic_sub ?h_a_Dyadic_same ?h_i_Dyadic_same ?h_l_Dyadic_same ?h_c_Dyadic_same ?h_k_Dyadic_same ?h_a_times ?h_l_times ?h_c_times ?h_k_times ?h_a_slope_between ?h_l_slope_between ?h_c_slope_between ?h_k_slope_between ?h_a_Wall_init ?h_i_Wall_init ?h_l_Wall_init ?h_c_Wall_init ?h_k_Wall_init ?h_a_law_pairs_7c2080d5 ?h_l_law_pairs_7c2080d5 ?h_c_law_pairs_7c2080d5 ?h_k_law_pairs_7c2080d5 ?h_a_law_is_integer_fcf59962 ?h_l_law_is_integer_fcf59962 ?h_c_law_is_integer_fcf59962 ?h_k_law_is_integer_fcf59962 ?h_a_law_plain_41305dcc ?h_l_law_plain_41305dcc ?h_c_law_plain_41305dcc ?h_k_law_plain_41305dcc ?h_a_law_is_d09be0d2 ?h_l_law_is_d09be0d2 ?h_c_law_is_d09be0d2 ?h_k_law_is_d09be0d2 ?h_a_law_place_8b093576 ?h_l_law_place_8b093576 ?h_c_law_place_8b093576 ?h_k_law_place_8b093576 ?h_a_law_at_ade38b70 ?h_l_law_at_ade38b70 ?h_c_law_at_ade38b70 ?h_k_law_at_ade38b70 ?h_a_Wall_place ?h_i_Wall_place ?h_l_Wall_place ?h_c_Wall_place ?h_k_Wall_place ?h_a_Wall_at ?h_i_Wall_at ?h_l_Wall_at ?h_c_Wall_at ?h_k_Wall_at ?h_a_Wall_slope_at ?h_i_Wall_slope_at ?h_l_Wall_slope_at ?h_c_Wall_slope_at ?h_k_Wall_slope_at ?h_a_law_cut_7d8ca634 ?h_l_law_cut_7d8ca634 ?h_c_law_cut_7d8ca634 ?h_k_law_cut_7d8ca634 ?h_a_Wall_cut ?h_i_Wall_cut ?h_l_Wall_cut ?h_c_Wall_cut ?h_k_Wall_cut ?h_a_Wall_slope ?h_pget_Wall_slope ?h_ptak_Wall_slope ?h_prec_Wall_slope ?h_l_Wall_slope ?h_c_Wall_slope ?h_k_Wall_slope ?h_a_Wall_points ?h_i_Wall_points ?h_l_Wall_points ?h_c_Wall_points ?h_k_Wall_points ?h_a_law_told_74f31f6a ?h_l_law_told_74f31f6a ?h_c_law_told_74f31f6a ?h_k_law_told_74f31f6a ?h_a_law_asked_55bd0f0b ?h_l_law_asked_55bd0f0b ?h_c_law_asked_55bd0f0b ?h_k_law_asked_55bd0f0b ?h_a_Wall_tilted ?h_i_Wall_tilted ?h_l_Wall_tilted ?h_c_Wall_tilted ?h_k_Wall_tilted ?h_a_law_is_only_611d9904 ?h_l_law_is_only_611d9904 ?h_c_law_is_only_611d9904 ?h_k_law_is_only_611d9904 ?h_a_law_refused_79b82729 ?h_l_law_refused_79b82729 ?h_c_law_refused_79b82729 ?h_k_law_refused_79b82729 ?h_a_law_tilted_ff5ba2ea ?h_l_law_tilted_ff5ba2ea ?h_c_law_tilted_ff5ba2ea ?h_k_law_tilted_ff5ba2ea ?h_a_Wall_turned ?h_i_Wall_turned ?h_l_Wall_turned ?h_c_Wall_turned ?h_k_Wall_turned ?h_a_law_10e31170 ?h_l_law_10e31170 ?h_c_law_10e31170 ?h_k_law_10e31170
    (case h_aC_Dyadic => k_is)
    (case h_pg_Dyadic => k_is)
    (case h_hd_Dyadic => k_is)
    (case h_po_Dyadic => k_is)
    (case h_sa_Dyadic => k_is)
    (case h_ha_Dyadic => k_is)
    (case h_mr_Dyadic => k_is)
    (case h_kc_Dyadic => k_is)
    (case h_sf_Dyadic => k_is)
    (case h_no_Dyadic__top => k_is)
    (case h_no_Dyadic__power => k_is)
    (case h_mk_Dyadic => k_is)
    (case h_aC_Wall => k_is)
    (case h_pg_Wall => k_is)
    (case h_hd_Wall => k_is)
    (case h_po_Wall => k_is)
    (case h_sa_Wall => k_is)
    (case h_ha_Wall => k_is)
    (case h_mr_Wall => k_is)
    (case h_kc_Wall => k_is)
    (case h_no_Wall__points => k_is)
    (case h_no_Wall__slopes => k_is)
    (case h_mk_Wall => k_is)
    (case h_hn_ => k_is)
    (case h_htk_ => k_is)
    (case h_aC_BadText => k_is)
    (case h_aC_BadValue => k_is)
    (case h_x_BadValue => k_exc)
    (case h_k_BadValue => k_is)
    (case h_eb_BadValue => k_is)
    (case h_et_BadValue => k_is)
    (case h_aC_NoMove => k_is)
    (case h_aC_PlayError => k_is)
    (case h_aC_Unknown => k_is)
    (case h_xg_BadValue => k_is)
    (case h_xk_BadValue => k_is)
    (case h_xa_BadValue => k_is)
    (case h_xm_BadValue => k_is)
    (case h_eb_PlayError => k_is)
    (case h_xd_BadValue => k_is)
    (case h_xs_BadValue_BadValue => k_is)
    (case h_xd_PlayError => k_is)
    (case h_et_PlayError => k_is)
    (case h_xs_BadValue_PlayError => k_is)
    (case h_xd_BadText => k_is)
    (case h_et_BadText => k_is)
    (case h_xs_BadValue_BadText => k_is)
    (case h_xs_BadText_BadText => k_is)
    (case h_xd_Unknown => k_is)
    (case h_et_Unknown => k_is)
    (case h_xs_BadValue_Unknown => k_is)
    (case h_xs_Unknown_Unknown => k_is)
    (case h_xd_NoMove => k_is)
    (case h_et_NoMove => k_is)
    (case h_xs_BadValue_NoMove => k_is)
    (case h_xs_NoMove_NoMove => k_is)
    (case h_xv_BadValue => k_is)
    (case h_g_POWER_MOST => k_is)
    (case h_g_TOP_MOST => k_is)
    (case h_n_ValueError => k_is)
    (case h_n_bool => k_is)
    (case h_n_enumerate => k_is)
    (case h_n_int => k_is)
    (case h_n_isinstance => k_is)
    (case h_n_len => k_is)
    (case h_n_list => k_is)
    (case h_n_max => k_is)
    (case h_n_min => k_is)
    (case h_n_range => k_is)
    (case h_n_tuple => k_is)
    (case h_a_law_digits_6b3a3527 => k_is)
    (case h_l_law_digits_6b3a3527 => k_is)
    (case h_c_law_digits_6b3a3527 => k_is)
    (case h_k_law_digits_6b3a3527 => k_is)
    (case h_a_law_drawn_c20d4a75 => k_is)
    (case h_l_law_drawn_c20d4a75 => k_is)
    (case h_c_law_drawn_c20d4a75 => k_is)
    (case h_k_law_drawn_c20d4a75 => k_is)
    (case h_a_law_cell_49a05b28 => k_is)
    (case h_l_law_cell_49a05b28 => k_is)
    (case h_c_law_cell_49a05b28 => k_is)
    (case h_k_law_cell_49a05b28 => k_is)
    (case h_a_Dyadic_top => k_is)
    (case h_pget_Dyadic_top => k_is)
    (case h_ptak_Dyadic_top => k_is)
    (case h_prec_Dyadic_top => k_is)
    (case h_l_Dyadic_top => k_is)
    (case h_c_Dyadic_top => k_is)
    (case h_k_Dyadic_top => k_is)
    (case h_a_Dyadic_power => k_is)
    (case h_pget_Dyadic_power => k_is)
    (case h_ptak_Dyadic_power => k_is)
    (case h_prec_Dyadic_power => k_is)
    (case h_l_Dyadic_power => k_is)
    (case h_c_Dyadic_power => k_is)
    (case h_k_Dyadic_power => k_is)
    (case h_a_Dyadic_less => k_is)
    (case h_i_Dyadic_less => k_is)
    (case h_l_Dyadic_less => k_is)
    (case h_c_Dyadic_less => k_is)
    (case h_k_Dyadic_less => k_is)
    (case h_a_reduced => k_is)
    (case h_l_reduced => k_is)
    (case h_c_reduced => k_is)
    (case h_k_reduced => k_is)
    (case h_a_is_integer => k_is)
    (case h_l_is_integer => k_is)
    (case h_c_is_integer => k_is)
    (case h_k_is_integer => k_is)
    (case h_a_Dyadic_init => k_is)
    (case h_i_Dyadic_init => k_is)
    (case h_l_Dyadic_init => k_is)
    (case h_c_Dyadic_init => k_is)
    (case h_k_Dyadic_init => k_is)
    (case h_lT_Dyadic_init => k_is)
    (case h_a_Dyadic_add => k_is)
    (case h_i_Dyadic_add => k_is)
    (case h_l_Dyadic_add => k_is)
    (case h_c_Dyadic_add => k_is)
    (case h_k_Dyadic_add => k_is)
    (case h_a_Dyadic_neg => k_is)
    (case h_i_Dyadic_neg => k_is)
    (case h_l_Dyadic_neg => k_is)
    (case h_c_Dyadic_neg => k_is)
    (case h_k_Dyadic_neg => k_is)
    (case h_a_Dyadic_sub => k_is)
    (case h_i_Dyadic_sub => k_is)
    (case h_l_Dyadic_sub => k_is)
    (case h_c_Dyadic_sub => k_is)
    (case h_k_Dyadic_sub => k_is)
    (case h_a_Dyadic_same => k_is)
    (case h_i_Dyadic_same => k_is)
    (case h_l_Dyadic_same => k_is)
    (case h_c_Dyadic_same => k_is)
    (case h_k_Dyadic_same => k_is)
    (case h_a_times => k_is)
    (case h_l_times => k_is)
    (case h_c_times => k_is)
    (case h_k_times => k_is)
    (case h_a_slope_between => k_is)
    (case h_l_slope_between => k_is)
    (case h_c_slope_between => k_is)
    (case h_k_slope_between => k_is)
    (case h_a_Wall_init => k_is)
    (case h_i_Wall_init => k_is)
    (case h_l_Wall_init => k_is)
    (case h_c_Wall_init => k_is)
    (case h_k_Wall_init => k_is)
    (case h_a_law_pairs_7c2080d5 => k_is)
    (case h_l_law_pairs_7c2080d5 => k_is)
    (case h_c_law_pairs_7c2080d5 => k_is)
    (case h_k_law_pairs_7c2080d5 => k_is)
    (case h_a_law_is_integer_fcf59962 => k_is)
    (case h_l_law_is_integer_fcf59962 => k_is)
    (case h_c_law_is_integer_fcf59962 => k_is)
    (case h_k_law_is_integer_fcf59962 => k_is)
    (case h_a_law_plain_41305dcc => k_is)
    (case h_l_law_plain_41305dcc => k_is)
    (case h_c_law_plain_41305dcc => k_is)
    (case h_k_law_plain_41305dcc => k_is)
    (case h_a_law_is_d09be0d2 => k_is)
    (case h_l_law_is_d09be0d2 => k_is)
    (case h_c_law_is_d09be0d2 => k_is)
    (case h_k_law_is_d09be0d2 => k_is)
    (case h_a_law_place_8b093576 => k_is)
    (case h_l_law_place_8b093576 => k_is)
    (case h_c_law_place_8b093576 => k_is)
    (case h_k_law_place_8b093576 => k_is)
    (case h_a_law_at_ade38b70 => k_is)
    (case h_l_law_at_ade38b70 => k_is)
    (case h_c_law_at_ade38b70 => k_is)
    (case h_k_law_at_ade38b70 => k_is)
    (case h_a_Wall_place => k_is)
    (case h_i_Wall_place => k_is)
    (case h_l_Wall_place => k_is)
    (case h_c_Wall_place => k_is)
    (case h_k_Wall_place => k_is)
    (case h_a_Wall_at => k_is)
    (case h_i_Wall_at => k_is)
    (case h_l_Wall_at => k_is)
    (case h_c_Wall_at => k_is)
    (case h_k_Wall_at => k_is)
    (case h_a_Wall_slope_at => k_is)
    (case h_i_Wall_slope_at => k_is)
    (case h_l_Wall_slope_at => k_is)
    (case h_c_Wall_slope_at => k_is)
    (case h_k_Wall_slope_at => k_is)
    (case h_a_law_cut_7d8ca634 => k_is)
    (case h_l_law_cut_7d8ca634 => k_is)
    (case h_c_law_cut_7d8ca634 => k_is)
    (case h_k_law_cut_7d8ca634 => k_is)
    (case h_a_Wall_cut => k_is)
    (case h_i_Wall_cut => k_is)
    (case h_l_Wall_cut => k_is)
    (case h_c_Wall_cut => k_is)
    (case h_k_Wall_cut => k_is)
    (case h_a_Wall_slope => k_is)
    (case h_pget_Wall_slope => k_is)
    (case h_ptak_Wall_slope => k_is)
    (case h_prec_Wall_slope => k_is)
    (case h_l_Wall_slope => k_is)
    (case h_c_Wall_slope => k_is)
    (case h_k_Wall_slope => k_is)
    (case h_a_Wall_points => k_is)
    (case h_i_Wall_points => k_is)
    (case h_l_Wall_points => k_is)
    (case h_c_Wall_points => k_is)
    (case h_k_Wall_points => k_is)
    (case h_a_law_told_74f31f6a => k_is)
    (case h_l_law_told_74f31f6a => k_is)
    (case h_c_law_told_74f31f6a => k_is)
    (case h_k_law_told_74f31f6a => k_is)
    (case h_a_law_asked_55bd0f0b => k_is)
    (case h_l_law_asked_55bd0f0b => k_is)
    (case h_c_law_asked_55bd0f0b => k_is)
    (case h_k_law_asked_55bd0f0b => k_is)
    (case h_a_Wall_tilted => k_is)
    (case h_i_Wall_tilted => k_is)
    (case h_l_Wall_tilted => k_is)
    (case h_c_Wall_tilted => k_is)
    (case h_k_Wall_tilted => k_is)
    (case h_a_law_is_only_611d9904 => k_is)
    (case h_l_law_is_only_611d9904 => k_is)
    (case h_c_law_is_only_611d9904 => k_is)
    (case h_k_law_is_only_611d9904 => k_is)
    (case h_a_law_refused_79b82729 => k_is)
    (case h_l_law_refused_79b82729 => k_is)
    (case h_c_law_refused_79b82729 => k_is)
    (case h_k_law_refused_79b82729 => k_is)
    (case h_a_law_tilted_ff5ba2ea => k_is)
    (case h_l_law_tilted_ff5ba2ea => k_is)
    (case h_c_law_tilted_ff5ba2ea => k_is)
    (case h_k_law_tilted_ff5ba2ea => k_is)
    (case h_a_Wall_turned => k_is)
    (case h_i_Wall_turned => k_is)
    (case h_l_Wall_turned => k_is)
    (case h_c_Wall_turned => k_is)
    (case h_k_Wall_turned => k_is)
    (case h_a_law_10e31170 => k_is)
    (case h_l_law_10e31170 => k_is)
    (case h_c_law_10e31170 => k_is)
    (case h_k_law_10e31170 => k_is)
